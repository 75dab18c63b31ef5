import PyProof.Rows.All
import Wide.All
import OpenK.AllK
import Wide.FinOn
import PyProof.EqAt
import PyProof.EqKinds
import PyProof.TupleCall
import HandS.ForMost
import HandS.Walk
import HandS.Conv
import HandS.IsInst
import HandS.ForExc
import HandS.ExcIs
import PySem.Challenge.RW_halfmeshes_k61_partial_meshes

set_option Elab.async false
set_option linter.all false
set_option maxRecDepth 100000
set_option maxHeartbeats 4000000
namespace RD
open PySem PySem.Spec PyProof.Rows L2
section
variable {σ s : L2.St} {H : Hp} {Q : VK} {nx bk ct : L2.St → Hp → Prop} {rt : VK} {te ta tb tc : TE} {t u : TS} {c c2 : TT} {v x : V} {ox : Option V} {i : Nat} {QB : Bool → Hp → Prop}
theorem seq (h : t ⟨u ⟨nx, rt, bk, ct⟩, rt, bk, ct⟩ σ H) : tSeq t u ⟨nx, rt, bk, ct⟩ σ H := h
theorem asg {g : TG} (h : te σ H fun x H1 => g x σ H1 nx) : tAsg te g ⟨nx, rt, bk, ct⟩ σ H := h
theorem ret (h : te σ H rt) : tRet te ⟨nx, rt, bk, ct⟩ σ H := h
theorem retN (h : rt .non H) : tRetN ⟨nx, rt, bk, ct⟩ σ H := h
theorem drp (h : te σ H fun _ H1 => nx σ H1) : tDrop te ⟨nx, rt, bk, ct⟩ σ H := h
theorem ifs (h : c σ H fun b H1 => if b = true then t ⟨nx, rt, bk, ct⟩ σ H1 else u ⟨nx, rt, bk, ct⟩ σ H1) : tIfS c t u ⟨nx, rt, bk, ct⟩ σ H := h
theorem nxt (h : nx σ H) : tNext ⟨nx, rt, bk, ct⟩ σ H := h
theorem brk (h : bk σ H) : tBreak ⟨nx, rt, bk, ct⟩ σ H := h
theorem cnt (h : ct σ H) : tCont ⟨nx, rt, bk, ct⟩ σ H := h
theorem aug {ti : TIp} (h : tVar i σ H fun x _ => te σ H fun y H1 => ti x y H1 fun z H2 => gName i z σ H2 nx) : tAug i te ti ⟨nx, rt, bk, ct⟩ σ H := h
theorem gn0 {QG : L2.St → Hp → Prop} (h : QG (some v :: s) H) : gName 0 v (ox :: s) H QG := h
theorem gnS {QG : L2.St → Hp → Prop} (h : gName i v s H fun s' H' => QG (ox :: s') H') : gName (i + 1) v (ox :: s) H QG := h
theorem var0 (h : Q v H) : tVar 0 (some v :: s) H Q := ⟨v, rfl, h⟩
theorem varS (h : tVar i s H Q) : tVar (i + 1) (ox :: s) H Q := by
  obtain ⟨v, e, q⟩ := h
  exact ⟨v, by simpa using e, q⟩
theorem cst (h : Q v H) : tC v σ H Q := h
theorem op {r : R2} (h : ta σ H fun x H1 => tb σ H1 fun y H2 => r x y H2 Q) : tOp r ta tb σ H Q := h
theorem un {r : V → Hp → VK → Prop} (h : ta σ H fun x H1 => r x H1 Q) : tUn r ta σ H Q := h
theorem i0 {g : Int → Int → V} {a b : Int} (h : Q (g a b) H) : rI0 g (.int a) (.int b) H Q := ⟨a, b, rfl, rfl, h⟩
theorem iC {C : Int → Int → Prop} {g : Int → Int → V} {a b : Int} (hc : C a b) (h : Q (g a b) H) : rI C g (.int a) (.int b) H Q := ⟨a, b, rfl, rfl, hc, h⟩
theorem u0 {g : Int → V} {a : Int} (h : Q (g a) H) : rU g (.int a) H Q := ⟨a, rfl, h⟩
theorem dI {a b : Int} : decide (V.int a = V.int b) = decide (a = b) := by
  by_cases e : a = b
  · rw [decide_eq_true e, e, decide_eq_true rfl]
  · rw [decide_eq_false e, decide_eq_false fun z => e (V.int.inj z)]
theorem dB {a b : Bool} : decide (V.bl a = V.bl b) = decide (a = b) := by
  by_cases e : a = b
  · rw [decide_eq_true e, e, decide_eq_true rfl]
  · rw [decide_eq_false e, decide_eq_false fun z => e (V.bl.inj z)]
theorem dS {a b : Str} : decide (V.str a = V.str b) = decide (a = b) := by
  by_cases e : a = b
  · rw [decide_eq_true e, e, decide_eq_true rfl]
  · rw [decide_eq_false e, decide_eq_false fun z => e (V.str.inj z)]
theorem eqI {a b : Int} (h : Q (.bl (decide (a = b))) H) : rEq (.int a) (.int b) H Q := ⟨rfl, by rw [dI]; exact h⟩
theorem neI {a b : Int} (h : Q (.bl (!decide (a = b))) H) : rNe (.int a) (.int b) H Q := ⟨rfl, by rw [dI]; exact h⟩
theorem eqB {a b : Bool} (h : Q (.bl (decide (a = b))) H) : rEq (.bl a) (.bl b) H Q := ⟨rfl, by rw [dB]; exact h⟩
theorem neB {a b : Bool} (h : Q (.bl (!decide (a = b))) H) : rNe (.bl a) (.bl b) H Q := ⟨rfl, by rw [dB]; exact h⟩
theorem eqS {a b : Str} (h : Q (.bl (decide (a = b))) H) : rEq (.str a) (.str b) H Q := ⟨rfl, by rw [dS]; exact h⟩
theorem neS {a b : Str} (h : Q (.bl (!decide (a = b))) H) : rNe (.str a) (.str b) H Q := ⟨rfl, by rw [dS]; exact h⟩
theorem tst (h : te σ H fun x H' => ∃ k, x = .bl k ∧ QB k H') : tTest te σ H QB := h
theorem tb' (h : te σ H fun x H' => ∃ k, x = .bl k ∧ QB k H') : tB te σ H QB := h
theorem exb {b : Bool} {P : Bool → Prop} (h : P b) : ∃ k, V.bl b = .bl k ∧ P k := ⟨b, rfl, h⟩
theorem and (h : c σ H fun b H1 => if b = true then c2 σ H1 QB else QB false H1) : tAnd c c2 σ H QB := h
theorem or (h : c σ H fun b H1 => if b = true then QB true H1 else c2 σ H1 QB) : tOr c c2 σ H QB := h
theorem not (h : c σ H fun b H1 => QB (!b) H1) : tNot c σ H QB := h
theorem andV (h : ta σ H fun x H1 => ∃ k, x = .bl k ∧ if k = true then tb σ H1 Q else Q (.bl false) H1) : tAndV ta tb σ H Q := h
theorem orV (h : ta σ H fun x H1 => ∃ k, x = .bl k ∧ if k = true then Q (.bl true) H1 else tb σ H1 Q) : tOrV ta tb σ H Q := h
theorem notV (h : ta σ H fun x H1 => ∃ k, x = .bl k ∧ Q (.bl (!k)) H1) : tNotV ta σ H Q := h
theorem tif (h : c σ H fun b H1 => if b = true then ta σ H1 Q else tb σ H1 Q) : tIf c ta tb σ H Q := h
theorem yes (h : QB true H) : tYes σ H QB := h
theorem chain {r r' : R2} (h : ta σ H fun x H1 => tb σ H1 fun y H2 => r x y H2 fun z H3 => ∃ k, z = .bl k ∧ (if k = true then tc σ H3 fun w' H4 => r' y w' H4 Q else Q (.bl false) H3)) : tChain r r' ta tb tc σ H Q := h
theorem nil {QA : List V → Hp → Prop} (h : QA [] H) : tNil σ H QA := h
theorem cons {QA : List V → Hp → Prop} {tr : TA} (h : ta σ H fun x H1 => tr σ H1 fun xs H2 => QA (x :: xs) H2) : tCons ta tr σ H QA := h
theorem cb {r : List V → Hp → VK → Prop} {tr : TA} (h : tr σ H fun vs H1 => r vs H1 Q) : tCB r tr σ H Q := h
theorem call {sp : Sp} {dvs : List V} {E : XK} {tr : TA} (h : tr σ H fun vs H1 => sp (vs ++ dvs) H1 Q E) : tCall sp dvs E tr σ H Q := h
theorem tup {tr : TA} (h : tr σ H fun xs H1 => xs.length ≤ sizeLine ∧ ∀ p, H1 p = none → Q (.ref p) (upd H1 p (.tup xs))) : tTup tr σ H Q := h
theorem lst {tr : TA} (h : tr σ H fun xs H1 => xs.length ≤ sizeLine ∧ ∀ p, H1 p = none → Q (.ref p) (upd H1 p (.lst xs))) : tLst tr σ H Q := h
theorem sl {r : V → Option Int → Option Int → Hp → VK → Prop} {tl th : TO} (h : te σ H fun x H1 => tl σ H1 fun l H2 => th σ H2 fun u H3 => r x l u H3 Q) : L2.tSl r te tl th σ H Q := h
theorem nop {QO : Option Int → Hp → Prop} (h : QO none H) : tNoPart σ H QO := h
theorem prt {QO : Option Int → Hp → Prop} (h : te σ H fun x H1 => ∃ i, x = .int i ∧ QO (some i) H1) : tPart te σ H QO := h
theorem exi {a : Int} {P : Int → Prop} (h : P a) : ∃ k, V.int a = .int k ∧ P k := ⟨a, rfl, h⟩
theorem bm {K : PySem.W.Frag} {Ty : String} {r : V → List V → Hp → VK → Prop} {tr : TA} (h : te σ H fun x H1 => tyV K Ty x H1 ∧ tr σ H1 fun xs H2 => r x xs H2 Q) : tBM K Ty r te tr σ H Q := h
theorem bm0 {K : PySem.W.Frag} {Ty : String} {r : V → List V → Hp → VK → Prop} (h : te σ H fun x H1 => tyV K Ty x H1 ∧ r x [] H1 Q) : tBM0 K Ty r te σ H Q := h
theorem fld {K : PySem.W.Frag} {f : Str} (h : ta σ H fun x H1 => ∃ a C dx fs v, x = .ref a ∧ H1 a = some (.ins C dx fs) ∧ Cls K C ∧ NoAttr K C f ∧ fs.lookup f = some v ∧ Q v H1) : tFld K ta f σ H Q := h
theorem meth {C : Addr} {m : Str} {sp : Sp} {dvs : List V} {E : XK} {tr : TA} (h : ta σ H fun x H1 => ∃ a dx fs, x = .ref a ∧ H1 a = some (.ins C dx fs) ∧ fs.lookup m = none ∧ tr σ H1 fun vs H2 => sp (x :: (vs ++ dvs)) H2 Q E) : tMeth C m sp dvs E ta tr σ H Q := h
def MKE (C : Addr) (sp : Sp) (dvs : List V) (E : XK) (vs : List V) (H1 : Hp) (Q : VK) : Prop := ∀ x dx, H1 x = none → H1 dx = none → dx ≠ x → sp (.ref x :: (vs ++ dvs)) (upd (upd H1 dx (.own x)) x (.ins C dx [])) (fun v H2 => v = .non ∧ Q (.ref x) H2) E
theorem make {C : Addr} {sp : Sp} {dvs : List V} {E : XK} {tr : TA} (h : tr σ H fun vs H1 => MKE C sp dvs E vs H1 Q) : tMake C sp dvs E tr σ H Q := h
theorem dput {td ty tv : TE} (h : tv σ H fun v H1 => td σ H1 fun x H2 => ty σ H2 fun y H3 => ∃ a H4, x = .ref a ∧ DPut H3 a y v H4 ∧ nx σ H4) : sDPut td ty tv ⟨nx, rt, bk, ct⟩ σ H := h
theorem dget {td ty : TE} (h : td σ H fun x H1 => ty σ H1 fun y H2 => ∃ a v, x = .ref a ∧ DGet H2 a y (some v) ∧ Q v H2) : tDGet td ty σ H Q := h
theorem din {td ty : TE} (h : ty σ H fun y H1 => td σ H1 fun x H2 => ∃ a o, x = .ref a ∧ DGet H2 a y o ∧ Q (.bl o.isSome) H2) : tDIn ty td σ H Q := h
theorem dnin {td ty : TE} (h : ty σ H fun y H1 => td σ H1 fun x H2 => ∃ a o, x = .ref a ∧ DGet H2 a y o ∧ Q (.bl (!o.isSome)) H2) : tDNotIn ty td σ H Q := h
theorem dnew (h : ∀ p, H p = none → Q (.ref p) (upd H p (.dK []))) : tDNewK σ H Q := h
theorem sfld {K : PySem.W.Frag} {tv : TE} {f : Str} (h : tv σ H fun y H1 => ta σ H1 fun x H2 => ∃ a C dx fs, x = .ref a ∧ H2 a = some (.ins C dx fs) ∧ Cls K C ∧ NoAttr K C f ∧ fs.length < 1000 ∧ nx σ (upd H2 a (.ins C dx (putF f y fs)))) : sFld K ta tv f ⟨nx, rt, bk, ct⟩ σ H := h
theorem lrg {tr : L2.St → Hp → (Int → Int → Hp → Prop) → Prop} (h : tr σ H fun a b H1 => RgOk a b ∧ ∀ q, H1 q = none → Q (.ref q) (upd H1 q (.lst (rgV a b)))) : tLstRg tr σ H Q := h
theorem rg1 {QR : Int → Int → Hp → Prop} (h : ta σ H fun x H1 => ∃ n, x = .int n ∧ QR 0 n H1) : tRg1 ta σ H QR := h
theorem dgetK {a : Addr} {kvs : List (Key × V)} {n : Int} {v : V} (h : H a = some (.dK kvs)) (hv : valV kvs (Sum.inl n : Key) = some v) (q : Q v H) : ∃ a' v', V.ref a = .ref a' ∧ DGet H a' (.int n) (some v') ∧ Q v' H := ⟨a, v, rfl, by rw [← hv]; exact DGet.k (k := Sum.inl n) h, q⟩
theorem rep {a : Addr} {xs : List V} {k : Int} (h : H a = some (.lst xs)) (h1 : -1000000 ≤ k) (h2 : k ≤ 1000000) (hl : xs.length * k.toNat ≤ sizeLine) (q : ∀ p, H p = none → Q (.ref p) (upd H p (.lst (List.replicate k.toNat xs).flatten))) : rRep (.ref a) (.int k) H Q := ⟨a, k, xs, rfl, rfl, h, by omega, by omega, hl, q⟩
/-! tests -/
theorem bT {A B : Prop} (h : A) : if true = true then A else B := iteT h
theorem nbF {A B : Prop} (h : A) : if (!false) = true then A else B := iteT h
theorem nbT {A B : Prop} (h : B) : if (!true) = true then A else B := iteF h
theorem bF {A B : Prop} (h : B) : if false = true then A else B := iteF h
theorem dec {p A B : Prop} [Decidable p] (h1 : p → A) (h2 : ¬ p → B) : if decide p = true then A else B := ite2 (fun e => h1 (of_decide_eq_true e)) fun e => h2 fun z => e (decide_eq_true z)
theorem ndec {p A B : Prop} [Decidable p] (h1 : ¬ p → A) (h2 : p → B) : if (!decide p) = true then A else B := by
  by_cases e : p
  · rw [decide_eq_true e]; exact iteF (h2 e)
  · rw [decide_eq_false e]; exact iteT (h1 e)
theorem decT {p A B : Prop} [Decidable p] (e : p) (h : A) : if decide p = true then A else B := by rw [decide_eq_true e]; exact iteT h
theorem decF {p A B : Prop} [Decidable p] (e : ¬ p) (h : B) : if decide p = true then A else B := by rw [decide_eq_false e]; exact iteF h
theorem ndT {p A B : Prop} [Decidable p] (e : ¬ p) (h : A) : if (!decide p) = true then A else B := by rw [decide_eq_false e]; exact iteT h
theorem ndF {p A B : Prop} [Decidable p] (e : p) (h : B) : if (!decide p) = true then A else B := by rw [decide_eq_true e]; exact iteF h
/-! what is read by values -/
theorem ixL {K : PySem.W.Frag} {a : Addr} {xs : List V} {k : Int} (h : SqL K H a xs) (ha : atI xs k = some v) (q : Q v H) : rIxL K (.ref a) (.int k) H Q := ⟨a, xs, k, v, rfl, rfl, h, ha, q⟩
theorem ixT {K : PySem.W.Frag} {a : Addr} {xs : List V} {k : Int} (h : SqT K H a xs) (ha : atI xs k = some v) (q : Q v H) : rIxT K (.ref a) (.int k) H Q := ⟨a, xs, k, v, rfl, rfl, h, ha, q⟩
theorem setL {a : Addr} {xs : List V} {k : Int} {j : Nat} {QH : Hp → Prop} (h : H a = some (.lst xs)) (hk : ixN xs.length k = some j) (q : QH (upd H a (.lst (xs.set j v)))) : rSetL (.ref a) (.int k) v H QH := ⟨a, xs, k, j, rfl, rfl, h, hk, q⟩
theorem gsub {to ti : TE} {ts : TSet} {QG : L2.St → Hp → Prop} (h : to σ H fun o H1 => ti σ H1 fun i H2 => ts o i v H2 fun H3 => QG σ H3) : gSub to ti ts v σ H QG := h
theorem app {a : Addr} {xs : List V} {y : V} (h : H a = some (.lst xs)) (hl : xs.length < sizeLine) (q : Q .non (upd H a (.lst (xs ++ [y])))) : rAppend (.ref a) [y] H Q := ⟨a, xs, y, rfl, rfl, h, hl, q⟩
theorem cat {a b : Addr} {xs ys : List V} (h : H a = some (.lst xs)) (h' : H b = some (.lst ys)) (hl : xs.length + ys.length ≤ sizeLine) (q : ∀ p, H p = none → Q (.ref p) (upd H p (.lst (xs ++ ys)))) : rCat (.ref a) (.ref b) H Q := ⟨a, b, xs, ys, rfl, rfl, h, h', hl, q⟩
theorem slL {K : PySem.W.Frag} {a : Addr} {xs : List V} {lo hi : Option Int} (h : SqL K H a xs) (q : ∀ p, H p = none → Q (.ref p) (upd H p (.lst (cutV xs lo hi)))) : rSlL K (.ref a) lo hi H Q := ⟨a, xs, rfl, h, q⟩
theorem min1 {K : PySem.W.Frag} {a : Addr} {ns : List Int} (h : SqL K H a (ns.map V.int)) (h0 : 0 < ns.length) (q : ∀ m, m ∈ ns → (∀ y, y ∈ ns → m ≤ y) → Q (.int m) H) : rMin K [.ref a] H Q := ⟨a, ns, rfl, h, h0, q⟩
theorem eqD {K : PySem.W.Frag} {x y : V} {d e : PyData} (h1 : Dp K H x d) (h2 : Dp K H y e) (s1 : SeqAt.shaped d = true) (s2 : SeqAt.shaped e = true) (q : Q (.bl (PyData.eqv d e)) H) : rEqD K x y H Q := ⟨d, e, h1, h2, s1, s2, q⟩
theorem neD {K : PySem.W.Frag} {x y : V} {d e : PyData} (h1 : Dp K H x d) (h2 : Dp K H y e) (s1 : SeqAt.shaped d = true) (s2 : SeqAt.shaped e = true) (q : Q (.bl (!PyData.eqv d e)) H) : rNeD K x y H Q := ⟨d, e, h1, h2, s1, s2, q⟩
theorem tyL {K : PySem.W.Frag} {a : Addr} {xs : List V} (h : SqL K H a xs) : tyV K "list" (.ref a) H := Or.inl ⟨rfl, _, h⟩
theorem gtup2 {K : PySem.W.Frag} {i j : Nat} {T : Addr} {x y : V} {QG : L2.St → Hp → Prop} (h : SqT K H T [x, y]) (q : gName i x σ H fun σ1 H1 => gName j y σ1 H1 QG) : gTup K 2 (gCons (gName i) (gCons (gName j) gNil)) (.ref T) σ H QG := ⟨T, [x, y], rfl, h, rfl, x, [y], rfl, y, [], rfl, rfl, q⟩
/-! loops -/
theorem whl (W : Nat → L2.St → Hp → Prop) (m : Nat) (h0 : W m σ H) (hs : ∀ m σ H, W m σ H → c σ H fun b H1 => if b = true then ∃ N : L2.St → Hp → Prop, (∀ σ' H', N σ' H' → ∃ m', m' < m ∧ W m' σ' H') ∧ t ⟨N, rt, nx, N⟩ σ H1 else nx σ H1) : tWhile c t ⟨nx, rt, bk, ct⟩ σ H := ⟨W, ⟨m, h0⟩, hs⟩
theorem wN {m : Nat} {W : Nat → L2.St → Hp → Prop} (h : t ⟨fun σ' H' => ∃ m', m' < m ∧ W m' σ' H', rt, nx, fun σ' H' => ∃ m', m' < m ∧ W m' σ' H'⟩ σ H) : ∃ N : L2.St → Hp → Prop, (∀ σ' H', N σ' H' → ∃ m', m' < m ∧ W m' σ' H') ∧ t ⟨N, rt, nx, N⟩ σ H := ⟨_, fun _ _ h => h, h⟩
def FR (J : It) (g : TG) (t : TS) (nx : L2.St → Hp → Prop) (rt : VK) (σ : L2.St) (H : Hp) : Prop := ∃ W : Nat → Nat → L2.St → Hp → Prop, (∃ m, W 0 m σ H) ∧ ∀ i m σ H, W i m σ H →
  (J.stop i H ∧ nx σ H) ∨ (J.go i H ∧ ∃ N : L2.St → Hp → Prop, (∀ σ' H', N σ' H' → ∃ m', m' < m ∧ W (i + 1) m' σ' H') ∧ ∀ x H', J.yld i H x H' → g x σ H' fun σ2 H2 => t ⟨N, rt, nx, N⟩ σ2 H2)
def LR (J : It) (g : TG) (tt : TT) (te : TE) (vs : List Nat) (σ : L2.St) (H : Hp) (Q : VK) : Prop := ∀ D, H D = none → ∃ W : Nat → Nat → Hp → Prop, (∃ m, W 0 m (upd H D (.lst []))) ∧ ∀ i m H, W i m H →
  (J.stop i H ∧ Q (.ref D) H) ∨ (J.go i H ∧ ∃ Nx : Hp → Prop, (∀ H', Nx H' → ∃ m', m' < m ∧ W (i + 1) m' H') ∧ ∀ x H', J.yld i H x H' → g x (wipe σ vs) H' fun σ2 H2 => wipe σ2 vs = wipe σ vs ∧ tt σ2 H2 fun b H3 =>
    if b = true then te σ2 H3 fun y H4 => ∃ acc, H4 D = some (.lst acc) ∧ acc.length < sizeLine ∧ Nx (upd H4 D (.lst (acc ++ [y]))) else Nx H3)
theorem for_ {wi : TI} {g : TG} (h : wi σ H fun J H1 => FR J g t nx rt σ H1) : tFor wi g t ⟨nx, rt, bk, ct⟩ σ H := h
theorem lc_ {wi : TI} {g : TG} {tt : TT} {vs : List Nat} (h : wi σ H fun J H1 => LR J g tt te vs σ H1 Q) : tLc wi g tt te vs σ H Q := h
theorem iL {K : PySem.W.Frag} {R : It → Hp → Prop} (h : te σ H fun x H1 => ∃ a, x = .ref a ∧ (∃ xs, SqL K H1 a xs) ∧ R (Itl K a) H1) : iList K te σ H R := h
theorem iT {K : PySem.W.Frag} {R : It → Hp → Prop} (h : te σ H fun x H1 => ∃ a, x = .ref a ∧ (∃ xs, SqT K H1 a xs) ∧ R (Itt K a) H1) : iTup K te σ H R := h
theorem iR1 {tr : TA} {R : It → Hp → Prop} (h : tr σ H fun vs H1 => ∃ j : Int, vs = [.int j] ∧ -(2 ^ 62) ≤ j ∧ j < 2 ^ 62 ∧ R (Itr 0 j.toNat) H1) : iRng1 tr σ H R := h
theorem iR2 {tr : TA} {R : It → Hp → Prop} (h : tr σ H fun vs H1 => ∃ i j : Int, vs = [.int i, .int j] ∧ (-(2 ^ 62) ≤ i ∧ i < 2 ^ 62 ∧ -(2 ^ 62) ≤ j ∧ j < 2 ^ 62) ∧ R (Itr i (j - i).toNat) H1) : iRng2 tr σ H R := h
theorem iE {K : PySem.W.Frag} {tr : TA} {R : It → Hp → Prop} (h : tr σ H fun vs H1 => ∃ a xs, vs = [.ref a] ∧ SqL K H1 a xs ∧ R (Ite K a) H1) : iEnum K tr σ H R := h
theorem iZ {K : PySem.W.Frag} {tr : TA} {R : It → Hp → Prop} (h : tr σ H fun vs H1 => ∃ a b xs ys, vs = [.ref a, .ref b] ∧ SqL K H1 a xs ∧ SqL K H1 b ys ∧ R (Itz K a b) H1) : iZip K tr σ H R := h
theorem iS {R : It → Hp → Prop} (h : te σ H fun v H1 => ∃ x, v = .str x ∧ R (Its x) H1) : iStr te σ H R := h
theorem goL {K : PySem.W.Frag} {g : TG} {a : Addr} {xs : List V} (hq : SqL K H a xs) (Pv : Nat → L2.St → Hp → Prop) (h0 : Pv 0 σ H) (hG : ∀ i σ H, i ≤ xs.length → Pv i σ H → SqL K H a xs)
    (turn : ∀ i x σ H, xs[i]? = some x → Pv i σ H → g x σ H fun σ2 H2 => t ⟨Pv (i + 1), rt, nx, Pv (i + 1)⟩ σ2 H2) (hd : ∀ σ H, Pv xs.length σ H → nx σ H) :
    ∃ a', V.ref a = .ref a' ∧ (∃ ys, SqL K H a' ys) ∧ FR (Itl K a') g t nx rt σ H := ⟨a, rfl, ⟨_, hq⟩, for_list (D := ⟨nx, rt, nx, nx⟩) Pv h0 hG turn hd⟩
theorem goT {K : PySem.W.Frag} {g : TG} {a : Addr} {xs : List V} (hq : SqT K H a xs) (Pv : Nat → L2.St → Hp → Prop) (h0 : Pv 0 σ H) (hG : ∀ i σ H, i ≤ xs.length → Pv i σ H → SqT K H a xs)
    (turn : ∀ i x σ H, xs[i]? = some x → Pv i σ H → g x σ H fun σ2 H2 => t ⟨Pv (i + 1), rt, nx, Pv (i + 1)⟩ σ2 H2) (hd : ∀ σ H, Pv xs.length σ H → nx σ H) :
    ∃ a', V.ref a = .ref a' ∧ (∃ ys, SqT K H a' ys) ∧ FR (Itt K a') g t nx rt σ H := ⟨a, rfl, ⟨_, hq⟩, for_tup (D := ⟨nx, rt, nx, nx⟩) Pv h0 hG turn hd⟩
theorem goR {g : TG} {z : Int} {n : Nat} (hz : z.toNat = n) (hz2 : z < 1000000000) (hz1 : -1000000000 < z) (Pv : Nat → L2.St → Hp → Prop) (h0 : Pv 0 σ H)
    (turn : ∀ i σ H, i < n → Pv i σ H → g (.int (i : Nat)) σ H fun σ2 H2 => t ⟨Pv (i + 1), rt, nx, Pv (i + 1)⟩ σ2 H2) (hd : ∀ σ H, Pv n σ H → nx σ H) :
    ∃ j : Int, [V.int z] = [.int j] ∧ -(2 ^ 62) ≤ j ∧ j < 2 ^ 62 ∧ FR (Itr 0 j.toNat) g t nx rt σ H := by
  subst hz
  refine ⟨z, rfl, by omega, by omega, for_range (D := ⟨nx, rt, nx, nx⟩) Pv h0 (fun i σ H hi hp => ?_) hd⟩
  have e : (0 + (i : Int)) = ((i : Nat) : Int) := by omega
  rw [e]
  exact turn i σ H hi hp
theorem goR2 {g : TG} {y z : Int} {n : Nat} (hz : (z - y).toNat = n) (hb : -1000000000 < y ∧ y < 1000000000 ∧ -1000000000 < z ∧ z < 1000000000) (Pv : Nat → L2.St → Hp → Prop) (h0 : Pv 0 σ H)
    (turn : ∀ i σ H, i < n → Pv i σ H → g (.int (y + i)) σ H fun σ2 H2 => t ⟨Pv (i + 1), rt, nx, Pv (i + 1)⟩ σ2 H2) (hd : ∀ σ H, Pv n σ H → nx σ H) :
    ∃ i j : Int, [V.int y, V.int z] = [.int i, .int j] ∧ (-(2 ^ 62) ≤ i ∧ i < 2 ^ 62 ∧ -(2 ^ 62) ≤ j ∧ j < 2 ^ 62) ∧ FR (Itr i (j - i).toNat) g t nx rt σ H := by
  subst hz
  exact ⟨y, z, rfl, ⟨by omega, by omega, by omega, by omega⟩, for_range (D := ⟨nx, rt, nx, nx⟩) Pv h0 turn hd⟩
theorem goE {K : PySem.W.Frag} {g : TG} {a : Addr} {xs : List V} (hq : SqL K H a xs) (Pv : Nat → L2.St → Hp → Prop) (h0 : Pv 0 σ H) (hG : ∀ i σ H, i ≤ xs.length → Pv i σ H → SqL K H a xs)
    (turn : ∀ i x σ H T, xs[i]? = some x → Pv i σ H → H T = none → g (.ref T) σ (upd H T (.tup [.int (i : Nat), x])) fun σ2 H2 => t ⟨Pv (i + 1), rt, nx, Pv (i + 1)⟩ σ2 H2) (hd : ∀ σ H, Pv xs.length σ H → nx σ H) :
    ∃ a' ys, [V.ref a] = [.ref a'] ∧ SqL K H a' ys ∧ FR (Ite K a') g t nx rt σ H := by
  refine ⟨a, xs, rfl, hq, for_it (D := ⟨nx, rt, nx, nx⟩) walk_enum Pv h0 hG (fun i x σ H H' hi hp y => ?_) hd⟩
  obtain ⟨T, x1, x2, rfl, hT, rfl, e1, e2⟩ := y
  cases e1
  exact turn i x2 σ H T e2 hp hT
/-! a new list by a comprehension -/
theorem same_new {H : Hp} {p : Addr} {o : HO} (h : H p = none) : Same H (upd H p o) := fun b x e => by
  rw [upd_ne (ne_of_none e h)]
  exact e
theorem same_mut {H H' : Hp} {p : Addr} {o : HO} (e : Same H H') (h : H p = none) : Same H (upd H' p o) := fun a u ha => by
  rw [upd_ne (ne_of_none ha h)]
  exact e a u ha
/-- what a comprehension collects: f of the items that pass p -/
def pick {α β : Type} (p : α → Bool) (f : α → β) : List α → List β
  | [] => []
  | a :: r => if p a = true then f a :: pick p f r else pick p f r
theorem pick_app {α β : Type} {p : α → Bool} {f : α → β} : ∀ (l r : List α), pick p f (l ++ r) = pick p f l ++ pick p f r
  | [], r => rfl
  | a :: l, r => by
    show (if p a = true then f a :: pick p f (l ++ r) else pick p f (l ++ r)) = (if p a = true then f a :: pick p f l else pick p f l) ++ pick p f r
    rw [pick_app l r]
    by_cases h : p a = true
    · rw [if_pos h, if_pos h]; rfl
    · rw [if_neg h, if_neg h]
theorem pick_len {α β : Type} {p : α → Bool} {f : α → β} : ∀ (l : List α), (pick p f l).length ≤ l.length
  | [] => Nat.le_refl _
  | a :: l => by
    show (if p a = true then f a :: pick p f l else pick p f l).length ≤ l.length + 1
    have := pick_len (p := p) (f := f) l
    by_cases h : p a = true
    · rw [if_pos h, List.length_cons]; omega
    · rw [if_neg h]; omega
theorem pick_all {α β : Type} {p : α → Bool} {f : α → β} (h : ∀ a, p a = true) : ∀ (l : List α), pick p f l = l.map f
  | [] => rfl
  | a :: l => by
    show (if p a = true then f a :: pick p f l else pick p f l) = f a :: l.map f
    rw [if_pos (h a), pick_all h l]
theorem pick_filter {α β : Type} {p : α → Bool} {f : α → β} : ∀ (l : List α), pick p f l = (l.filter p).map f
  | [] => rfl
  | a :: l => by
    show (if p a = true then f a :: pick p f l else pick p f l) = _
    by_cases h : p a = true
    · rw [if_pos h, List.filter_cons_of_pos h, List.map_cons, pick_filter l]
    · rw [if_neg h, List.filter_cons_of_neg h, pick_filter l]
theorem take_one {α : Type} {l : List α} {i : Nat} {x : α} (h : l[i]? = some x) : l.take (i + 1) = l.take i ++ [x] := by
  rw [List.take_add_one, h]; rfl
theorem lcAny {J : It} {g : TG} {tt : TT} {vs : List Nat} {n : Nat} {G : Hp → Prop} {Y : Nat → Hp → V → Hp → Prop} (w : Walk J n G Y) {α : Type} (al : List α) (hal : al.length = n) (hsz : n ≤ sizeLine) (p : α → Bool) (f : α → V) (h0G : G H) (hGs : ∀ H', Same H H' → G H')
    (hY : ∀ i H1 x H2, Same H H1 → Y i H1 x H2 → Same H1 H2)
    (turn : ∀ i a x H1 H2 (Q' : VK) (R' : Hp → Prop), al[i]? = some a → Same H H1 → Y i H1 x H2 → (p a = true → ∀ H4, Same H2 H4 → Q' (f a) H4) → (p a = false → ∀ H4, Same H2 H4 → R' H4) →
      g x (wipe σ vs) H2 fun σ2 H3 => wipe σ2 vs = wipe σ vs ∧ tt σ2 H3 fun b H5 => if b = true then te σ2 H5 Q' else R' H5)
    (hd : ∀ H' q, H q = none → Same H H' → H' q = some (.lst (pick p f al)) → Q (.ref q) H') : LR J g tt te vs σ H Q := by
  intro D hD
  refine lc_it w (fun i H1 => Same H H1 ∧ H1 D = some (.lst (pick p f (al.take i)))) ⟨same_new hD, by rw [upd_same]; rfl⟩ (fun i H1 _ hp => hGs _ hp.1) (fun i x H1 H2 hi hp y => ?_) (fun H1 hp => ?_)
  · have hi' : i < al.length := by omega
    have ga : al[i]? = some al[i] := List.getElem?_eq_getElem hi'
    have sm := hY i H1 x H2 hp.1 y
    refine turn i al[i] x H1 H2 _ _ ga hp.1 y (fun ht H4 s4 => ?_) (fun hf H4 s4 => ?_)
    · have e4 : H4 D = some (.lst (pick p f (al.take i))) := s4 _ _ (sm _ _ hp.2)
      refine ⟨_, e4, ?_, same_mut ((hp.1.trans sm).trans s4) hD, ?_⟩
      · have := pick_len (p := p) (f := f) (al.take i)
        rw [List.length_take] at this
        exact Nat.lt_of_lt_of_le (Nat.lt_of_le_of_lt this (by omega : min i al.length < n)) hsz
      · rw [upd_same, take_one ga, pick_app]
        show _ = some (HO.lst (_ ++ (if p al[i] = true then [f al[i]] else [])))
        rw [if_pos ht]
    · have e4 : H4 D = some (.lst (pick p f (al.take i))) := s4 _ _ (sm _ _ hp.2)
      refine ⟨(hp.1.trans sm).trans s4, ?_⟩
      rw [e4, take_one ga, pick_app]
      show _ = some (HO.lst (_ ++ (if p al[i] = true then [f al[i]] else [])))
      rw [if_neg (by rw [hf]; exact Bool.false_ne_true), List.append_nil]
  · have e := hp.2
    rw [← hal, List.take_length] at e
    exact hd H1 D hD hp.1 e
theorem lcL {K : PySem.W.Frag} {g : TG} {tt : TT} {vs : List Nat} {a : Addr} {xs : List V} (hq : SqL K H a xs) (hsz : xs.length ≤ sizeLine) (p : V → Bool) (f : V → V)
    (turn : ∀ (i : Nat) x H1 (Q' : VK) (R' : Hp → Prop), xs[i]? = some x → Same H H1 → (p x = true → ∀ H4, Same H1 H4 → Q' (f x) H4) → (p x = false → ∀ H4, Same H1 H4 → R' H4) →
      g x (wipe σ vs) H1 fun σ2 H3 => wipe σ2 vs = wipe σ vs ∧ tt σ2 H3 fun b H5 => if b = true then te σ2 H5 Q' else R' H5)
    (hd : ∀ H' q, H q = none → Same H H' → H' q = some (.lst (pick p f xs)) → Q (.ref q) H') :
    ∃ a', V.ref a = .ref a' ∧ (∃ ys, SqL K H a' ys) ∧ LR (Itl K a') g tt te vs σ H Q := by
  refine ⟨a, rfl, ⟨_, hq⟩, lcAny (walk_list (K := K) (a := a) (xs := xs)) xs rfl hsz p f hq (fun H' s => s.seq hq) (fun i H1 x H2 s y => ?_) (fun i b x H1 H2 Q' R' hb s y kT kF => ?_) hd⟩
  · obtain ⟨rfl, _⟩ := y
    exact Same.refl _
  · obtain ⟨rfl, y⟩ := y
    rw [y] at hb
    cases hb
    exact turn i b _ Q' R' y s kT kF
theorem lcR {g : TG} {tt : TT} {vs : List Nat} {z : Int} {n : Nat} (hz : z.toNat = n) (hz2 : z < 1000000) (hz1 : -1000000 < z) (p : Nat → Bool) (f : Nat → V)
    (turn : ∀ i H1 (Q' : VK) (R' : Hp → Prop), i < n → Same H H1 → (p i = true → ∀ H4, Same H1 H4 → Q' (f i) H4) → (p i = false → ∀ H4, Same H1 H4 → R' H4) →
      g (.int (i : Nat)) (wipe σ vs) H1 fun σ2 H3 => wipe σ2 vs = wipe σ vs ∧ tt σ2 H3 fun b H5 => if b = true then te σ2 H5 Q' else R' H5)
    (hd : ∀ H' q, H q = none → Same H H' → H' q = some (.lst (pick p f (List.range n))) → Q (.ref q) H') :
    ∃ j : Int, [V.int z] = [.int j] ∧ -(2 ^ 62) ≤ j ∧ j < 2 ^ 62 ∧ LR (Itr 0 j.toNat) g tt te vs σ H Q := by
  subst hz
  have hs : z.toNat ≤ sizeLine := Nat.le_trans (by omega : z.toNat ≤ 1000000) (by decide)
  refine ⟨z, rfl, by omega, by omega, lcAny (walk_range (lo := 0) (n := z.toNat)) (List.range z.toNat) (List.length_range) hs p f trivial (fun _ _ => trivial) (fun i H1 x H2 s y => ?_) (fun i b x H1 H2 Q' R' hb s y kT kF => ?_) hd⟩
  · obtain ⟨rfl, _⟩ := y
    exact Same.refl _
  · obtain ⟨rfl, rfl⟩ := y
    obtain ⟨hi, e⟩ := List.getElem?_eq_some_iff.mp hb
    rw [List.getElem_range] at e
    subst e
    rw [List.length_range] at hi
    have e : (0 + (i : Int)) = ((i : Nat) : Int) := by omega
    show g (V.int (0 + (i : Int))) _ _ _
    rw [e]
    exact turn i _ Q' R' hi s kT kF
theorem lcE {K : PySem.W.Frag} {g : TG} {tt : TT} {vs : List Nat} {a : Addr} {xs : List V} (hq : SqL K H a xs) (hsz : xs.length ≤ sizeLine) (p : Nat → Bool) (f : Nat → V)
    (turn : ∀ (i : Nat) x T H1 (Q' : VK) (R' : Hp → Prop), xs[i]? = some x → Same H H1 → H1 T = none → (p i = true → ∀ H4, Same (upd H1 T (.tup [.int (i : Nat), x])) H4 → Q' (f i) H4) → (p i = false → ∀ H4, Same (upd H1 T (.tup [.int (i : Nat), x])) H4 → R' H4) →
      g (.ref T) (wipe σ vs) (upd H1 T (.tup [.int (i : Nat), x])) fun σ2 H3 => wipe σ2 vs = wipe σ vs ∧ tt σ2 H3 fun b H5 => if b = true then te σ2 H5 Q' else R' H5)
    (hd : ∀ H' q, H q = none → Same H H' → H' q = some (.lst (pick p f (List.range xs.length))) → Q (.ref q) H') :
    ∃ a' ys, [V.ref a] = [.ref a'] ∧ SqL K H a' ys ∧ LR (Ite K a') g tt te vs σ H Q := by
  refine ⟨a, xs, rfl, hq, lcAny (walk_enum (K := K) (a := a) (xs := xs)) (List.range xs.length) List.length_range hsz p f hq (fun H' s => s.seq hq) (fun i H1 x H2 s y => ?_) (fun i b x H1 H2 Q' R' hb s y kT kF => ?_) hd⟩
  · obtain ⟨T, x1, x2, rfl, hT, rfl, _, _⟩ := y
    exact same_new hT
  · obtain ⟨T, x1, x2, rfl, hT, rfl, e1, e2⟩ := y
    cases e1
    obtain ⟨hi, e⟩ := List.getElem?_eq_some_iff.mp hb
    rw [List.getElem_range] at e
    subst e
    exact turn i x2 T H1 Q' R' e2 s hT kT kF
end
end RD

namespace RD
open PySem PySem.Spec PyProof.Rows L2
/-! the layer's rules with the written part named K, their readings under a name -/
def rLen (K : PySem.W.Frag) : List V → Hp → VK → Prop := fun xs H Q => ∃ p ys, xs = [.ref p] ∧ (SqL K H p ys ∨ SqT K H p ys) ∧ Q (.int ys.length) H
def rLenD : List V → Hp → VK → Prop := fun xs H Q => ∃ a kvs, xs = [V.ref a] ∧ H a = some (.dK kvs) ∧ Q (.int kvs.length) H
def rLenS : List V → Hp → VK → Prop := fun xs H Q => ∃ z, xs = [.str z] ∧ z.length ≤ sizeLine ∧ Q (.int z.length) H
def rListOf (K : PySem.W.Frag) : List V → Hp → VK → Prop := fun xs H Q => ∃ p ys, xs = [.ref p] ∧ (SqL K H p ys ∨ SqT K H p ys) ∧ ∀ l, H l = none → Q (.ref l) (upd H l (.lst ys))
def rInt : List V → Hp → VK → Prop := fun xs H Q => (∃ i, xs = [.int i] ∧ Q (.int i) H) ∨ ∃ k, xs = [.bl k] ∧ Q (.int (if k then 1 else 0)) H
def rAbs : List V → Hp → VK → Prop := fun xs H Q => ∃ i, xs = [.int i] ∧ Q (.int (if i < 0 then -i else i)) H
def rMax2 : List V → Hp → VK → Prop := fun xs H Q => ∃ i j, xs = [.int i, .int j] ∧ Q (.int (if j > i then j else i)) H
def rMin2 : List V → Hp → VK → Prop := fun xs H Q => ∃ i j, xs = [.int i, .int j] ∧ Q (.int (if j < i then j else i)) H
def rStrI : List V → Hp → VK → Prop := fun xs H Q => ∃ i, xs = [.int i] ∧ i.natAbs.log2 < 1920 ∧ Q (.str (toString i)) H
def rIntS : List V → Hp → VK → Prop := fun xs H Q => ∃ a n, xs = [.str a] ∧ PySem.intText? a = some n ∧ a.length ≤ 640 ∧ Q (.int n) H
def tTru (K : PySem.W.Frag) (ta : TE) : TT := fun σ H Q => ta σ H fun x H' => ∃ k, TruV K x H' k ∧ Q k H'
section
variable {X : Cx} {K : PySem.W.Frag} {e o : Expr} {es : List Expr} {ta to tv te : TE} {tr : TA} {f name : Str} {pos apos cpos pos' p tpos : Pos} {Ty id : String} {r : V → List V → Hp → VK → Prop} {tg : Expr} {kk : Nat}
theorem k_len (h : X.K = K) : CallR X (.builtin "len") (rLen K) := by subst h; exact call_len_seq
theorem k_lenD : CallR X (.builtin "len") rLenD := call_lenD
theorem k_lenS : CallR X (.builtin "len") rLenS := call_len_str
theorem k_list (h : X.K = K) : CallR X (.type "list") (rListOf K) := by subst h; exact call_list_of
theorem k_int : CallR X (.type "int") rInt := call_int1
theorem k_abs : CallR X (.builtin "abs") rAbs := call_abs
theorem k_max2 (hc : X.calm = true) : CallR X (.builtin "max") rMax2 := call_max2 hc
theorem k_min2 (hc : X.calm = true) : CallR X (.builtin "min") rMin2 := call_min2 hc
theorem k_strI : CallR X (.type "str") rStrI := call_str_int
theorem k_intS : CallR X (.type "int") rIntS := call_int_str
theorem k_min (h : X.K = K) (hc : X.calm = true) : CallR X (.builtin "min") (rMin K) := by subst h; exact cr_min hc
theorem k_max (h : X.K = K) (hc : X.calm = true) : CallR X (.builtin "max") (rMax K) := by subst h; exact cr_max hc
theorem k_sum (h : X.K = K) (hc : X.calm = true) : CallR X (.builtin "sum") (rSum K) := by subst h; exact cr_sum hc
theorem k_any (h : X.K = K) (hc : X.calm = true) : CallR X (.builtin "any") (rAny K) := by subst h; exact cr_any hc
theorem k_all (h : X.K = K) (hc : X.calm = true) : CallR X (.builtin "all") (rAll K) := by subst h; exact cr_all hc
theorem k_sorted (h : X.K = K) : CallR X (.builtin "sorted") (rSorted K) := by subst h; exact cr_sorted
theorem k_isi (h : X.K = K) : CallR X (.builtin "isinstance") (rIsi K) := by subst h; exact call_isi
theorem k_ixL (h : X.K = K) : IxR X (rIxL K) := by subst h; exact ix_list
theorem k_ixT (h : X.K = K) : IxR X (rIxT K) := by subst h; exact ix_tup
theorem k_slL (h : X.K = K) : SlR X (rSlL K) := by subst h; exact sl_list
theorem k_slT (h : X.K = K) : SlR X (rSlT K) := by subst h; exact sl_tup
theorem k_in (h : X.K = K) : OpR X (compareOp .In) (rIn K false) := by subst h; exact op_in_seq
theorem k_notin (h : X.K = K) : OpR X (compareOp .NotIn) (rIn K true) := by subst h; exact op_notIn_seq
theorem k_eqD (h : X.K = K) (hu : X.A.units + 64 < cLine) : OpR X (compareOp .Eq) (rEqD K) := by subst h; exact op_eqD hu
theorem k_neD (h : X.K = K) (hu : X.A.units + 64 < cLine) : OpR X (compareOp .NotEq) (rNeD K) := by subst h; exact op_neD hu
theorem k_bm (h : X.K = K) (pa : PlainAttrs Ty) (slot : Slot Ty name id) (hty : typeOf (.builtin id) = pure (.type "method_descriptor")) (hm : MtR X id r) (ho : PE X o to) (ha : PA X (e :: es) tr)
    (hbase : attributeBase o name X.env (eval o X.env) = eval o X.env := by rfl)
    (hfew : ((backTo cpos (starEach (e :: es) X.env)).all (fun x => !x.1) && (backToKw cpos (keywordEach [] X.env)).all (fun x => x.1.isSome)
      && decide ((e :: es).length + ([] : List Keyword).length + (if ([] : List Keyword).isEmpty then 0 else 1) < 30)) = true := by rfl)
    (hline : (apos.endLine == cpos.line) = true := by rfl) (hs : starEach (e :: es) X.env = (false, eval e X.env) :: starEach es X.env := by rfl) (hplain : (backTo cpos (starEach es X.env)).any (·.1) = false := by rfl) :
    PE X (.Call (.Attribute o name apos) (e :: es) [] cpos) (tBM K Ty r to tr) := by subst h; exact pe_bm pa slot hty hm ho ha hbase hfew hline hs hplain
theorem k_bm0 (h : X.K = K) (pa : PlainAttrs Ty) (slot : Slot Ty name id) (hty : typeOf (.builtin id) = pure (.type "method_descriptor")) (hm : MtR X id r) (ho : PE X o to)
    (hbase : attributeBase o name X.env (eval o X.env) = eval o X.env := by rfl) (hline : (apos.endLine == cpos.line) = true := by rfl) : PE X (.Call (.Attribute o name apos) [] [] cpos) (tBM0 K Ty r to) := by subst h; exact pe_bm0 pa slot hty hm ho hbase hline
theorem k_fld (h : X.K = K) (he : PE X e ta) (hb : attributeBase e f X.env (eval e X.env) = eval e X.env) : PE X (.Attribute e f pos) (tFld K ta f) := by subst h; exact pe_fld he hb
theorem k_sfld {value : Expr} (h : X.K = K) (ha : PE X o ta) (hv : PE X value tv) (hs : swapsWith value (some (.Attribute o f pos')) pos.line X.env = pure false) : PS X (.Assign [.Attribute o f pos'] value pos) (sFld K ta tv f) := by subst h; exact ps_fld ha hv hs
theorem k_pil (h : X.K = K) (hl : PE X e ta) : PI X tg e (iList K ta) := by subst h; exact pi_list hl
theorem k_pit (h : X.K = K) (hl : PE X e ta) : PI X tg e (iTup K ta) := by subst h; exact pi_tup hl
theorem k_pie {elts : List Expr} (h : X.K = K) (hg : Gl X "enumerate") (hm : X.mg "enumerate" = none) (ha : PA X [e] tr) (hs : starEach [e] X.env = [(false, eval e X.env)] := by rfl) :
    PI X (.Tuple elts kk tpos) (.Call (.Name "enumerate" p) [e] [] pos) (iEnum K tr) := by subst h; exact pi_enum hg hm ha hs
theorem k_piz {e2 : Expr} {elts : List Expr} (h : X.K = K) (hg : Gl X "zip") (hm : X.mg "zip" = none) (ha : PA X [e, e2] tr)
    (hs : starEach [e, e2] X.env = (false, eval e X.env) :: starEach [e2] X.env := by rfl) (hpl : (backTo pos (starEach [e2] X.env)).any (·.1) = false := by rfl) :
    PI X (.Tuple elts kk tpos) (.Call (.Name "zip" p) [e, e2] [] pos) (iZip K tr) := by subst h; exact pi_zip hg hm ha hs hpl
theorem k_gtup {t : TGs} {n : Nat} (h : X.K = K) (hc : X.calm = true) (hp : PGs X es t)
    (hn : (assignEach es X.env).length = n := by rfl) (hst : (assignEach es X.env).findIdx? (·.1) = none := by rfl) : PG X (.Tuple es kk pos) (gTup K n t) := by subst h; exact pg_tup hc hp hn hst
theorem k_tru (h : X.K = K) (ha : PE X e ta) (he : ∀ whole, isTrue e X.env whole = (do let v ← whole; standAt e.pos; holding [v] (truthy v))) : PT X e (tTru K ta) := by subst h; exact pt_truth ha he
end
/-! their steps -/
section
variable {σ s : L2.St} {H : Hp} {Q : VK} {K : PySem.W.Frag} {a : Addr} {xs : List V} {n m : Int} {ta : TE} {QB : Bool → Hp → Prop}
theorem len (h : SqL K H a xs) (q : Q (.int xs.length) H) : rLen K [.ref a] H Q := ⟨a, xs, rfl, .inl h, q⟩
theorem lenT (h : SqT K H a xs) (q : Q (.int xs.length) H) : rLen K [.ref a] H Q := ⟨a, xs, rfl, .inr h, q⟩
theorem lenD {kvs : List (Key × V)} (h : H a = some (.dK kvs)) (q : Q (.int kvs.length) H) : rLenD [.ref a] H Q := ⟨a, kvs, rfl, h, q⟩
theorem lenS {z : Str} (h : z.length ≤ sizeLine) (q : Q (.int z.length) H) : rLenS [.str z] H Q := ⟨z, rfl, h, q⟩
theorem list (h : SqL K H a xs) (q : ∀ l, H l = none → Q (.ref l) (upd H l (.lst xs))) : rListOf K [.ref a] H Q := ⟨a, xs, rfl, .inl h, q⟩
theorem int1 (q : Q (.int n) H) : rInt [.int n] H Q := .inl ⟨n, rfl, q⟩
theorem abs1 (q : Q (.int (if n < 0 then -n else n)) H) : rAbs [.int n] H Q := ⟨n, rfl, q⟩
theorem max2 (q : Q (.int (if m > n then m else n)) H) : rMax2 [.int n, .int m] H Q := ⟨n, m, rfl, q⟩
theorem min2 (q : Q (.int (if m < n then m else n)) H) : rMin2 [.int n, .int m] H Q := ⟨n, m, rfl, q⟩
theorem strI (h : n.natAbs.log2 < 1920) (q : Q (.str (toString n)) H) : rStrI [.int n] H Q := ⟨n, rfl, h, q⟩
theorem tru (h : ta σ H fun x H' => ∃ k, TruV K x H' k ∧ QB k H') : tTru K ta σ H QB := h
theorem truL (h : SqL K H a xs) {P : Bool → Prop} (q : P (!xs.isEmpty)) : ∃ k, TruV K (.ref a) H k ∧ P k := ⟨_, .inl ⟨xs, h, rfl⟩, q⟩
theorem all1 {bs : List Bool} (h : SqL K H a (bs.map V.bl)) (q : Q (.bl (bs.all id)) H) : rAll K [.ref a] H Q := ⟨a, bs, rfl, h, q⟩
theorem any1 {bs : List Bool} (h : SqL K H a (bs.map V.bl)) (q : Q (.bl (bs.any id)) H) : rAny K [.ref a] H Q := ⟨a, bs, rfl, h, q⟩
theorem sort1 {ns : List Int} (h : SqL K H a (ns.map V.int)) (hl : ns.length < 64) (q : ∀ (ns' : List Int) (p : Addr), ns'.Perm ns → ns'.Pairwise (· ≤ ·) → H p = none → Q (.ref p) (upd H p (.lst (ns'.map V.int)))) : rSorted K [.ref a] H Q := ⟨a, ns, rfl, h, hl, q⟩
theorem isi {x c : V} {t u : Value} {b : Bool} (hc : ClsV c u) (ht : TyX K H x t) (hk : PySem.W.kitOne K t u = some b) (q : Q (.bl b) H) : rIsi K [x, c] H Q := ⟨x, c, t, u, b, rfl, hc, ht, hk, q⟩
theorem inL {x : V} (h : SqL K H a xs) (hx : flatV x = true) (ha : xs.all flatV = true) (q : Q (.bl (inV x xs)) H) : rIn K false x (.ref a) H Q := ⟨a, xs, rfl, .inl h, hx, ha, q⟩
theorem ninL {x : V} (h : SqL K H a xs) (hx : flatV x = true) (ha : xs.all flatV = true) (q : Q (.bl (!inV x xs)) H) : rIn K true x (.ref a) H Q := ⟨a, xs, rfl, .inl h, hx, ha, q⟩
end
/-- a word between a statement and the rest: what follows is shown once -/
def tCut (t u : TS) : TS := fun D σ H => ∃ W : L2.St → Hp → Prop, t ⟨W, D.rt, D.bk, D.ct⟩ σ H ∧ ∀ σ1 H1, W σ1 H1 → u D σ1 H1
theorem pss_cut {X : Cx} {s0 : Stmt} {more : List Stmt} {t u : TS} (a : PS X s0 t) (b : PSs X more u) : PSs X (s0 :: more) (tCut t u) := by
  refine ⟨fun pins s σ H D J hw => ?_⟩
  obtain ⟨W, h1, h2⟩ := hw
  refine wpAny_execs_cons (thn (a.run pins s σ H ⟨W, D.rt, D.bk, D.ct⟩ J h1) fun fl s1 q => ?_)
  cases fl with
  | next =>
    obtain ⟨σ1, H1, J1, q1⟩ := q
    exact b.run pins s1 σ1 H1 D J1 (h2 σ1 H1 q1)
  | _ => exact q
theorem cut {t u : TS} {σ : L2.St} {H : Hp} {nx bk ct : L2.St → Hp → Prop} {rt : VK} (W : L2.St → Hp → Prop) (h1 : t ⟨W, rt, bk, ct⟩ σ H) (h2 : ∀ σ1 H1, W σ1 H1 → u ⟨nx, rt, bk, ct⟩ σ1 H1) : tCut t u ⟨nx, rt, bk, ct⟩ σ H := ⟨W, h1, h2⟩
end RD

namespace RD
open PySem PySem.Spec PyProof.Rows L2
/-! further rules: an own error made without arguments; an object made where what is raised is wished for at the slots -/
section
variable {X : Cx} {C : Addr} {bmB : List Value} {B newId initId : String}
theorem pmk_own0 {x : Str} {p pos : Pos} (F : ExcBaseFacts B newId initId bmB) (q : PySem.W.excIn X.K C bmB newId = true) (gC : X.mg x = some (.ref C)) (kC : PySem.W.keepIn X.K (.ref C) = true) (r : Raises X (.ref C)) (hg : Gl X x)
    (hdb : (x == ("__debug__" : Str)) = false := by decide) : PMk X (.Call (.Name x p) [] [] pos) (fun _ H Q => Q (.ref C) none H) := by
  intro pins s0 σ H Q J hw
  refine wpAny_Call_Name_kw (ld_glob J hg gC ?_ hdb)
  refine PySem.W.callWith_K0 J.kIn kC ?_
  show wpAny _ _ (PySem.call (Value.ref C) []) _ _ _
  obtain ⟨_, _, _, _, _, _, _, _, _, _, _, _, _, _, _, _, _, hC, hN, hni, tl⟩ := exc_obj J.kIn q
  exact wpAny_call_exc_subT F tl hC hN hni (fun _ _ hm => mk_of J hm r hw (J.hok.gone hm.new)) (Nat.zero_le _)
end
section
variable {X : Cx} {CX : CXT} {k : Nat} {f C : Addr} {fd : FuncData} {ps : List Str} {sp : Sp} {E : L2.St → XK} {x : Str} {p pos : Pos} {e : Expr} {es : List Expr} {t : TA}
def tMakeS (C : Addr) (sp : Sp) (E : L2.St → XK) (t : TA) : TE := fun σ H Q => t σ H fun vs H1 => MKE C sp [] (E σ) vs H1 Q
/-- a way out with the slots as they are, seen as one that asks nothing of them -/
theorem pe_makeS (M : Mk X.K C f) (F : FnOk X.prog X.w X.K X.mg X.base CX k f fd ps sp) (hr : Room (k + 1) X.A) (hg : Gl X x) (hm : X.mg x = some (.ref C)) (hb : Binds X.K fd ps []) (hx : ∀ σ, PassesAt CX X σ (E σ))
    (ha : PA X (e :: es) t) (hdb : (x == ("__debug__" : Str)) = false := by decide) (he : starEach (e :: es) X.env = (false, eval e X.env) :: starEach es X.env := by rfl) (hpl : (backTo pos (starEach es X.env)).any (·.1) = false := by rfl) :
    PE X (.Call (.Name x p) (e :: es) [] pos) (tMakeS C sp E t) := by
  refine ⟨fun pins s0 σ H Q I hw => ?_⟩
  refine wpAny_Call_Name_kw (ld_glob I hg hm ?_ hdb)
  refine PySem.W.callWith_K (h₀ := X.base) I.ok.mod.kin M.kp (thn (ha.run pos pins s0 σ H _ I hw) fun us s ⟨vs, H1, I1, r, q⟩ => ⟨I1.kIn, ?_⟩) he hpl
  have hq := q (s.heap.objs.size + 1) s.heap.objs.size (I1.hok.fresh (Nat.le_succ _)) (I1.hok.fresh (Nat.le_refl _)) (Nat.ne_of_lt (Nat.lt_succ_self _))
  rw [List.append_nil] at hq
  have I2 := Inv.made (C := C) I1
  have r2 : Vals (V.ref (s.heap.objs.size + 1) :: vs) (Value.ref (s.heap.objs.size + 1) :: us) := .cons rfl r
  have hl : (Value.ref (s.heap.objs.size + 1) :: us).length = ps.length := (r2.length.symm.trans (F.len _ _ _ _ hq))
  have bb := hb _ (Value.ref (s.heap.objs.size + 1) :: us) I2.kIn (by rw [List.append_nil]; exact hl)
  rw [List.append_nil] at bb
  refine wpAny_call (make_map (f := f) I1.kIn M.makes M.init (beq_iff_eq.mp M.fn) ?_)
  refine codeAny_mono (F.run _ X.stack _ _ ⟨Value.ref (s.heap.objs.size + 1) :: us, []⟩ (Value.ref (s.heap.objs.size + 1) :: us) _ _ (E σ) (hr.make C us []) (I2.env0.make C us []) bb r2 hq) ?_
  intro rr s' hq'
  cases rr with
  | error er => exact hx σ pins _ _ er s' I2 hq'
  | ok fl =>
    cases fl with
    | ret u =>
      obtain ⟨_, H', I3, rv, ev, q3⟩ := I2.after hq'
      subst ev
      exact ⟨rv, V.ref (s.heap.objs.size + 1), H', I3, rfl, q3⟩
    | next => exact hq'.elim
    | brk => exact hq'.elim
    | cont => exact hq'.elim
end
/-- a reading under a fact -/
def tWhen (p : Prop) (t : TS) : TS := fun D σ H => p ∧ t D σ H
theorem pss_when {X : Cx} {sts : List Stmt} {t : TS} {p : Prop} (h : p → PSs X sts t) : PSs X sts (tWhen p t) := ⟨fun pins s σ H D I hw => (h hw.1).run pins s σ H D I hw.2⟩
theorem k_isE {X : Cx} {K : PySem.W.Frag} {a D : Addr} {oe : Obj} {pn : List (Addr × Obj)} (h : X.K = K) (C : ExcC K D) (hz : Zc (.ref D) none oe) (hf : ∃ vs, oe.data = .fields vs) : CallR (X.suite a ((a, oe) :: pn)) (.builtin "isinstance") (rIsE K D a) := by subst h; exact call_isE C hz hf
/-- an error of a class is what a clause names that names the class -/
theorem exm_self {K : PySem.W.Frag} {S : Addr} (h1 : PySem.W.subIn K (.ref S) (.type "BaseException") = some true) (h2 : PySem.W.isClsIn K S = true) (h3 : PySem.W.typeIn K (.ref S) = some (.type "type")) (h4 : PySem.W.subIn K (.ref S) (.ref S) = some true) :
    PySem.W.exmOne K (.ref S) (.ref S) = some true := by
  have e1 : (PySem.W.subIn K (.ref S) (.type "BaseException") == some true) = true := by rw [h1] <;> rfl
  have e2 : ((PySem.W.clsIn K S).isSome && PySem.W.typeIn K (.ref S) == some (.type "type")) = true := by
    have h2' : (PySem.W.clsIn K S).isSome = true := h2
    rw [h2', h3] <;> rfl
  show (if (PySem.W.subIn K (.ref S) (.type "BaseException") == some true) = true then (if ((PySem.W.clsIn K S).isSome && PySem.W.typeIn K (.ref S) == some (.type "type")) = true then PySem.W.subIn K (.ref S) (.ref S) else none) else none) = some true
  rw [if_pos e1, if_pos e2]
  exact h4
end RD

namespace RD
open PySem PySem.Spec PyProof.Rows L2
/-! len, in and == by methods of one's own -/
section
variable {X : Cx} {CX : CXT} {n : Nat} {f C : Addr} {fd : FuncData} {ps : List Str} {sp : Sp} {E : XK} {K : PySem.W.Frag}
theorem call_own {Ar : Around} {pins : List (Addr × Obj)} {σ : L2.St} {H : Hp} {s : Shared} {Q : VK} {vs : List V} {us : List Value} (hfr : Ar.frames = X.A.frames) (room : Room n Ar) (F : FnOk X.prog X.w X.K X.mg X.base CX n f fd ps sp) (hb : Binds X.K fd ps []) (hx : Passes CX X E)
    (J : Inv X pins σ H s) (rv : Vals vs us) (hs : sp vs H Q E) : wpAny (model X.prog X.w) Ar (PySem.call (.ref f) us) (EP X pins σ Q) X.xe s := by
  have e := J.env0
  have e0 : Env0 X.prog X.w X.K X.mg X.base Ar X.stack s H := ⟨by rw [hfr]; exact e.frames, e.mod, e.bs, e.bsz, e.funs, e.frf, e.hok, e.bare⟩
  have hl : us.length = ps.length := rv.length.symm.trans (F.len _ _ _ _ hs)
  have bb := hb s us J.kIn (by rw [List.append_nil]; exact hl)
  rw [List.append_nil] at bb
  refine wpAny_call (codeAny_mono (F.run Ar X.stack s H ⟨us, []⟩ us vs Q E room e0 bb rv hs) ?_)
  intro rr s' hq
  cases rr with
  | error er => exact hx pins σ H s er s' J hq
  | ok fl =>
    cases fl with
    | ret u => exact J.after hq
    | next => exact hq.elim
    | brk => exact hq.elim
    | cont => exact hq.elim
def rLenOwn (C : Addr) (sp : Sp) (E : XK) : List V → Hp → VK → Prop := fun xs H Q => ∃ a dx fs, xs = [.ref a] ∧ H a = some (.ins C dx fs) ∧ sp [.ref a] H (fun v H' => ∃ z : Int, v = .int z ∧ 0 ≤ z ∧ z < 2 ^ 63 ∧ Q (.int z) H') E
theorem k_lenOwn (hr : Room (n + 1) X.A) (F : FnOk X.prog X.w X.K X.mg X.base CX n f fd ps sp) (hs : PySem.W.findIn X.K (.ref C) "__len__" = some (some (.ref f))) (hf : PySem.W.isFn X.K (.ref f) = true) (hb : Binds X.K fd ps []) (hx : Passes CX X E) :
    CallR X (.builtin "len") (rLenOwn C sp E) := by
  intro pins s σ H xs us Q I r hw
  obtain ⟨a, dx, fs, rfl, ha, hsp⟩ := hw
  obtain ⟨u, rfl, rx⟩ := vals1 r
  cases rx
  obtain ⟨_, O, _⟩ := ins_get I.hok ha
  obtain ⟨_, O, _⟩ := O.look
  obtain ⟨_, hF⟩ := I.fr
  refine PySem.W.len_K hF I.ok.mod.kin O hs hf (wpAny_mono (call_own rfl hr.in1 F hb hx I r hsp) ?_ fun _ _ z => z)
  rintro v s' ⟨y, H', I', ry, z, rfl, h0, h1, q⟩
  obtain ⟨t, rfl⟩ := ry
  exact ⟨⟨h0, h1⟩, .int z, H', I'.tok _, ⟨_, rfl⟩, q⟩
def rInOwn (C : Addr) (sp : Sp) (E : XK) (neg : Bool) : R2 := fun x y H Q => ∃ a dx fs, y = .ref a ∧ H a = some (.ins C dx fs) ∧ sp [.ref a, x] H (fun v H' => ∃ b, v = .bl b ∧ Q (.bl (if neg then !b else b)) H') E
theorem k_inOwn (hr : Room n X.A) (F : FnOk X.prog X.w X.K X.mg X.base CX n f fd ps sp) (hs : PySem.W.findIn X.K (.ref C) "__contains__" = some (some (.ref f))) (hf : PySem.W.isFn X.K (.ref f) = true) (hb : Binds X.K fd ps []) (hx : Passes CX X E) :
    OpR X (compareOp .In) (rInOwn C sp E false) := by
  intro pins s σ H x y v u Q I rx ry hw
  obtain ⟨a, dx, fs, rfl, ha, hsp⟩ := hw
  cases ry
  obtain ⟨_, O, _⟩ := ins_get I.hok ha
  obtain ⟨_, O, _⟩ := O.look
  obtain ⟨_, hF⟩ := I.fr
  refine PySem.W.in_K hF I.ok.mod.kin O hs hf (wpAny_mono (call_own (vs := [.ref a, x]) rfl hr F hb hx I (.cons rfl (.cons rx .nil)) hsp) ?_ fun _ _ z => z)
  rintro r s' ⟨y, H', I', ry, b, rfl, q⟩
  refine wpAny_mono (tru_ok pins s' σ H' (.bl b) r (fun k H'' => k = b ∧ Q (.bl b) H'') I' ry ⟨b, rfl, rfl, q⟩) ?_ fun _ _ z => z
  rintro k s'' ⟨H'', I'', rfl, q'⟩
  exact ⟨.bl k, H'', I'', rfl, q'⟩
theorem k_ninOwn (hr : Room n X.A) (F : FnOk X.prog X.w X.K X.mg X.base CX n f fd ps sp) (hs : PySem.W.findIn X.K (.ref C) "__contains__" = some (some (.ref f))) (hf : PySem.W.isFn X.K (.ref f) = true) (hb : Binds X.K fd ps []) (hx : Passes CX X E) :
    OpR X (compareOp .NotIn) (rInOwn C sp E true) := by
  intro pins s σ H x y v u Q I rx ry hw
  obtain ⟨a, dx, fs, rfl, ha, hsp⟩ := hw
  cases ry
  obtain ⟨_, O, _⟩ := ins_get I.hok ha
  obtain ⟨_, O, _⟩ := O.look
  obtain ⟨_, hF⟩ := I.fr
  refine PySem.W.notIn_K hF I.ok.mod.kin O hs hf (wpAny_mono (call_own (vs := [.ref a, x]) rfl hr F hb hx I (.cons rfl (.cons rx .nil)) hsp) ?_ fun _ _ z => z)
  rintro r s' ⟨y, H', I', ry, b, rfl, q⟩
  refine wpAny_mono (tru_ok pins s' σ H' (.bl b) r (fun k H'' => k = b ∧ Q (.bl (!b)) H'') I' ry ⟨b, rfl, rfl, q⟩) ?_ fun _ _ z => z
  rintro k s'' ⟨H'', I'', rfl, q'⟩
  exact ⟨.bl (!k), H'', I'', rfl, q'⟩
def rEqOwn (K : PySem.W.Frag) (C : Addr) (sp : Sp) (E : XK) : R2 := fun x y H Q => ∃ a dx fs tb, x = .ref a ∧ H a = some (.ins C dx fs) ∧ TyX K H y tb ∧ PySem.W.notFirst K C tb = true ∧ sp [.ref a, y] H (fun v H' => ∃ b, v = .bl b ∧ Q (.bl b) H') E
theorem k_eqOwn (h : X.K = K) (hr : Room n X.A) (F : FnOk X.prog X.w X.K X.mg X.base CX n f fd ps sp) (hs : PySem.W.findIn X.K (.ref C) "__eq__" = some (some (.ref f))) (hf : PySem.W.isFn X.K (.ref f) = true) (hb : Binds X.K fd ps []) (hx : Passes CX X E) :
    OpR X (compareOp .Eq) (rEqOwn K C sp E) := by
  subst h
  intro pins s σ H x y v u Q I rx ry hw
  obtain ⟨a, dx, fs, tb, rfl, ha, ty, nf, hsp⟩ := hw
  cases rx
  obtain ⟨_, O, _⟩ := ins_get I.hok ha
  obtain ⟨_, O, _⟩ := O.look
  obtain ⟨_, hF⟩ := I.fr
  obtain ⟨_, kx, kp, _⟩ := kit_of I ry ty
  show wpAny (model X.prog X.w) X.A (richCompare .Eq _ u) (EP X pins σ Q) X.xe s
  refine PySem.W.cmp_K (op := .Eq) (tb := tb) hr.units0 hF I.ok.mod.kin O (kx.ty _ _ I.kIn kp) nf hs hf (wpAny_mono (call_own (vs := [.ref a, y]) rfl hr F hb hx I (.cons rfl (.cons ry .nil)) hsp) ?_ fun _ _ z => z)
  rintro r s' ⟨y, H', I', ry, b, rfl, q⟩
  cases ry
  exact ⟨.bl b, H', I', rfl, q⟩
end
end RD

namespace MM
/-! rounds of a permutation -/
def it (f : Nat → Nat) : Nat → Nat → Nat
  | 0, h => h
  | i + 1, h => f (it f i h)
theorem it_one (f : Nat → Nat) : ∀ i h, it f (i + 1) h = it f i (f h)
  | 0, h => rfl
  | i + 1, h => by
    show f (it f (i + 1) h) = f (it f i (f h))
    rw [it_one f i h]
theorem it_add (f : Nat → Nat) : ∀ i j h, it f (i + j) h = it f i (it f j h)
  | 0, j, h => by rw [Nat.zero_add]; rfl
  | i + 1, j, h => by
    rw [Nat.succ_add]
    show f (it f (i + j) h) = f (it f i (it f j h))
    rw [it_add f i j h]
structure PermOn (f : Nat → Nat) (n : Nat) : Prop where
  lt : ∀ x, x < n → f x < n
  inj : ∀ x y, x < n → y < n → f x = f y → x = y
section
variable {f : Nat → Nat} {n : Nat}
theorem PermOn.it_lt (p : PermOn f n) : ∀ i h, h < n → it f i h < n
  | 0, _, hh => hh
  | i + 1, h, hh => p.lt _ (p.it_lt i h hh)
theorem PermOn.it_inj (p : PermOn f n) : ∀ i x y, x < n → y < n → it f i x = it f i y → x = y
  | 0, _, _, _, _, e => e
  | i + 1, x, y, hx, hy, e => p.it_inj i x y hx hy (p.inj _ _ (p.it_lt i x hx) (p.it_lt i y hy) e)
theorem pigeon : ∀ (n : Nat) (g : Nat → Nat), (∀ i, i ≤ n → g i < n) → ∃ i j, i < j ∧ j ≤ n ∧ g i = g j
  | 0, g, h => absurd (h 0 (Nat.le_refl _)) (Nat.not_lt_zero _)
  | n + 1, g, h => by
    by_cases c : ∃ i, i ≤ n ∧ g i = g (n + 1)
    · obtain ⟨i, hi, e⟩ := c
      exact ⟨i, n + 1, by omega, Nat.le_refl _, e⟩
    · have c' : ∀ i, i ≤ n → g i ≠ g (n + 1) := fun i hi e => c ⟨i, hi, e⟩
      have hn := h (n + 1) (Nat.le_refl _)
      obtain ⟨i, j, hij, hj, e⟩ := pigeon n (fun i => if g i = n then g (n + 1) else g i) (fun i hi => by
        show (if g i = n then g (n + 1) else g i) < n
        by_cases q : g i = n
        · rw [if_pos q]
          have := c' i hi
          omega
        · rw [if_neg q]
          have := h i (by omega)
          omega)
      refine ⟨i, j, hij, by omega, ?_⟩
      have e' : (if g i = n then g (n + 1) else g i) = (if g j = n then g (n + 1) else g j) := e
      have ci := c' i (by omega)
      have cj := c' j hj
      by_cases qi : g i = n
      · by_cases qj : g j = n
        · rw [qi, qj]
        · rw [if_pos qi, if_neg qj] at e'
          exact absurd e'.symm cj
      · by_cases qj : g j = n
        · rw [if_neg qi, if_pos qj] at e'
          exact absurd e' ci
        · rw [if_neg qi, if_neg qj] at e'
          exact e'
theorem least {P : Nat → Prop} : ∀ k, P k → ∃ m, P m ∧ m ≤ k ∧ ∀ j, j < m → ¬ P j := by
  intro k
  induction k using Nat.strongRecOn with
  | ind k ih =>
    intro hk
    by_cases c : ∃ j, j < k ∧ P j
    · obtain ⟨j, hj, pj⟩ := c
      obtain ⟨m, pm, hm, hl⟩ := ih j hj pj
      exact ⟨m, pm, by omega, hl⟩
    · exact ⟨k, hk, Nat.le_refl _, fun j hj pj => c ⟨j, hj, pj⟩⟩
/-- the round of h has k members -/
structure Per (f : Nat → Nat) (h k : Nat) : Prop where
  pos : 0 < k
  back : it f k h = h
  least : ∀ j, 0 < j → j < k → it f j h ≠ h
theorem PermOn.per (p : PermOn f n) {h : Nat} (hh : h < n) : ∃ k, k ≤ n ∧ Per f h k := by
  obtain ⟨i, j, hij, hj, e⟩ := pigeon n (fun i => it f i h) fun i _ => p.it_lt i h hh
  have e2 : it f i h = it f i (it f (j - i) h) := by
    rw [← it_add]
    have : i + (j - i) = j := by omega
    rw [this]
    exact e
  have e3 : it f (j - i) h = h := (p.it_inj i _ _ hh (p.it_lt _ h hh) e2).symm
  obtain ⟨m, ⟨pm, bm⟩, hm, hl⟩ := MM.least (P := fun k => 0 < k ∧ it f k h = h) (j - i) ⟨by omega, e3⟩
  exact ⟨m, by omega, pm, bm, fun j hj hjm e => hl j hjm ⟨hj, e⟩⟩
def cycGo (f : Nat → Nat) (h0 : Nat) : Nat → Nat → List Nat
  | 0, _ => []
  | k + 1, x => if x = h0 then [] else x :: cycGo f h0 k (f x)
def cyc (f : Nat → Nat) (n h : Nat) : List Nat := h :: cycGo f h n (f h)
theorem cycGo_per {h k : Nat} (p : Per f h k) : ∀ (m i fuel : Nat), i + m = k → 0 < i → m ≤ fuel → cycGo f h fuel (it f i h) = (List.range' i m).map (fun j => it f j h)
  | 0, i, fuel, e, _, _ => by
    have e' : it f i h = h := by
      have : i = k := by omega
      rw [this]
      exact p.back
    rw [e']
    cases fuel with
    | zero => rfl
    | succ q =>
      show (if h = h then [] else _) = _
      rw [if_pos rfl]
      rfl
  | m + 1, i, 0, _, _, hf => by omega
  | m + 1, i, fuel + 1, e, hi, hf => by
    show (if it f i h = h then [] else it f i h :: cycGo f h fuel (f (it f i h))) = _
    rw [if_neg (p.least i hi (by omega)), List.range'_succ, List.map_cons]
    have := cycGo_per p m (i + 1) fuel (by omega) (by omega) (by omega)
    rw [← this]
    rfl
theorem cyc_per {h k : Nat} (p : Per f h k) (hk : k ≤ n + 1) : cyc f n h = (List.range k).map (fun j => it f j h) := by
  have pp := p.pos
  obtain ⟨m, rfl⟩ : ∃ m, k = m + 1 := ⟨k - 1, by omega⟩
  rw [List.range_eq_range', List.range'_succ, List.map_cons]
  show h :: cycGo f h n (it f 1 h) = h :: _
  rw [cycGo_per p m 1 n (by omega) (by omega) (by omega)]
theorem Per.mul {h k : Nat} (p : Per f h k) : ∀ q, it f (k * q) h = h
  | 0 => rfl
  | q + 1 => by
    rw [Nat.mul_succ, it_add, p.back]
    exact p.mul q
theorem mem_cyc (p : PermOn f n) {h x : Nat} (hh : h < n) : x ∈ cyc f n h ↔ ∃ i, x = it f i h := by
  obtain ⟨k, hk, pk⟩ := p.per hh
  rw [cyc_per pk (by omega), List.mem_map]
  constructor
  · rintro ⟨j, _, rfl⟩
    exact ⟨j, rfl⟩
  · rintro ⟨i, rfl⟩
    refine ⟨i % k, List.mem_range.mpr (Nat.mod_lt _ pk.pos), ?_⟩
    have e : i = i % k + k * (i / k) := by
      have := Nat.mod_add_div i k
      omega
    show it f (i % k) h = it f i h
    have e2 : it f i h = it f (i % k + k * (i / k)) h := by rw [← e]
    rw [e2, it_add, pk.mul]
theorem it_back (p : PermOn f n) {h : Nat} (hh : h < n) (i : Nat) : ∃ j, h = it f j (it f i h) := by
  obtain ⟨k, hk, pk⟩ := p.per hh
  refine ⟨(k - 1) * i, ?_⟩
  rw [← it_add]
  have : (k - 1) * i + i = k * i := by
    have hp := pk.pos
    obtain ⟨m, rfl⟩ : ∃ m, k = m + 1 := ⟨k - 1, by omega⟩
    show m * i + i = (m + 1) * i
    rw [Nat.succ_mul]
  rw [this, pk.mul]
theorem cyc_lt (p : PermOn f n) {h x : Nat} (hh : h < n) (hx : x ∈ cyc f n h) : x < n := by
  obtain ⟨i, rfl⟩ := (mem_cyc p hh).mp hx
  exact p.it_lt i h hh
theorem cyc_symm (p : PermOn f n) {h x : Nat} (hh : h < n) (hx : x ∈ cyc f n h) : h ∈ cyc f n x := by
  have hl := cyc_lt p hh hx
  obtain ⟨i, rfl⟩ := (mem_cyc p hh).mp hx
  exact (mem_cyc p hl).mpr (it_back p hh i)
theorem cyc_trans (p : PermOn f n) {h x y : Nat} (hh : h < n) (hx : x ∈ cyc f n h) (hy : y ∈ cyc f n x) : y ∈ cyc f n h := by
  have hl := cyc_lt p hh hx
  obtain ⟨j, rfl⟩ := (mem_cyc p hl).mp hy
  obtain ⟨i, rfl⟩ := (mem_cyc p hh).mp hx
  exact (mem_cyc p hh).mpr ⟨j + i, (it_add f j i h).symm⟩
theorem cyc_self (h : Nat) : h ∈ cyc f n h := List.mem_cons_self
theorem cyc_len (p : PermOn f n) {h : Nat} (hh : h < n) : (cyc f n h).length ≤ n := by
  obtain ⟨k, hk, pk⟩ := p.per hh
  rw [cyc_per pk (by omega), List.length_map, List.length_range]
  exact hk
theorem cyc_nodup (p : PermOn f n) {h : Nat} (hh : h < n) : (cyc f n h).Nodup := by
  obtain ⟨k, hk, pk⟩ := p.per hh
  rw [cyc_per pk (by omega)]
  refine List.pairwise_map.mpr (List.Pairwise.imp_of_mem ?_ (List.pairwise_lt_range (n := k)))
  intro i j hi hj hij e
  have hj' := List.mem_range.mp hj
  have e2 : it f i h = it f i (it f (j - i) h) := by
    rw [← it_add]
    have : i + (j - i) = j := by omega
    rw [this]
    exact e
  exact pk.least (j - i) (by omega) (by omega) (p.it_inj i _ _ hh (p.it_lt _ h hh) e2).symm
theorem cyc_at (p : PermOn f n) {h i : Nat} (hh : h < n) (hi : i < (cyc f n h).length) : (cyc f n h)[i]? = some (it f i h) := by
  obtain ⟨k, hk, pk⟩ := p.per hh
  rw [cyc_per pk (by omega), List.length_map, List.length_range] at hi
  rw [cyc_per pk (by omega), List.getElem?_map, List.getElem?_range hi]
  rfl
theorem cyc_end (p : PermOn f n) {h : Nat} (hh : h < n) : it f (cyc f n h).length h = h := by
  obtain ⟨k, hk, pk⟩ := p.per hh
  rw [cyc_per pk (by omega), List.length_map, List.length_range]
  exact pk.back
/-! the rounds, each from its least member on -/
def isMin (f : Nat → Nat) (n h : Nat) : Bool := (cyc f n h).all fun x => decide (h ≤ x)
def rnds (f : Nat → Nat) (n : Nat) : Nat → List (List Nat)
  | 0 => []
  | m + 1 => rnds f n m ++ (if isMin f n m = true then [cyc f n m] else [])
theorem isMin_iff {h : Nat} : isMin f n h = true ↔ ∀ x ∈ cyc f n h, h ≤ x := by
  unfold isMin
  rw [List.all_eq_true]
  exact ⟨fun q x hx => of_decide_eq_true (q x hx), fun q x hx => decide_eq_true (q x hx)⟩
theorem mem_rnds {c : List Nat} : ∀ m, c ∈ rnds f n m ↔ ∃ g, g < m ∧ isMin f n g = true ∧ c = cyc f n g
  | 0 => by
    constructor
    · intro h; cases h
    · rintro ⟨g, hg, _⟩; omega
  | m + 1 => by
    show c ∈ rnds f n m ++ (if isMin f n m = true then [cyc f n m] else []) ↔ _
    rw [List.mem_append, mem_rnds m]
    constructor
    · rintro (⟨g, hg, r⟩ | h)
      · exact ⟨g, by omega, r⟩
      · by_cases q : isMin f n m = true
        · rw [if_pos q] at h
          exact ⟨m, by omega, q, List.mem_singleton.mp h⟩
        · rw [if_neg q] at h
          cases h
    · rintro ⟨g, hg, q, e⟩
      by_cases hm : g = m
      · subst hm
        right
        rw [if_pos q]
        exact List.mem_singleton.mpr e
      · exact .inl ⟨g, by omega, q, e⟩
theorem mem_flat {x m : Nat} : x ∈ (rnds f n m).flatten ↔ ∃ g, g < m ∧ isMin f n g = true ∧ x ∈ cyc f n g := by
  rw [List.mem_flatten]
  constructor
  · rintro ⟨c, hc, hx⟩
    obtain ⟨g, hg, q, rfl⟩ := (mem_rnds m).mp hc
    exact ⟨g, hg, q, hx⟩
  · rintro ⟨g, hg, q, hx⟩
    exact ⟨_, (mem_rnds m).mpr ⟨g, hg, q, rfl⟩, hx⟩
theorem has_min (p : PermOn f n) {h : Nat} (hh : h < n) : ∃ g, g ≤ h ∧ g ∈ cyc f n h ∧ isMin f n g = true := by
  obtain ⟨g, hg, hl, hm⟩ := MM.least (P := fun x => x ∈ cyc f n h) h (cyc_self h)
  refine ⟨g, hl, hg, isMin_iff.mpr fun x hx => ?_⟩
  have hx' := cyc_trans p hh hg hx
  exact Nat.le_of_not_lt fun z => hm x z hx'
theorem not_min_in (p : PermOn f n) {h : Nat} (hh : h < n) (q : isMin f n h = false) : h ∈ (rnds f n h).flatten := by
  obtain ⟨g, hg, hm, hq⟩ := has_min p hh
  have hne : g ≠ h := fun e => by rw [e, q] at hq; cases hq
  exact mem_flat.mpr ⟨g, by omega, hq, cyc_symm p hh hm⟩
theorem min_out (p : PermOn f n) {h x : Nat} (hh : h < n) (q : isMin f n h = true) (hx : x ∈ cyc f n h) : x ∉ (rnds f n h).flatten := fun hf => by
  obtain ⟨g, hg, hgm, hxg⟩ := mem_flat.mp hf
  have h1 : g ∈ cyc f n x := cyc_symm p (by omega) hxg
  have := isMin_iff.mp q g (cyc_trans p hh hx h1)
  omega
theorem rnds_len : ∀ m, (rnds f n m).length ≤ m
  | 0 => Nat.le_refl _
  | m + 1 => by
    show (rnds f n m ++ (if isMin f n m = true then [cyc f n m] else [])).length ≤ m + 1
    rw [List.length_append]
    have := rnds_len m
    by_cases q : isMin f n m = true
    · rw [if_pos q]; show _ + 1 ≤ _; omega
    · rw [if_neg q]; show _ + 0 ≤ _; omega
theorem rnds_each (p : PermOn f n) {m : Nat} (hm : m ≤ n) {c : List Nat} (hc : c ∈ rnds f n m) : c.length ≤ n ∧ 0 < c.length := by
  obtain ⟨g, hg, _, rfl⟩ := (mem_rnds m).mp hc
  exact ⟨cyc_len p (by omega), Nat.succ_pos _⟩
theorem rnds_nodup (p : PermOn f n) : ∀ m, m ≤ n → (rnds f n m).flatten.Nodup
  | 0, _ => List.nodup_nil
  | m + 1, hm => by
    show (rnds f n m ++ (if isMin f n m = true then [cyc f n m] else [])).flatten.Nodup
    by_cases q : isMin f n m = true
    · rw [if_pos q, List.flatten_append]
      refine List.nodup_append.mpr ⟨rnds_nodup p m (by omega), ?_, ?_⟩
      · simpa using cyc_nodup p (show m < n by omega)
      · intro x hx y hy e
        subst e
        have hy' : x ∈ cyc f n m := by simpa using hy
        exact min_out p (by omega) q hy' hx
    · rw [if_neg q, List.append_nil]
      exact rnds_nodup p m (by omega)
end
theorem perm_erase {α : Type} : ∀ (l : List α) (i : Nat) (h : i < l.length), (l[i] :: l.eraseIdx i).Perm l
  | a :: l, 0, _ => List.Perm.refl _
  | a :: l, i + 1, h => by
    have hi : i < l.length := Nat.lt_of_succ_lt_succ h
    show (l[i]'hi :: a :: l.eraseIdx i).Perm (a :: l)
    exact (List.Perm.swap a _ _).trans (List.Perm.cons a (perm_erase l i hi))
/-! meshes as lists of next halves -/
def fn (st : List Nat) (x : Nat) : Nat := st.getD x 0
def tw (h : Nat) : Nat := if h % 2 = 0 then h + 1 else h - 1
def inv (ns : List Nat) : List Nat := (List.range ns.length).map fun h => ns.idxOf h
def stp (ns : List Nat) (b : Bool) : List Nat := if b = true then ns else (inv ns).map tw
structure IsMesh (ns : List Nat) : Prop where
  perm : ns.Perm (List.range ns.length)
  even : ns.length % 2 = 0
theorem tw_tw (h : Nat) : tw (tw h) = h := by
  unfold tw
  by_cases q : h % 2 = 0
  · rw [if_pos q, if_neg (by omega)]; omega
  · rw [if_neg q, if_pos (by omega)]; omega
theorem tw_inj {a b : Nat} (e : tw a = tw b) : a = b := by rw [← tw_tw a, e, tw_tw]
theorem tw_lt {h n : Nat} (hn : n % 2 = 0) (hh : h < n) : tw h < n := by
  unfold tw
  by_cases q : h % 2 = 0
  · rw [if_pos q]; omega
  · rw [if_neg q]; omega
theorem fn_at {st : List Nat} {x : Nat} (h : x < st.length) : st[x]? = some (fn st x) := by
  unfold fn
  rw [List.getD_eq_getElem?_getD, List.getElem?_eq_getElem h]
  rfl
section
variable {ns : List Nat}
theorem IsMesh.lt (m : IsMesh ns) {x : Nat} (h : x ∈ ns) : x < ns.length := List.mem_range.mp (m.perm.mem_iff.mp h)
theorem IsMesh.mem (m : IsMesh ns) {x : Nat} (h : x < ns.length) : x ∈ ns := m.perm.mem_iff.mpr (List.mem_range.mpr h)
theorem IsMesh.nodup (m : IsMesh ns) : ns.Nodup := m.perm.nodup_iff.mpr List.nodup_range
theorem fn_mem {st : List Nat} {x : Nat} (h : x < st.length) : fn st x ∈ st := List.mem_of_getElem? (fn_at h)
theorem IsMesh.fnp (m : IsMesh ns) : PermOn (fn ns) ns.length where
  lt := fun x hx => m.lt (fn_mem hx)
  inj := fun x y hx hy e => by
    have h1 := fn_at hx
    have h2 := fn_at hy
    rw [e, ← h2] at h1
    exact (List.getElem?_inj hx m.nodup).mp h1
theorem inv_len : (inv ns).length = ns.length := by unfold inv; rw [List.length_map, List.length_range]
theorem idx_lt {x : Nat} (h : x ∈ ns) : ns.idxOf x < ns.length := List.idxOf_lt_length_iff.mpr h
theorem idx_at {x : Nat} (h : x ∈ ns) : ns[ns.idxOf x]? = some x := by
  rw [List.getElem?_eq_getElem (idx_lt h), List.getElem_idxOf (idx_lt h)]
theorem inv_at {x : Nat} (h : x < ns.length) : (inv ns)[x]? = some (ns.idxOf x) := by
  unfold inv
  rw [List.getElem?_map, List.getElem?_range h]
  rfl
theorem fn_inv {x : Nat} (h : x < ns.length) : fn (inv ns) x = ns.idxOf x := by
  have := fn_at (st := inv ns) (x := x) (by rw [inv_len]; exact h)
  rw [inv_at h] at this
  exact (Option.some.inj this).symm
theorem IsMesh.idx_inj (m : IsMesh ns) {x y : Nat} (hx : x ∈ ns) (hy : y ∈ ns) (e : ns.idxOf x = ns.idxOf y) : x = y := by
  have h1 := idx_at hx
  have h2 := idx_at hy
  rw [e, h2] at h1
  exact (Option.some.inj h1).symm
theorem stp_len (b : Bool) : (stp ns b).length = ns.length := by
  cases b
  · show ((inv ns).map tw).length = _
    rw [List.length_map, inv_len]
  · rfl
theorem stp_at {x : Nat} (h : x < ns.length) : (stp ns false)[x]? = some (tw (ns.idxOf x)) := by
  show ((inv ns).map tw)[x]? = _
  rw [List.getElem?_map, inv_at h]
  rfl
theorem fn_stp {x : Nat} (h : x < ns.length) : fn (stp ns false) x = tw (ns.idxOf x) := by
  have := fn_at (st := stp ns false) (x := x) (by rw [stp_len]; exact h)
  rw [stp_at h] at this
  exact (Option.some.inj this).symm
theorem IsMesh.stp (m : IsMesh ns) (b : Bool) : PermOn (fn (stp ns b)) ns.length := by
  cases b
  · refine ⟨fun x hx => ?_, fun x y hx hy e => ?_⟩
    · rw [fn_stp hx]
      exact tw_lt m.even (idx_lt (m.mem hx))
    · rw [fn_stp hx, fn_stp hy] at e
      exact m.idx_inj (m.mem hx) (m.mem hy) (tw_inj e)
  · exact m.fnp
end
end MM

namespace Pf
open PySem PySem.Spec PyProof.Rows L2
theorem sq {K : PySem.W.Frag} {H : Hp} {a : Addr} {xs : List V} (h : H a = some (.lst xs)) : SqL K H a xs := .inl (.inl h)
theorem st {K : PySem.W.Frag} {H : Hp} {a : Addr} {xs : List V} (h : H a = some (.tup xs)) : SqT K H a xs := .inl (.inl h)
theorem szl {n : Nat} (h : n ≤ 100000) : n ≤ sizeLine := Nat.le_trans h (by decide)
theorem szt {n : Nat} (h : n < 100000) : n < sizeLine := Nat.lt_of_lt_of_le h (by decide)
abbrev vn (n : Nat) : V := .int (n : Int)
def vns (l : List Nat) : List V := l.map vn
theorem vns_len (l : List Nat) : (vns l).length = l.length := List.length_map _
theorem vns_int (l : List Nat) : vns l = (l.map (fun n : Nat => (n : Int))).map V.int := by
  unfold vns
  rw [List.map_map]
  rfl
theorem vns_at {l : List Nat} {i x : Nat} (h : l[i]? = some x) : (vns l)[i]? = some (vn x) := by
  unfold vns
  rw [List.getElem?_map, h]
  rfl
theorem vns_app (l m : List Nat) : vns (l ++ m) = vns l ++ vns m := List.map_append
theorem of_vns {l : List Nat} {i : Nat} {x : V} (h : (vns l)[i]? = some x) : ∃ n, l[i]? = some n ∧ x = vn n := by
  unfold vns at h
  rw [List.getElem?_map] at h
  cases e : l[i]? with
  | none => rw [e] at h; cases h
  | some n => rw [e] at h; exact ⟨n, rfl, (Option.some.inj h).symm⟩
theorem at_n {xs : List V} {j : Nat} {v : V} (h : xs[j]? = some v) : atI xs ((j : Nat) : Int) = some v := atI_nat h
theorem ix_n {n j : Nat} (h : j < n) : ixN n ((j : Nat) : Int) = some j := by
  unfold ixN
  rw [if_pos (by omega), if_pos (by omega), Int.toNat_natCast]
/-! cuts -/
theorem cut_to (xs : List V) (k : Nat) : cutV xs none (some (k : Int)) = xs.take k := by
  unfold cutV
  rw [HT.sIx_none, HT.sIx_nat]
  show List.take (min k xs.length - 0) xs = _
  rw [Nat.sub_zero]
  by_cases h : k ≤ xs.length
  · rw [Nat.min_eq_left h]
  · rw [Nat.min_eq_right (by omega), List.take_length, List.take_of_length_le (by omega)]
theorem cut_from (xs : List V) (k : Nat) : cutV xs (some (k : Int)) none = xs.drop k := by
  unfold cutV
  rw [HT.sIx_none, HT.sIx_nat]
  by_cases h : k ≤ xs.length
  · rw [Nat.min_eq_left h]
    exact List.take_of_length_le (by rw [List.length_drop]; exact Nat.le_refl _)
  · rw [Nat.min_eq_right (by omega), List.drop_of_length_le (Nat.le_refl _), List.drop_of_length_le (by omega), List.take_nil]
/-! data -/
def dI (l : List Int) : PyData := .list (l.map PyData.int)
def dN (l : List Nat) : PyData := dI (l.map fun n : Nat => (n : Int))
def dLL (l : List (List Nat)) : PyData := .list (l.map dN)
theorem eqv_ints : ∀ l m : List Int, PyData.eqvAll (l.map PyData.int) (m.map PyData.int) = decide (l = m)
  | [], [] => by simp [PyData.eqvAll]
  | [], _ :: _ => by simp [PyData.eqvAll]
  | _ :: _, [] => by simp [PyData.eqvAll]
  | a :: l, b :: m => by
    simp only [List.map_cons, PyData.eqvAll, PyData.eqv, eqv_ints l m]
    by_cases e : a = b
    · subst e; simp
    · simp [e]
theorem eqv_dI (l m : List Int) : PyData.eqv (dI l) (dI m) = decide (l = m) := by
  unfold dI
  rw [PyData.eqv]
  exact eqv_ints l m
theorem map_nat_inj : ∀ {l m : List Nat}, l.map (fun n : Nat => (n : Int)) = m.map (fun n : Nat => (n : Int)) → l = m
  | [], [], _ => rfl
  | [], _ :: _, h => by cases h
  | _ :: _, [], h => by cases h
  | a :: l, b :: m, h => by
    rw [List.map_cons, List.map_cons, List.cons.injEq] at h
    rw [map_nat_inj h.2, Int.ofNat.inj h.1]
theorem eqv_dN (l m : List Nat) : PyData.eqv (dN l) (dN m) = decide (l = m) := by
  unfold dN
  rw [eqv_dI]
  by_cases e : l = m
  · rw [decide_eq_true e, e, decide_eq_true rfl]
  · rw [decide_eq_false e, decide_eq_false fun z => e (map_nat_inj z)]
theorem eqv_lls : ∀ l m : List (List Nat), PyData.eqvAll (l.map dN) (m.map dN) = decide (l = m)
  | [], [] => by simp [PyData.eqvAll]
  | [], _ :: _ => by simp [PyData.eqvAll]
  | _ :: _, [] => by simp [PyData.eqvAll]
  | a :: l, b :: m => by
    simp only [List.map_cons, PyData.eqvAll, eqv_dN, eqv_lls l m]
    by_cases e : a = b
    · subst e; simp
    · simp [e]
theorem eqv_dLL (l m : List (List Nat)) : PyData.eqv (dLL l) (dLL m) = decide (l = m) := by
  unfold dLL
  rw [PyData.eqv]
  exact eqv_lls l m
theorem lay_ints : ∀ l : List Int, PyData.canLayAll0 (l.map PyData.int) = true
  | [] => by simp [PyData.canLayAll0]
  | a :: l => by simp [PyData.canLayAll0, PyData.canLay0, lay_ints l]
theorem dep_ints : ∀ l : List Int, PyData.depthAll (l.map PyData.int) = 0
  | [] => by simp [PyData.depthAll]
  | a :: l => by simp [PyData.depthAll, PyData.depth, dep_ints l]
theorem sh_dI (l : List Int) : SeqAt.shaped (dI l) = true := by
  unfold SeqAt.shaped dI
  rw [PyData.canLay0, PyData.depth, lay_ints, dep_ints]
  rfl
theorem sh_dN (l : List Nat) : SeqAt.shaped (dN l) = true := sh_dI _
theorem lay_dN (l : List Nat) : PyData.canLay0 (dN l) = true := by
  unfold dN dI
  rw [PyData.canLay0]
  exact lay_ints _
theorem dep_dN (l : List Nat) : PyData.depth (dN l) = 1 := by
  unfold dN dI
  rw [PyData.depth, dep_ints]
theorem lay_lls : ∀ l : List (List Nat), PyData.canLayAll0 (l.map dN) = true
  | [] => by simp [PyData.canLayAll0]
  | a :: l => by simp [PyData.canLayAll0, lay_dN, lay_lls l]
theorem dep_lls : ∀ l : List (List Nat), PyData.depthAll (l.map dN) ≤ 1
  | [] => by simp [PyData.depthAll]
  | a :: l => by
    have := dep_lls l
    simp only [List.map_cons, PyData.depthAll, dep_dN]
    omega
theorem sh_dLL (l : List (List Nat)) : SeqAt.shaped (dLL l) = true := by
  unfold SeqAt.shaped dLL
  rw [PyData.canLay0, PyData.depth, lay_lls]
  have := dep_lls l
  simp
  omega
theorem dp_ints {K : PySem.W.Frag} {H : Hp} : ∀ l : List Int, DpAll K H (l.map V.int) (l.map PyData.int)
  | [] => .nil
  | a :: l => .cons (.int a) (dp_ints l)
theorem dp_I {K : PySem.W.Frag} {H : Hp} {a : Addr} {l : List Int} (h : SqL K H a (l.map V.int)) : Dp K H (.ref a) (dI l) := .lst h (dp_ints l)
theorem dp_N {K : PySem.W.Frag} {H : Hp} {a : Addr} {l : List Nat} (h : SqL K H a (vns l)) : Dp K H (.ref a) (dN l) := by
  rw [vns_int] at h
  exact dp_I h
/-- a list of lists of numbers, at p, its lists at ps -/
structure LL (H : Hp) (p : Addr) (ps : List Addr) (xss : List (List Nat)) : Prop where
  top : H p = some (.lst (ps.map V.ref))
  each : Paired (fun q xs => H q = some (.lst (vns xs))) ps xss
theorem paired_imp {α β : Type} {F G : α → β → Prop} (k : ∀ a b, F a b → G a b) : ∀ {l : List α} {m : List β}, Paired F l m → Paired G l m
  | _, _, .nil => .nil
  | _, _, .cons r t => .cons (k _ _ r) (paired_imp k t)
theorem LL.same {H H' : Hp} {p : Addr} {ps : List Addr} {xss : List (List Nat)} (h : LL H p ps xss) (s : Same H H') : LL H' p ps xss := ⟨s _ _ h.top, paired_imp (fun _ _ e => s _ _ e) h.each⟩
theorem dp_all {K : PySem.W.Frag} {H : Hp} : ∀ {ps : List Addr} {xss : List (List Nat)}, Paired (fun q xs => H q = some (.lst (vns xs))) ps xss → DpAll K H (ps.map V.ref) (xss.map dN)
  | _, _, .nil => .nil
  | _, _, .cons r t => .cons (dp_N (sq r)) (dp_all t)
theorem dp_LL {K : PySem.W.Frag} {H : Hp} {p : Addr} {ps : List Addr} {xss : List (List Nat)} (h : LL H p ps xss) : Dp K H (.ref p) (dLL xss) := .lst (sq h.top) (dp_all h.each)
theorem paired_app {α β : Type} {F : α → β → Prop} : ∀ {l l' : List α} {m m' : List β}, Paired F l m → Paired F l' m' → Paired F (l ++ l') (m ++ m')
  | _, _, _, _, .nil, s => s
  | _, _, _, _, .cons r t, s => .cons r (paired_app t s)
theorem paired_len {α β : Type} {F : α → β → Prop} : ∀ {l : List α} {m : List β}, Paired F l m → l.length = m.length
  | _, _, .nil => rfl
  | _, _, .cons _ t => by rw [List.length_cons, List.length_cons, paired_len t]
theorem paired_mem {α β : Type} {F : α → β → Prop} : ∀ {l : List α} {m : List β}, Paired F l m → ∀ a ∈ l, ∃ b ∈ m, F a b
  | _, _, .nil, _, h => by cases h
  | _, _, .cons (a := x) (b := y) r t, a, h => by
    rcases List.mem_cons.mp h with rfl | h
    · exact ⟨y, List.mem_cons_self, r⟩
    · obtain ⟨b, hb, f⟩ := paired_mem t a h
      exact ⟨b, List.mem_cons_of_mem _ hb, f⟩
theorem paired_upd {H : Hp} {p : Addr} {o : HO} : ∀ {l : List Addr} {m : List (List Nat)}, Paired (fun q xs => H q = some (.lst (vns xs))) l m → (∀ x ∈ l, x ≠ p) → Paired (fun q xs => (upd H p o) q = some (.lst (vns xs))) l m
  | _, _, .nil, _ => .nil
  | _, _, .cons r t, h => .cons (by rw [upd_ne (h _ List.mem_cons_self)]; exact r) (paired_upd t fun x hx => h x (List.mem_cons_of_mem _ hx))
theorem same_but {H H' : Hp} {p : Addr} {o : HO} (h : Same H H') (hp : H p = none) : Same H (upd H' p o) := RD.same_mut h hp
/-- all but what stands at a is as it was -/
def SameX (a : Addr) (H H' : Hp) : Prop := ∀ b o, H b = some o → b ≠ a → H' b = some o
theorem SameX.refl (a : Addr) (H : Hp) : SameX a H H := fun _ _ h _ => h
theorem SameX.trans {a : Addr} {H H1 H2 : Hp} (x : SameX a H H1) (y : SameX a H1 H2) : SameX a H H2 := fun b o h hb => y b o (x b o h hb) hb
theorem Same.x {a : Addr} {H H1 : Hp} (x : Same H H1) : SameX a H H1 := fun b o h _ => x b o h
theorem SameX.put {a : Addr} {H H1 : Hp} {o : HO} (x : SameX a H H1) : SameX a H (upd H1 a o) := fun b u h hb => by rw [upd_ne hb]; exact x b u h hb
theorem SameX.same {a : Addr} {H H1 : Hp} (x : SameX a H H1) (h : H a = none) : Same H H1 := fun b o e => x b o e (ne_of_none e h)
theorem SameX.mut {a : Addr} {H H' : Hp} {p : Addr} {o : HO} (e : SameX a H H') (h : H p = none) : SameX a H (upd H' p o) := fun b u hb hn => by
  rw [upd_ne (ne_of_none hb h)]
  exact e b u hb hn
theorem SameX.free {a : Addr} {H H' : Hp} (e : SameX a H H') {l : Addr} (h : H' l = Option.none) (hl : l ≠ a) : H l = Option.none := by
  cases q : H l with
  | none => rfl
  | some o =>
    rw [e l o q hl] at h
    cases h
theorem SameX.under {t : Addr} {H H1 H2 : Hp} (x : SameX t H1 H2) (s : Same H H1) (n : H t = none) : Same H H2 := fun b o e => x b o (s b o e) (ne_of_none e n)
theorem same_not {H H' : Hp} {p q : Addr} {o : HO} (_ : Same H H') (e : H p = some o) (n : H q = none) : p ≠ q := ne_of_none e n
end Pf

namespace Pf
open PySem PySem.Spec PyProof.Rows L2 MM
/-! lists that are no mesh -/
def isIB : V → Bool
  | .int _ => true
  | .bl _ => true
  | _ => false
def isI : V → Bool
  | .int _ => true
  | _ => false
def toI : V → Int
  | .int i => i
  | _ => 0
theorem all_ints : ∀ {xs : List V}, xs.all isI = true → xs = (xs.map toI).map V.int
  | [], _ => rfl
  | x :: xs, h => by
    rw [List.all_cons, Bool.and_eq_true] at h
    cases x with
    | int i =>
      show V.int i :: xs = V.int i :: (xs.map toI).map V.int
      rw [← all_ints h.2]
    | _ => exact absurd h.1 (by intro z; cases z)
/-- the integers are those from 0 on, each once -/
def Full (zs : List Int) : Prop := zs.Perm ((List.range zs.length).map (fun n : Nat => (n : Int)))
structure Bad (xs : List V) : Prop where
  ib : xs.all isIB = true
  no : xs.length % 2 = 1 ∨ xs.all isI = false ∨ ¬ Full (xs.map toI)
theorem ib_int (zs : List Int) : (zs.map V.int).all isIB = true := by
  rw [List.all_eq_true]
  intro x hx
  obtain ⟨z, _, rfl⟩ := List.mem_map.mp hx
  rfl
theorem to_int (zs : List Int) : (zs.map V.int).map toI = zs := by
  rw [List.map_map]
  exact List.map_id _
theorem full_mem {zs : List Int} (h : Full zs) {z : Int} (hz : z ∈ zs) : 0 ≤ z ∧ z < (zs.length : Int) := by
  obtain ⟨n, hn, rfl⟩ := List.mem_map.mp (h.mem_iff.mp hz)
  have := List.mem_range.mp hn
  omega
theorem full_nodup {zs : List Int} (h : Full zs) : zs.Nodup := by
  refine h.nodup_iff.mpr (List.pairwise_map.mpr (List.Pairwise.imp ?_ (List.pairwise_lt_range (n := zs.length))))
  intro a b hab e
  have : (a : Int) = b := e
  omega
theorem bad_odd {zs : List Int} (h : zs.length % 2 = 1) : Bad (zs.map V.int) := ⟨ib_int zs, .inl (by rw [List.length_map]; exact h)⟩
theorem bad_full {zs : List Int} (h : ¬ Full zs) : Bad (zs.map V.int) := ⟨ib_int zs, .inr (.inr (by rw [to_int]; exact h))⟩
theorem bad_out {zs : List Int} {z : Int} (hz : z ∈ zs) (h : z < 0 ∨ (zs.length : Int) ≤ z) : Bad (zs.map V.int) := bad_full fun f => by
  have := full_mem f hz
  omega
theorem full_mesh {zs : List Int} (h : Full zs) : ∃ ns : List Nat, zs = ns.map (fun n : Nat => (n : Int)) ∧ ns.Perm (List.range ns.length) := by
  refine ⟨zs.map Int.toNat, ?_, ?_⟩
  · rw [List.map_map]
    have : ∀ z ∈ zs, ((fun n : Nat => (n : Int)) ∘ Int.toNat) z = z := fun z hz => by
      have := full_mem h hz
      show ((z.toNat : Nat) : Int) = z
      omega
    rw [List.map_congr_left this]
    exact (List.map_id _).symm
  · have := h.map Int.toNat
    rw [List.map_map] at this
    rw [List.length_map]
    refine this.trans (List.Perm.of_eq ?_)
    refine (List.map_congr_left fun n _ => ?_).trans (List.map_id _)
    rfl
theorem mesh_full {ns : List Nat} (h : ns.Perm (List.range ns.length)) : Full (ns.map (fun n : Nat => (n : Int))) := by
  unfold Full
  rw [List.length_map]
  exact h.map _
theorem sorted_iff {zs so : List Int} (p : so.Perm zs) (o : so.Pairwise (· ≤ ·)) : so = (List.range zs.length).map (fun n : Nat => (n : Int)) ↔ Full zs := by
  constructor
  · intro e
    rw [e] at p
    exact p.symm
  · intro f
    refine List.Perm.eq_of_pairwise (le := (· ≤ ·)) (fun x y _ _ h1 h2 => Int.le_antisymm h1 h2) o ?_ (p.trans f)
    refine List.pairwise_map.mpr (List.Pairwise.imp ?_ (List.pairwise_lt_range (n := zs.length)))
    intro x y hxy
    omega
end Pf

namespace Pf
open PySem PySem.Spec PyProof.Rows L2 MM
/-! xs[:k] + [v] + xs[j:], xs[:k] + xs[j:] -/
section
variable {K : PySem.W.Frag} {H : Hp} {σ : L2.St} {Q : VK}
def GivesO (to : TO) (σ : L2.St) (j : Nat) : Prop := ∀ (H1 : Hp) (QO : Option Int → Hp → Prop), QO (some (j : Int)) H1 → to σ H1 QO
theorem gives_var {i j : Nat} (h : σ[i]? = some (some (vn j))) : GivesO (tPart (tVar i)) σ j := fun _ _ q => ⟨_, h, _, rfl, q⟩
theorem gives_next {i j : Nat} (h : σ[i]? = some (some (vn j))) : GivesO (tPart (tOp (rI0 fun i j => V.int (i + j)) (tVar i) (tC (V.int 1)))) σ (j + 1) := fun _ QO q => ⟨_, h, _, _, rfl, rfl, _, rfl, by
  have e : ((j : Int) + 1) = ((j + 1 : Nat) : Int) := by omega
  rw [e]
  exact q⟩
theorem cut3 {r : Addr} {xs : List V} {v : V} {k j i0 : Nat} {te : TE} {t1 t2 : TO} (h0 : σ[i0]? = some (some (.ref r))) (hq : SqL K H r xs) (hl : xs.length ≤ 1000) (g1 : GivesO t1 σ k) (g2 : GivesO t2 σ j)
    (he : ∀ (H1 : Hp) (Q' : VK), Same H H1 → (∀ H2, Same H1 H2 → Q' v H2) → te σ H1 Q') (q : ∀ (H' : Hp) (p : Addr), Same H H' → H p = none → H' p = some (.lst (xs.take k ++ [v] ++ xs.drop j)) → Q (.ref p) H') :
    tOp rCat (tOp rCat (tSl (rSlL K) (tVar i0) tNoPart t1) (tLst (tCons te tNil))) (tSl (rSlL K) (tVar i0) t2 tNoPart) σ H Q := by
  refine ⟨_, h0, g1 _ _ ?_⟩
  refine RD.slL hq fun p1 n1 => ?_
  rw [cut_to]
  have s1 := RD.same_new (o := .lst (xs.take k)) n1
  refine he _ _ s1 fun H2 s12 => ?_
  refine ⟨szl (by simp), fun p2 n2 => ?_⟩
  have s2 := s12.trans (RD.same_new (o := .lst [v]) n2)
  refine RD.cat (s2 _ _ upd_same) upd_same (by rw [List.length_take]; exact szl (by simp; omega)) fun p3 n3 => ?_
  have s3 := RD.same_new (o := .lst (xs.take k ++ [v])) n3
  have s := (s1.trans s2).trans s3
  refine ⟨_, h0, g2 _ _ ?_⟩
  refine RD.nop ?_
  refine RD.slL (s.seq hq) fun p4 n4 => ?_
  rw [cut_from]
  have s4 := RD.same_new (o := .lst (xs.drop j)) n4
  refine RD.cat (s4 _ _ upd_same) upd_same (by simp only [List.length_append, List.length_take, List.length_drop, List.length_cons, List.length_nil]; exact szl (by omega)) fun p5 n5 => ?_
  exact q _ p5 ((s.trans s4).trans (RD.same_new n5)) (s.free (s4.free n5)) upd_same
theorem cut2 {r : Addr} {xs : List V} {k j i0 : Nat} {t1 t2 : TO} (h0 : σ[i0]? = some (some (.ref r))) (hq : SqL K H r xs) (hl : xs.length ≤ 1000) (g1 : GivesO t1 σ k) (g2 : GivesO t2 σ j)
    (q : ∀ (H' : Hp) (p : Addr), Same H H' → H p = none → H' p = some (.lst (xs.take k ++ xs.drop j)) → Q (.ref p) H') :
    tOp rCat (tSl (rSlL K) (tVar i0) tNoPart t1) (tSl (rSlL K) (tVar i0) t2 tNoPart) σ H Q := by
  refine ⟨_, h0, g1 _ _ ?_⟩
  refine RD.slL hq fun p1 n1 => ?_
  rw [cut_to]
  have s1 := RD.same_new (o := .lst (xs.take k)) n1
  refine ⟨_, h0, g2 _ _ ?_⟩
  refine RD.nop ?_
  refine RD.slL (s1.seq hq) fun p4 n4 => ?_
  rw [cut_from]
  have s4 := RD.same_new (o := .lst (xs.drop j)) n4
  refine RD.cat (s4 _ _ upd_same) upd_same (by simp only [List.length_take, List.length_drop]; exact szl (by omega)) fun p5 n5 => ?_
  exact q _ p5 ((s1.trans s4).trans (RD.same_new n5)) (s1.free (s4.free n5)) upd_same
end
/-- one entry put in another's place -/
theorem put_set {α : Type} {l : List α} {k : Nat} {v : α} (h : k < l.length) : l.take k ++ [v] ++ l.drop (k + 1) = l.set k v := by
  rw [List.set_eq_take_append_cons_drop, if_pos h, List.append_assoc]
  rfl
end Pf

namespace Pf
open PySem PySem.Spec PyProof.Rows L2
def topS (i : Nat) : Stmt := PySem.Challenge.pw_halfmeshes_k61_partial_meshes.main.body.getD i (.Pass ⟨0, 0, 0, 0⟩)
abbrev s_are_integers : Stmt := topS 4
theorem sc_are_integers : FnScope ["values", "value"] ["values"] (defScope s_are_integers) := ⟨rfl, rfl, rfl, by decide +kernel, rfl, by decide +kernel, by decide +kernel⟩
abbrev s_Partial_d_initd_ : Stmt := inClass (topS 6) 0
theorem sc_Partial_d_initd_ : FnScope ["self", "nexts", "known", "after", "half"] ["self", "nexts"] (defScope s_Partial_d_initd_) := ⟨rfl, rfl, rfl, by decide +kernel, rfl, by decide +kernel, by decide +kernel⟩
abbrev s_Partial_nexts : Stmt := inClass (topS 6) 1
theorem sc_Partial_nexts : FnScope ["self"] ["self"] (defScope s_Partial_nexts) := ⟨rfl, rfl, rfl, by decide +kernel, rfl, by decide +kernel, by decide +kernel⟩
abbrev s_Partial_exits : Stmt := inClass (topS 6) 2
theorem sc_Partial_exits : FnScope ["self", "after", "half"] ["self"] (defScope s_Partial_exits) := ⟨rfl, rfl, rfl, by decide +kernel, rfl, by decide +kernel, by decide +kernel⟩
abbrev s_Partial_entries : Stmt := inClass (topS 6) 3
theorem sc_Partial_entries : FnScope ["self", "half"] ["self"] (defScope s_Partial_entries) := ⟨rfl, rfl, rfl, by decide +kernel, rfl, by decide +kernel, by decide +kernel⟩
abbrev s_l_tape : Stmt := topS 8
theorem sc_l_tape : FnScope ["_law_script", "_law_k", "_law_cell"] ["_law_script", "_law_k"] (defScope s_l_tape) := ⟨rfl, rfl, rfl, by decide +kernel, rfl, by decide +kernel, by decide +kernel⟩
abbrev s_l_pick : Stmt := topS 9
theorem sc_l_pick : FnScope ["_law_tape_here", "_law_many", "_law_digit", "_law_mixed"] ["_law_tape_here", "_law_many"] (defScope s_l_pick) := ⟨rfl, rfl, rfl, by decide +kernel, rfl, by decide +kernel, by decide +kernel⟩
abbrev s_l_nexts : Stmt := topS 10
theorem sc_l_nexts : FnScope ["_law_tape_here", "_law_edges", "_law_left", "_law_nexts_here", "_law_k", "_law_at"] ["_law_tape_here", "_law_edges"] (defScope s_l_nexts) := ⟨rfl, rfl, rfl, by decide +kernel, rfl, by decide +kernel, by decide +kernel⟩
abbrev s_l_partial : Stmt := topS 11
theorem sc_l_partial : FnScope ["_law_tape_here", "_law_edges", "_law_open_ways", "_law_nexts_here", "_law_k"] ["_law_tape_here", "_law_edges", "_law_open_ways"] (defScope s_l_partial) := ⟨rfl, rfl, rfl, by decide +kernel, rfl, by decide +kernel, by decide +kernel⟩
abbrev s_l_exits : Stmt := topS 12
theorem sc_l_exits : FnScope ["_law_nexts_here", "_law_half"] ["_law_nexts_here"] (defScope s_l_exits) := ⟨rfl, rfl, rfl, by decide +kernel, rfl, by decide +kernel, by decide +kernel⟩
abbrev s_l_entries : Stmt := topS 13
theorem sc_l_entries : FnScope ["_law_nexts_here", "_law_half"] ["_law_nexts_here"] (defScope s_l_entries) := ⟨rfl, rfl, rfl, by decide +kernel, rfl, by decide +kernel, by decide +kernel⟩
abbrev s_l_spoilt : Stmt := topS 14
theorem sc_l_spoilt : FnScope ["_law_tape_here", "_law_nexts_here", "_law_choice", "_law_place", "_law_other", "_law_known", "_law_far", "_law_twice", "_law_half"] ["_law_tape_here", "_law_nexts_here", "_law_choice"] (defScope s_l_spoilt) := ⟨rfl, rfl, rfl, by decide +kernel, rfl, by decide +kernel, by decide +kernel⟩
abbrev s_l_refused : Stmt := topS 15
theorem sc_l_refused : FnScope ["_law_nexts_here", "e"] ["_law_nexts_here"] (defScope s_l_refused) := ⟨rfl, rfl, rfl, by decide +kernel, rfl, by decide +kernel, by decide +kernel⟩
abbrev s_l_right : Stmt := topS 16
theorem sc_l_right : FnScope ["_law_partial_here", "_law_nexts_here", "_law_due", "_law_told", "_law_k", "_law_found"] ["_law_partial_here", "_law_nexts_here"] (defScope s_l_right) := ⟨rfl, rfl, rfl, by decide +kernel, rfl, by decide +kernel, by decide +kernel⟩
abbrev s_law : Stmt := topS 17
theorem sc_law : FnScope ["_law_script", "_law_tape_here", "_law_choice", "_law_edges", "_law_ways", "_law_nexts_here", "_law_passed", "_law_partial_here", "_law_half"] ["_law_script"] (defScope s_law) := ⟨rfl, rfl, rfl, by decide +kernel, rfl, by decide +kernel, by decide +kernel⟩
structure Ad where
  f_are_integers : Addr
  d_are_integers : FuncData
  f_Partial_d_initd_ : Addr
  d_Partial_d_initd_ : FuncData
  f_Partial_nexts : Addr
  d_Partial_nexts : FuncData
  f_Partial_exits : Addr
  d_Partial_exits : FuncData
  f_Partial_entries : Addr
  d_Partial_entries : FuncData
  f_l_tape : Addr
  d_l_tape : FuncData
  f_l_pick : Addr
  d_l_pick : FuncData
  f_l_nexts : Addr
  d_l_nexts : FuncData
  f_l_partial : Addr
  d_l_partial : FuncData
  f_l_exits : Addr
  d_l_exits : FuncData
  f_l_entries : Addr
  d_l_entries : FuncData
  f_l_spoilt : Addr
  d_l_spoilt : FuncData
  f_l_refused : Addr
  d_l_refused : FuncData
  f_l_right : Addr
  d_l_right : FuncData
  f_law : Addr
  d_law : FuncData
  c_MeshError : Addr
  c_NotAMesh : Addr
  c_Partial : Addr
structure Txt (K : PySem.W.Frag) (mg : Str → Option Value) (A : Ad) : Prop where
  F_are_integers : Fun K "are_integers" "are_integers" s_are_integers A.f_are_integers A.d_are_integers
  b_are_integers : Binds K A.d_are_integers ["values"] []
  g_are_integers : mg "are_integers" = some (.ref A.f_are_integers)
  F_Partial_d_initd_ : Fun K "__init__" "Partial.__init__" s_Partial_d_initd_ A.f_Partial_d_initd_ A.d_Partial_d_initd_
  b_Partial_d_initd_ : Binds K A.d_Partial_d_initd_ ["self", "nexts"] []
  m_Partial_d_initd_ : Meth K A.c_Partial "__init__" A.f_Partial_d_initd_
  F_Partial_nexts : Fun K "nexts" "Partial.nexts" s_Partial_nexts A.f_Partial_nexts A.d_Partial_nexts
  b_Partial_nexts : Binds K A.d_Partial_nexts ["self"] []
  m_Partial_nexts : Meth K A.c_Partial "nexts" A.f_Partial_nexts
  F_Partial_exits : Fun K "exits" "Partial.exits" s_Partial_exits A.f_Partial_exits A.d_Partial_exits
  b_Partial_exits : Binds K A.d_Partial_exits ["self"] []
  m_Partial_exits : Meth K A.c_Partial "exits" A.f_Partial_exits
  F_Partial_entries : Fun K "entries" "Partial.entries" s_Partial_entries A.f_Partial_entries A.d_Partial_entries
  b_Partial_entries : Binds K A.d_Partial_entries ["self"] []
  m_Partial_entries : Meth K A.c_Partial "entries" A.f_Partial_entries
  F_l_tape : Fun K "_law_tape" "_law_tape" s_l_tape A.f_l_tape A.d_l_tape
  b_l_tape : Binds K A.d_l_tape ["_law_script", "_law_k"] []
  g_l_tape : mg "_law_tape" = some (.ref A.f_l_tape)
  F_l_pick : Fun K "_law_pick" "_law_pick" s_l_pick A.f_l_pick A.d_l_pick
  b_l_pick : Binds K A.d_l_pick ["_law_tape_here", "_law_many"] []
  g_l_pick : mg "_law_pick" = some (.ref A.f_l_pick)
  F_l_nexts : Fun K "_law_nexts" "_law_nexts" s_l_nexts A.f_l_nexts A.d_l_nexts
  b_l_nexts : Binds K A.d_l_nexts ["_law_tape_here", "_law_edges"] []
  g_l_nexts : mg "_law_nexts" = some (.ref A.f_l_nexts)
  F_l_partial : Fun K "_law_partial" "_law_partial" s_l_partial A.f_l_partial A.d_l_partial
  b_l_partial : Binds K A.d_l_partial ["_law_tape_here", "_law_edges", "_law_open_ways"] []
  g_l_partial : mg "_law_partial" = some (.ref A.f_l_partial)
  F_l_exits : Fun K "_law_exits" "_law_exits" s_l_exits A.f_l_exits A.d_l_exits
  b_l_exits : Binds K A.d_l_exits ["_law_nexts_here"] []
  g_l_exits : mg "_law_exits" = some (.ref A.f_l_exits)
  F_l_entries : Fun K "_law_entries" "_law_entries" s_l_entries A.f_l_entries A.d_l_entries
  b_l_entries : Binds K A.d_l_entries ["_law_nexts_here"] []
  g_l_entries : mg "_law_entries" = some (.ref A.f_l_entries)
  F_l_spoilt : Fun K "_law_spoilt" "_law_spoilt" s_l_spoilt A.f_l_spoilt A.d_l_spoilt
  b_l_spoilt : Binds K A.d_l_spoilt ["_law_tape_here", "_law_nexts_here", "_law_choice"] []
  g_l_spoilt : mg "_law_spoilt" = some (.ref A.f_l_spoilt)
  F_l_refused : Fun K "_law_refused" "_law_refused" s_l_refused A.f_l_refused A.d_l_refused
  b_l_refused : Binds K A.d_l_refused ["_law_nexts_here"] []
  g_l_refused : mg "_law_refused" = some (.ref A.f_l_refused)
  F_l_right : Fun K "_law_right" "_law_right" s_l_right A.f_l_right A.d_l_right
  b_l_right : Binds K A.d_l_right ["_law_partial_here", "_law_nexts_here"] []
  g_l_right : mg "_law_right" = some (.ref A.f_l_right)
  F_law : Fun K "law" "law" s_law A.f_law A.d_law
  b_law : Binds K A.d_law ["_law_script"] []
  g_law : mg "law" = some (.ref A.f_law)
  g_MeshError : mg "MeshError" = some (.ref A.c_MeshError)
  g_NotAMesh : mg "NotAMesh" = some (.ref A.c_NotAMesh)
  x_NotAMesh : PySem.W.excIn K A.c_NotAMesh [.type "ValueError", .type "Exception", .type "BaseException", .type "object"] "ValueError.__new__" = true
  k_NotAMesh : PySem.W.keepIn K (.ref A.c_NotAMesh) = true
  s_NotAMesh : PySem.W.subIn K (.ref A.c_NotAMesh) (.type "BaseException") = some true
  t_NotAMesh : PySem.W.typeIn K (.ref A.c_NotAMesh) = some (.type "type")
  i_NotAMesh : PySem.W.isClsIn K A.c_NotAMesh = true
  ss_NotAMesh : PySem.W.subIn K (.ref A.c_NotAMesh) (.ref A.c_NotAMesh) = some true
  xg_NotAMesh : PySem.W.findIn K (.ref A.c_NotAMesh) "__getattribute__" = some (some (.builtin "BaseException.__getattribute__"))
  xk_NotAMesh : PySem.W.findIn K (.ref A.c_NotAMesh) "__getattr__" = some none
  xd_NotAMesh : PySem.W.hasDictIn K A.c_NotAMesh = true
  xa_NotAMesh : PySem.W.findIn K (.ref A.c_NotAMesh) "__class__" = some (some (.builtin "object.__class__"))
  xm_NotAMesh : PySem.W.mroIn K A.c_NotAMesh (.type "object") = some true
  ki_NotAMesh_MeshError : PySem.W.kitOne K (.ref A.c_NotAMesh) (.ref A.c_MeshError) = some true
  g_Partial : mg "Partial" = some (.ref A.c_Partial)
  cl_Partial : Cls K A.c_Partial
  mk_Partial : Mk K A.c_Partial A.f_Partial_d_initd_
  n_Partial_following : NoAttr K A.c_Partial "following"
  z_abs : mg "abs" = none
  z_all : mg "all" = none
  z_bool : mg "bool" = none
  z_enumerate : mg "enumerate" = none
  z_int : mg "int" = none
  z_isinstance : mg "isinstance" = none
  z_len : mg "len" = none
  z_list : mg "list" = none
  z_max : mg "max" = none
  z_range : mg "range" = none
  z_sorted : mg "sorted" = none
  oc_get : PySem.W.specialIn K (.builtin "object.__class__") "__get__" = some (some (.builtin "getset_descriptor.__get__"))
  oc_tak : PySem.W.takesIn K (.builtin "object.__class__") = some true
theorem Txt.exc_NotAMesh {K : PySem.W.Frag} {mg : Str → Option Value} {A : Ad} (T : Txt K mg A) : ExcC K A.c_NotAMesh := ⟨T.xg_NotAMesh, T.xk_NotAMesh, T.s_NotAMesh, T.xd_NotAMesh, T.xa_NotAMesh, T.oc_get, T.oc_tak, T.xm_NotAMesh⟩
theorem Txt.te_NotAMesh {K : PySem.W.Frag} {mg : Str → Option Value} {A : Ad} (T : Txt K mg A) : PySem.W.exmOne K (.ref A.c_NotAMesh) (.ref A.c_NotAMesh) = some true := RD.exm_self T.s_NotAMesh T.i_NotAMesh T.t_NotAMesh T.ss_NotAMesh
end Pf
local macro_rules | `(tactic| walk_at "rd1") => `(tactic| (with_reducible first
  | refine RD.var0 ?_ | refine RD.varS ?_ | refine RD.cst ?_ | refine RD.op ?_ | refine RD.i0 ?_ | refine RD.eqI ?_ | refine RD.neI ?_ | refine RD.exb ?_ | refine RD.tst ?_ | refine RD.tb' ?_
  | refine RD.seq ?_ | refine RD.asg ?_ | refine RD.gn0 ?_ | refine RD.gnS ?_ | refine RD.ifs ?_ | refine RD.ret ?_ | refine RD.nxt ?_ | refine RD.drp ?_ | refine RD.cons ?_ | refine RD.nil ?_
  | refine RD.cb ?_ | refine RD.call ?_ | refine RD.bT ?_ | refine RD.bF ?_ | refine RD.and ?_ | refine RD.or ?_ | refine RD.not ?_ | refine RD.andV ?_ | refine RD.orV ?_ | refine RD.notV ?_ | refine RD.tif ?_
  | refine RD.for_ ?_ | refine RD.iL ?_ | refine RD.iR1 ?_ | refine RD.iR2 ?_ | refine RD.iE ?_ | refine RD.iT ?_ | refine RD.iZ ?_ | refine RD.iS ?_ | refine RD.lc_ ?_ | refine RD.bm ?_ | refine RD.bm0 ?_ | refine RD.fld ?_ | refine RD.meth ?_ | refine RD.make ?_
  | refine RD.lst ?_ | refine RD.tup ?_ | refine RD.sl ?_ | refine RD.nop ?_ | refine RD.prt ?_ | refine RD.exi ?_ | refine RD.un ?_ | refine RD.u0 ?_ | refine RD.aug ?_ | refine RD.gsub ?_ | refine RD.chain ?_ | refine RD.yes ?_
  | refine RD.eqB ?_ | refine RD.neB ?_ | refine RD.eqS ?_ | refine RD.neS ?_ | refine RD.dput ?_ | refine RD.dget ?_ | refine RD.din ?_ | refine RD.dnin ?_ | refine RD.dnew ?_ | refine RD.sfld ?_ | refine RD.lrg ?_ | refine RD.rg1 ?_ | refine RD.int1 ?_ | refine RD.abs1 ?_ | refine RD.max2 ?_ | refine RD.min2 ?_ | refine RD.tru ?_ | refine RD.retN ?_ | refine RD.brk ?_ | refine RD.cnt ?_))
local macro_rules | `(tactic| walk_at "rd") => `(tactic| (repeat (walk_at "rd1")))
local macro_rules | `(tactic| walk_at "hp") => `(tactic| first | assumption | exact upd_same | (rw [upd_ne (by first | assumption | (apply Ne.symm; assumption) | (exact ne_of_none (by assumption) (by assumption)) | (exact Ne.symm (ne_of_none (by assumption) (by assumption))))]; walk_at "hp"))
local macro_rules | `(tactic| walk_at "wp") => `(tactic| simp only [L2.wipe, List.map_cons, List.map_nil, List.set_cons_succ, List.set_cons_zero])
local macro_rules | `(tactic| walk_at "gn") => `(tactic| (repeat (with_reducible first | refine RD.gn0 ?_ | refine RD.gnS ?_)))
local macro_rules | `(tactic| walk_at "rn") => `(tactic| (repeat (first | walk_at "rd1" | (with_reducible first | refine RD.nbF ?_ | refine RD.nbT ?_))))
namespace Pf
open PySem PySem.Spec PyProof.Rows L2
/-- a tape: two numbers -/
def TapeAt (H : Hp) (a : Addr) : Prop := ∃ x y : Int, H a = some (.lst [.int x, .int y]) ∧ 0 ≤ x ∧ 0 ≤ y ∧ y < 2147483647
theorem TapeAt.same {H H' : Hp} {a : Addr} (t : TapeAt H a) (s : Same H H') : TapeAt H' a := by
  obtain ⟨x, y, h, r⟩ := t
  exact ⟨x, y, s _ _ h, r⟩
theorem TapeAt.mk {H : Hp} {a : Addr} {x y : Int} (h : 0 ≤ x) (h1 : 0 ≤ y) (h2 : y < 2147483647) : TapeAt (upd H a (.lst [.int x, .int y])) a := ⟨x, y, upd_same, h, h1, h2⟩
def sp_l_pick : Sp := fun vs H Q _ => ∃ (a : Addr) (m : Int), vs = [.ref a, .int m] ∧ TapeAt H a ∧ 0 < m ∧ m < 1000001 ∧
  ∀ (v : Nat) (H' : Hp), (v : Int) < m → TapeAt H' a → SameX a H H' → Q (vn v) H'
theorem pick_end {H : Hp} {a : Addr} {m : Int} {Q : VK} (k : ∀ (v : Nat) (H' : Hp), (v : Int) < m → TapeAt H' a → SameX a H H' → Q (vn v) H') {z x y : Int} (h0 : 0 ≤ z) (h1 : z < m) (hx : 0 ≤ x) (hy : 0 ≤ y) (hy2 : y < 2147483647) : Q (.int z) (upd H a (.lst [.int x, .int y])) := by
  obtain ⟨v, rfl⟩ := Int.eq_ofNat_of_zero_le h0
  exact k v _ h1 (TapeAt.mk hx hy hy2) (SameX.put (SameX.refl a H))
def sp_l_tape (K : PySem.W.Frag) : Sp := fun vs H Q _ => ∃ (a : Addr) (ns : List Int) (k : Int), vs = [.ref a, .int k] ∧ SqL K H a (ns.map V.int) ∧ 0 ≤ k ∧ k < 100 ∧
  ∀ H' p, Same H H' → H p = none → TapeAt H' p → Q (.ref p) H'
def sp_l_size : Sp := fun vs H Q _ => ∃ (a : Addr), vs = [.ref a] ∧ TapeAt H a ∧ ∀ (v : Nat) (H' : Hp), v ≤ 30 → TapeAt H' a → SameX a H H' → Q (vn v) H'
def sp_l_nexts : Sp := fun vs H Q _ => ∃ (a : Addr) (e : Nat), vs = [.ref a, vn e] ∧ TapeAt H a ∧ e ≤ 30 ∧
  ∀ (H' : Hp) (p : Addr) (ns : List Nat), MM.IsMesh ns → ns.length = 2 * e → H p = none → TapeAt H' a → SameX a H H' → H' p = some (.lst (vns ns)) → Q (.ref p) H'
section
variable {P : Program} {w : World} {K : PySem.W.Frag} {mg : Str → Option Value} {base : Heap} {A : Ad}
theorem ok_l_pick (T : Txt K mg A) : FnOk P w K mg base CX0 1 A.f_l_pick A.d_l_pick ["_law_tape_here", "_law_many"] (sp_l_pick) := by
  refine T.F_l_pick.ok sc_l_pick (fun vs H Q E h => ?_) (fun cdv Ar outer s H vs Q E hr h => ?_)
  · obtain ⟨a, m, rfl, _⟩ := h
    rfl
  · obtain ⟨a, m, rfl, ⟨x, y, hA, hx, hy, hy2⟩, hm, hm2, k⟩ := h
    refine ⟨_, (pss_cons (ps_if (pt_cmpR op_ge (pe_ix (RD.k_ixL (K := K) rfl) (pv 0) pe_int (fun _ _ => rfl)) (pe_op op_pow pe_int pe_int) (nomark _))
      (pss_cons (ps_set (i := 2) sc_l_pick.nd rfl (Or.inl rfl) (pe_op op_mod (pe_callTy RD.k_int (by rfl) T.z_int (by decide +kernel) (pa_cons (pe_ix (RD.k_ixL (K := K) rfl) (pv 0) pe_int (fun _ _ => rfl)) pa_nil)) (pv 1)))
      (pss_cons (ps_asg (pe_op op_fdiv (pe_ix (RD.k_ixL (K := K) rfl) (pv 0) pe_int (fun _ _ => rfl)) (pv 1)) (pg_sub (pv 0) pe_int set_list))
      (pss_one (ps_ret (pv 2)))))
      pss_nil)
      (pss_cons (ps_asg (pe_op op_mod (pe_callTy RD.k_int (by rfl) T.z_int (by decide +kernel) (pa_cons (pe_op op_add (pe_op op_add (pe_op op_mul (pe_ix (RD.k_ixL (K := K) rfl) (pv 0) pe_int (fun _ _ => rfl)) pe_int) (pe_op op_mul (pe_ix (RD.k_ixL (K := K) rfl) (pv 0) pe_int (fun _ _ => rfl)) pe_int)) pe_int) pa_nil)) pe_int) (pg_sub (pv 0) pe_int set_list))
      (pss_cons (ps_set (i := 3) sc_l_pick.nd rfl (Or.inl rfl) (pe_op op_mod (pe_callTy RD.k_int (by rfl) T.z_int (by decide +kernel) (pa_cons (pe_op op_add (pe_op op_add (pe_op op_mul (pe_ix (RD.k_ixL (K := K) rfl) (pv 0) pe_int (fun _ _ => rfl)) (pe_ix (RD.k_ixL (K := K) rfl) (pv 0) pe_int (fun _ _ => rfl))) (pe_op op_mul (pe_ix (RD.k_ixL (K := K) rfl) (pv 0) pe_int (fun _ _ => rfl)) pe_int)) pe_int) pa_nil)) pe_int))
      (pss_one (ps_ret (pe_op op_mod (pe_callTy RD.k_int (by rfl) T.z_int (by decide +kernel) (pa_cons (pe_op op_fdiv (pv 3) pe_int) pa_nil)) (pv 1))))))), ?_⟩
    show tSeq _ _ _ [some (.ref a), some (.int m), none, none] H
    walk_at "rd"
    refine RD.ixL (sq hA) rfl ?_
    walk_at "rd"
    refine RD.iC ⟨by decide, by decide, by decide⟩ ?_
    walk_at "rd"
    refine RD.dec (fun hbig => ?_) (fun hsm => ?_)
    · walk_at "rd"
      refine RD.ixL (sq hA) rfl ?_
      walk_at "rd"
      refine RD.iC hm ?_
      walk_at "rd"
      refine RD.ixL (sq hA) rfl ?_
      walk_at "rd"
      refine RD.iC ⟨hm, by omega⟩ ?_
      walk_at "rd"
      refine RD.setL hA rfl ?_
      walk_at "rd"
      exact pick_end k (Int.emod_nonneg _ (by omega)) (Int.emod_lt_of_pos _ hm) (Int.ediv_nonneg hx (by omega)) hy hy2
    · have hx18 : x < 1000000000000000000 := by
        have e : ((10 : Int) ^ (18 : Int).toNat) = 1000000000000000000 := by decide
        rw [e] at hsm
        omega
      walk_at "rd"
      refine RD.ixL (sq hA) rfl ?_
      walk_at "rd"
      refine RD.iC (.inr ⟨by decide, by decide⟩) ?_
      walk_at "rd"
      refine RD.ixL (sq hA) rfl ?_
      walk_at "rd"
      refine RD.iC (.inr ⟨by decide, by decide⟩) ?_
      walk_at "rd"
      refine RD.iC (by decide) ?_
      generalize hy' : (y * 48271 + x * 69621 + 11) % 2147483647 = y'
      have y0 : 0 ≤ y' := by rw [← hy']; exact Int.emod_nonneg _ (by decide)
      have y1 : y' < 2147483647 := by rw [← hy']; exact Int.emod_lt_of_pos _ (by decide)
      walk_at "rd"
      refine RD.setL hA rfl ?_
      have hB : (upd H a (.lst [.int x, .int y'])) a = some (.lst [.int x, .int y']) := upd_same
      walk_at "rd"
      refine RD.ixL (sq hB) rfl ?_
      walk_at "rd"
      refine RD.ixL (sq hB) rfl ?_
      walk_at "rd"
      refine RD.iC (.inl ⟨by omega, by omega⟩) ?_
      walk_at "rd"
      refine RD.ixL (sq hB) rfl ?_
      walk_at "rd"
      refine RD.iC (.inr ⟨by decide, by decide⟩) ?_
      walk_at "rd"
      refine RD.iC (by decide) ?_
      walk_at "rd"
      refine RD.iC ⟨by decide, by decide⟩ ?_
      walk_at "rd"
      refine RD.iC hm ?_
      exact pick_end k (Int.emod_nonneg _ (by omega)) (Int.emod_lt_of_pos _ hm) hx y0 y1
theorem ok_l_tape (T : Txt K mg A) : FnOk P w K mg base CX0 1 A.f_l_tape A.d_l_tape ["_law_script", "_law_k"] (sp_l_tape K) := by
  refine T.F_l_tape.ok sc_l_tape (fun vs H Q E h => ?_) (fun cdv Ar outer s H vs Q E hr h => ?_)
  · obtain ⟨a, ns, k, rfl, _⟩ := h
    rfl
  · obtain ⟨a, ns, k, rfl, hS, hk, hk2, q⟩ := h
    refine ⟨_, (pss_cons (ps_set (i := 2) sc_l_tape.nd rfl (Or.inl rfl) pe_int)
      (pss_cons (ps_if (pt_cmpR (RD.k_neD (K := K) rfl hr.units) (pv 0) (pe_lst pa_nil) (nomark _))
      (pss_one (ps_set (i := 2) sc_l_tape.nd rfl (Or.inl rfl) (pe_ix (RD.k_ixL (K := K) rfl) (pv 0) (pe_op op_mod (pe_callTy RD.k_int (by rfl) T.z_int (by decide +kernel) (pa_cons (pv 1) pa_nil)) (pe_callB (RD.k_len (K := K) rfl) (by rfl) T.z_len (by decide +kernel) (pa_cons (pv 0) pa_nil))) (fun _ _ => rfl))))
      pss_nil)
      (pss_one (ps_ret (pe_lst (pa_cons (pe_callB RD.k_abs (by rfl) T.z_abs (by decide +kernel) (pa_cons (pv 2) pa_nil)) (pa_cons (pe_op op_add (pe_op op_mul pe_int (pv 1)) pe_int) pa_nil))))))), ?_⟩
    show tSeq _ _ _ [some (.ref a), some (.int k), none] H
    walk_at "rd"
    refine ⟨Nat.zero_le _, fun p hp => ?_⟩
    have s1 : Same H (upd H p (.lst [])) := RD.same_new hp
    have hS1 := s1.seq hS
    refine RD.neD (d := dI ns) (e := dI []) (dp_I hS1) (dp_I (l := []) (sq upd_same)) (sh_dI _) (sh_dI _) ?_
    rw [eqv_dI]
    walk_at "rd"
    refine RD.ndec (fun hne => ?_) (fun _ => ?_)
    · have hl : 0 < ns.length := by
        cases ns with
        | nil => exact absurd rfl hne
        | cons _ _ => exact Nat.succ_pos _
      walk_at "rd"
      refine RD.len hS1 ?_
      rw [List.length_map]
      refine RD.iC (show (0 : Int) < _ by omega) ?_
      obtain ⟨j, hj⟩ := Int.eq_ofNat_of_zero_le (Int.emod_nonneg k (show ((ns.length : Nat) : Int) ≠ 0 by omega))
      have hj2 := Int.emod_lt_of_pos k (show (0 : Int) < ((ns.length : Nat) : Int) by omega)
      rw [hj] at hj2 ⊢
      have hjl : j < ns.length := by omega
      refine RD.ixL hS1 (at_n (v := .int ns[j]) (by rw [List.getElem?_map, List.getElem?_eq_getElem hjl]; rfl)) ?_
      walk_at "rd"
      refine RD.iC (.inl ⟨by decide, by decide⟩) ?_
      walk_at "rd"
      refine ⟨(show 2 ≤ sizeLine by decide), fun r hr => ?_⟩
      refine q _ r (s1.trans (RD.same_new hr)) (s1.free hr) (TapeAt.mk ?_ (by omega) (by omega))
      split <;> omega
    · walk_at "rd"
      refine RD.iC (.inl ⟨by decide, by decide⟩) ?_
      walk_at "rd"
      refine ⟨(show 2 ≤ sizeLine by decide), fun r hr => ?_⟩
      refine q _ r (s1.trans (RD.same_new hr)) (s1.free hr) (TapeAt.mk ?_ (by omega) (by omega))
      split <;> omega
theorem ok_l_nexts (T : Txt K mg A) : FnOk P w K mg base CX0 2 A.f_l_nexts A.d_l_nexts ["_law_tape_here", "_law_edges"] (sp_l_nexts) := by
  have G_l_pick := ok_l_pick (P := P) (w := w) (base := base) T
  refine T.F_l_nexts.ok sc_l_nexts (fun vs H Q E h => ?_) (fun cdv Ar outer s H vs Q E hr h => ?_)
  · obtain ⟨a, e, rfl, _⟩ := h
    rfl
  · obtain ⟨a, e, rfl, tA, he, q⟩ := h
    refine ⟨_, (pss_cons (ps_setLc (i := 2) (own := [("_law_k", 4)]) (g := gName 4) (by rfl) sc_l_nexts.nd rfl rfl (sw_true rfl rfl rfl (by decide +kernel)) (pi_range1 (by rfl) T.z_range (pa_cons (pe_op op_mul pe_int (pv 1)) pa_nil)) (blkOk_by (own := [("_law_k", 4)]) (N := ["_law_tape_here", "_law_edges", "_law_left", "_law_nexts_here", "_law_k", "_law_at"]) (sc := defScope s_l_nexts) (by decide +kernel)) (fun _ _ _ _ _ => (pg_name (i := 4) sc_l_nexts.nd rfl (Or.inl rfl))) (fun _ _ _ _ _ => pts_nil) (fun _ _ _ _ _ => (pv 4)))
      (pss_cons (ps_set (i := 3) sc_l_nexts.nd rfl (Or.inl rfl) (pe_lst pa_nil))
      (pss_cons (ps_for PassesOwn.never rfl (pi_range1 (by rfl) T.z_range (pa_cons (pe_op op_mul pe_int (pv 1)) pa_nil)) (pg_name (i := 4) sc_l_nexts.nd rfl (Or.inl rfl))
      (pss_cons (ps_set (i := 5) sc_l_nexts.nd rfl (Or.inl rfl) (pe_call G_l_pick (hr.mono (by decide)) (by rfl) T.g_l_pick T.F_l_pick.kp T.b_l_pick .nil pass0 (pa_cons (pv 0) (pa_cons (pe_callB (RD.k_len (K := K) rfl) (by rfl) T.z_len (by decide +kernel) (pa_cons (pv 2) pa_nil)) pa_nil))))
      (pss_cons (ps_expr (RD.k_bm (K := K) rfl PySem.F.plainAttrs_list PySem.F.slot_list_append PySem.F.type_list_append mt_append (pv 3) (pa_cons (pe_ix (RD.k_ixL (K := K) rfl) (pv 2) (pv 5) (fun _ _ => rfl)) pa_nil)))
      (pss_one (ps_set (i := 2) sc_l_nexts.nd rfl (Or.inl rfl) (pe_op op_cat (pe_slice (RD.k_slL (K := K) rfl) (pv 2) po_none (po_some (pv 5))) (pe_slice (RD.k_slL (K := K) rfl) (pv 2) (po_some (pe_op op_add (pv 5) pe_int)) po_none)))))))
      (pss_one (ps_ret (pv 3)))))), ?_⟩
    show tSeq _ _ _ [some (.ref a), some (vn e), none, none, none, none] H
    walk_at "rd"
    refine RD.iC (.inl ⟨by decide, by decide⟩) ?_
    walk_at "rd"
    refine RD.lcR (z := 2 * (e : Int)) (n := 2 * e) (by omega) (by omega) (by omega) (fun _ => true) vn (fun i H1 Q' R' hi s1 kT kF => ?_) (fun H1 l nl s1 el => ?_)
    · walk_at "wp"
      walk_at "rd"
      refine ⟨rfl, ?_⟩
      walk_at "rd"
      exact kT rfl _ (Same.refl _)
    rw [RD.pick_all (fun _ => rfl)] at el
    walk_at "rd"
    refine ⟨Nat.zero_le _, fun p np => ?_⟩
    walk_at "rd"
    refine RD.iC (.inl ⟨by decide, by decide⟩) ?_
    walk_at "rd"
    have la : l ≠ a := fun z => by
      obtain ⟨x, y, hA, _⟩ := tA
      rw [z, hA] at nl
      cases nl
    have tA1 : TapeAt (upd H1 p (.lst [])) a := (tA.same s1).same (RD.same_new np)
    have pa : p ≠ a := fun z => by
      obtain ⟨x, y, hA, _⟩ := tA.same s1
      rw [z, hA] at np
      cases np
    have np0 : H p = none := s1.free np
    refine RD.goR (n := 2 * e) (by omega) (by omega) (by omega) (fun i σ H2 => ∃ (l' : Addr) (ns left : List Nat) (o4 o5 : Option V), σ = [some (.ref a), some (vn e), some (.ref l'), some (.ref p), o4, o5] ∧ l' ≠ a ∧ l' ≠ p ∧ TapeAt H2 a ∧ SameX a H H2 ∧ H2 l' = some (.lst (vns left)) ∧ H2 p = some (.lst (vns ns)) ∧ (ns ++ left).Perm (List.range (2 * e)) ∧ ns.length = i)
      ⟨l, [], List.range (2 * e), none, none, rfl, la, ne_of_none el np, tA1, (Same.x s1).mut np0, by rw [upd_ne (ne_of_none el np)]; exact el, upd_same, List.Perm.refl _, rfl⟩ ?_ ?_
    · rintro i σ H2 hi ⟨l', ns, left, o4, o5, rfl, la', lp', tA2, s2, el2, ep2, pm, hl⟩
      have hlen := pm.length_eq
      rw [List.length_append, List.length_range, hl] at hlen
      walk_at "rd"
      refine RD.len (sq el2) ?_
      walk_at "rd"
      refine ⟨a, _, rfl, tA2, by rw [vns_len]; omega, by rw [vns_len]; omega, fun v H3 hv tA3 s3 => ?_⟩
      rw [vns_len] at hv
      have hv' : v < left.length := by omega
      have el3 := s3 _ _ el2 la'
      have ep3 := s3 _ _ ep2 pa
      walk_at "rd"
      refine ⟨RD.tyL (sq ep3), ?_⟩
      walk_at "rd"
      refine RD.ixL (sq el3) (at_n (vns_at (List.getElem?_eq_getElem hv'))) ?_
      walk_at "rd"
      refine RD.app ep3 (by rw [vns_len]; exact szt (by omega)) ?_
      have el4 : (upd H3 p (.lst (vns ns ++ [vn left[v]]))) l' = some (.lst (vns left)) := by rw [upd_ne lp']; exact el3
      walk_at "rd"
      refine RD.slL (sq el4) fun c1 nc1 => ?_
      have s4 := RD.same_new (o := .lst (cutV (vns left) none (some (v : Int)))) nc1
      walk_at "rd"
      refine RD.slL (sq (s4 _ _ el4)) fun c2 nc2 => ?_
      have s5 := RD.same_new (o := .lst (cutV (vns left) (some ((v : Int) + 1)) none)) nc2
      have e1 : cutV (vns left) none (some (v : Int)) = vns (left.take v) := by rw [cut_to]; exact (List.map_take ..).symm
      have e2 : cutV (vns left) (some ((v : Int) + 1)) none = vns (left.drop (v + 1)) := by
        rw [show ((v : Int) + 1) = ((v + 1 : Nat) : Int) by omega, cut_from]
        exact (List.map_drop ..).symm
      rw [e1] at nc2 s4 s5 ⊢
      rw [e2] at s5 ⊢
      refine RD.cat (s5 _ _ upd_same) upd_same (by rw [vns_len, vns_len, List.length_take, List.length_drop]; exact szl (by omega)) fun c3 nc3 => ?_
      have s6 := RD.same_new (o := .lst (vns (left.take v) ++ vns (left.drop (v + 1)))) nc3
      walk_at "rd"
      have sA := (s4.trans s5).trans s6
      have ta5 : TapeAt (upd H3 p (.lst (vns ns ++ [vn left[v]]))) a := by
        obtain ⟨x, y, hA, r⟩ := tA3
        exact ⟨x, y, by rw [upd_ne pa.symm]; exact hA, r⟩
      have ep5 : (upd H3 p (.lst (vns ns ++ [vn left[v]]))) p = some (.lst (vns (ns ++ [left[v]]))) := by rw [upd_same, vns_app]; rfl
      have fr : ∀ b o, (upd H3 p (.lst (vns ns ++ [vn left[v]]))) b = some o → b ≠ c3 := fun b o h => ne_of_none ((s4.trans s5) _ _ h) nc3
      refine ⟨c3, ns ++ [left[v]], left.take v ++ left.drop (v + 1), _, _, rfl, ?_, ?_, ta5.same sA, ?_, by rw [upd_same, vns_app], sA _ _ ep5, ?_, by rw [List.length_append, hl]; rfl⟩
      · obtain ⟨x, y, hA, r⟩ := ta5
        exact (fr _ _ hA).symm
      · exact (fr _ _ ep5).symm
      · exact ((s2.trans s3).mut np0).trans (Same.x sA)
      · rw [List.append_assoc]
        refine List.Perm.trans (List.Perm.append_left ns ?_) pm
        rw [← List.eraseIdx_eq_take_drop_succ]
        exact MM.perm_erase left v hv'
    · rintro σ H2 ⟨l', ns, left, o4, o5, rfl, la', lp', tA2, s2, el2, ep2, pm, hl⟩
      have hlen := pm.length_eq
      rw [List.length_append, List.length_range, hl] at hlen
      have e0 : left = [] := List.eq_nil_of_length_eq_zero (by omega)
      subst e0
      rw [List.append_nil] at pm
      walk_at "rd"
      exact q H2 p ns ⟨by rw [hl]; exact pm, by omega⟩ hl np0 tA2 s2 ep2
end
end Pf

namespace Pf
open PySem PySem.Spec PyProof.Rows L2 MM
/-! ### lists in which None may stand -/
def vo : Option Nat → V
  | none => .non
  | some n => vn n
def vos (os : List (Option Nat)) : List V := os.map vo
def isN (v : V) : Bool := !decide (v = .non)
def isIBN (v : V) : Bool := isIB v || decide (v = .non)
def kn (xs : List V) : List V := xs.filter isN
def knI (xs : List V) : List Int := (kn xs).map toI
def Fits (zs : List Int) (n : Nat) : Prop := zs.Nodup ∧ ∀ z ∈ zs, 0 ≤ z ∧ z < (n : Int)
structure BadP (xs : List V) : Prop where
  no : xs.length % 2 = 1 ∨ (kn xs).all isI = false ∨ ¬ Fits (knI xs) xs.length
theorem kn_ib {xs : List V} (h : xs.all isIBN = true) : (kn xs).all isIB = true := by
  rw [List.all_eq_true]
  intro x hx
  obtain ⟨hm, hn⟩ := List.mem_filter.mp hx
  have := List.all_eq_true.mp h x hm
  unfold isIBN at this
  unfold isN at hn
  cases hd : decide (x = .non) with
  | true => rw [hd] at hn; cases hn
  | false => rw [hd, Bool.or_false] at this; exact this
theorem ibn_flat {xs : List V} (h : xs.all isIBN = true) : xs.all flatV = true := by
  rw [List.all_eq_true]
  intro x hx
  have := List.all_eq_true.mp h x hx
  cases x <;> first | rfl | (exact absurd this (by intro z; cases z))
theorem inV_int (z : Int) (zs : List Int) : inV (.int z) (zs.map V.int) = decide (z ∈ zs) := by
  unfold inV
  rw [List.any_map]
  induction zs with
  | nil => rfl
  | cons y r ih =>
    rw [List.any_cons, ih]
    show ((y == z) || decide (z ∈ r)) = decide (z ∈ y :: r)
    by_cases e : y = z
    · subst e; simp
    · have : ¬ z = y := fun q => e q.symm
      simp [e, this]
def lows (zs : List Int) (n : Nat) : List Int := ((List.range n).filter (fun i : Nat => decide ((i : Int) ∈ zs))).map (fun i : Nat => (i : Int))
theorem mem_lows {zs : List Int} {n : Nat} {z : Int} : z ∈ lows zs n ↔ (0 ≤ z ∧ z < (n : Int)) ∧ z ∈ zs := by
  unfold lows
  rw [List.mem_map]
  constructor
  · rintro ⟨i, hi, rfl⟩
    obtain ⟨h1, h2⟩ := List.mem_filter.mp hi
    have := List.mem_range.mp h1
    exact ⟨by omega, of_decide_eq_true h2⟩
  · rintro ⟨⟨h0, h1⟩, h2⟩
    obtain ⟨i, rfl⟩ := Int.eq_ofNat_of_zero_le h0
    exact ⟨i, List.mem_filter.mpr ⟨List.mem_range.mpr (by omega), decide_eq_true h2⟩, rfl⟩
theorem lows_lt (zs : List Int) (n : Nat) : (lows zs n).Pairwise (· < ·) := by
  unfold lows
  refine List.pairwise_map.mpr (List.Pairwise.imp ?_ (List.Pairwise.filter _ (List.pairwise_lt_range (n := n))))
  intro x y h
  omega
theorem part_iff {zs so : List Int} {n : Nat} (p : so.Perm zs) (o : so.Pairwise (· ≤ ·)) : so = lows zs n ↔ Fits zs n := by
  have nd : (lows zs n).Nodup := List.Pairwise.imp (fun h e => by omega) (lows_lt zs n)
  constructor
  · intro e
    refine ⟨p.nodup_iff.mp (by rw [e]; exact nd), fun z hz => ?_⟩
    have := p.mem_iff.mpr hz
    rw [e] at this
    exact (mem_lows.mp this).1
  · intro f
    refine List.Perm.eq_of_pairwise (le := (· ≤ ·)) (fun x y _ _ h1 h2 => Int.le_antisymm h1 h2) o (List.Pairwise.imp (fun h => by omega) (lows_lt zs n)) (p.trans ?_)
    refine (List.perm_ext_iff_of_nodup f.1 nd).mpr fun z => ?_
    rw [mem_lows]
    exact ⟨fun h => ⟨f.2 z h, h⟩, fun h => h.2⟩
theorem pick_lows {zs : List Int} {n : Nat} : RD.pick (fun i : Nat => inV (vn i) (zs.map V.int)) vn (List.range n) = (lows zs n).map V.int := by
  rw [RD.pick_filter]
  unfold lows
  rw [List.map_map]
  have e : (List.range n).filter (fun i : Nat => inV (vn i) (zs.map V.int)) = (List.range n).filter (fun i : Nat => decide ((i : Int) ∈ zs)) := List.filter_congr fun i _ => inV_int _ _
  rw [e]
  rfl
/-! data with None -/
def dV : V → PyData
  | .non => .none
  | .bl b => .bool b
  | .int i => .int i
  | _ => .none
def dX (xs : List V) : PyData := .list (xs.map dV)
theorem dV_lay (x : V) : PyData.canLay0 (dV x) = true := by cases x <;> simp [dV, PyData.canLay0]
theorem dV_dep (x : V) : PyData.depth (dV x) = 0 := by cases x <;> simp [dV, PyData.depth]
theorem dX_lays : ∀ xs : List V, PyData.canLayAll0 (xs.map dV) = true
  | [] => by simp [PyData.canLayAll0]
  | a :: l => by simp [PyData.canLayAll0, dV_lay, dX_lays l]
theorem dX_deps : ∀ xs : List V, PyData.depthAll (xs.map dV) = 0
  | [] => by simp [PyData.depthAll]
  | a :: l => by simp [PyData.depthAll, dV_dep, dX_deps l]
theorem dX_lay (xs : List V) : PyData.canLay0 (dX xs) = true := by
  unfold dX
  rw [PyData.canLay0]
  exact dX_lays xs
theorem sh_dX (xs : List V) : SeqAt.shaped (dX xs) = true := by
  unfold SeqAt.shaped
  rw [dX_lay]
  unfold dX
  rw [PyData.depth, dX_deps]
  rfl
theorem dp_V {K : PySem.W.Frag} {H : Hp} {x : V} (h : isIBN x = true) : Dp K H x (dV x) := by
  cases x with
  | non => exact .non
  | bl b => exact .bl b
  | int i => exact .int i
  | _ => exact absurd h (by intro z; cases z)
theorem dp_Vs {K : PySem.W.Frag} {H : Hp} : ∀ {xs : List V}, xs.all isIBN = true → DpAll K H xs (xs.map dV)
  | [], _ => .nil
  | x :: xs, h => by
    rw [List.all_cons, Bool.and_eq_true] at h
    exact .cons (dp_V h.1) (dp_Vs h.2)
theorem dp_X {K : PySem.W.Frag} {H : Hp} {a : Addr} {xs : List V} (h : SqL K H a xs) (hi : xs.all isIBN = true) : Dp K H (.ref a) (dX xs) := .lst h (dp_Vs hi)
theorem eqv_dX (xs : List V) : PyData.eqv (dX xs) (dX xs) = true := SeqAt.eqv_refl _ (dX_lay xs)
theorem vns_ibn (l : List Nat) : (vns l).all isIBN = true := by
  rw [List.all_eq_true]
  intro x hx
  obtain ⟨n, _, rfl⟩ := List.mem_map.mp hx
  rfl
/-! ### the object -/
def pflds (a : Addr) : List (Str × V) := putF "following" (.ref a) []
theorem pf_f (a : Addr) : (pflds a).lookup ("following" : Str) = some (.ref a) := by
  unfold pflds
  rw [lookup_putF, if_pos rfl]
theorem pf_no (a : Addr) {m : Str} (h : ¬ m = "following") : (pflds a).lookup m = none := by
  unfold pflds
  rw [lookup_putF, if_neg h]
  rfl
structure PartAt (A : Ad) (H : Hp) (p a : Addr) (xs : List V) : Prop where
  ob : ∃ dx, H p = some (.ins A.c_Partial dx (pflds a))
  fo : H a = some (.lst xs)
theorem PartAt.same {A : Ad} {H H' : Hp} {p a : Addr} {xs : List V} (m : PartAt A H p a xs) (s : Same H H') : PartAt A H' p a xs := by
  obtain ⟨⟨dx, h⟩, h1⟩ := m
  exact ⟨⟨dx, s _ _ h⟩, s _ _ h1⟩
def sp_areX (K : PySem.W.Frag) : Sp := fun vs H Q _ => ∃ (a : Addr) (xs : List V), vs = [.ref a] ∧ SqL K H a xs ∧ xs.all isIB = true ∧ xs.length ≤ 1000 ∧ ∀ H', Same H H' → Q (.bl (xs.all isI)) H'
def sp_initP (A : Ad) : Sp := fun vs H Q E => ∃ (p dx q : Addr) (xs : List V), vs = [.ref p, .ref q] ∧ H p = some (.ins A.c_Partial dx []) ∧ H q = some (.lst xs) ∧ xs.length ≤ 62 ∧ xs.all isIBN = true ∧
  (BadP xs → ∀ H', Same H H' → E (.ref A.c_NotAMesh) none H') ∧ (¬ BadP xs → ∀ (H' : Hp) (a : Addr), H a = none → PartAt A H' p a xs → SameX p H H' → Q .non H')
def exi (xs : List V) : List Nat := (List.range xs.length).filter fun i => decide (xs[i]? = some .non)
def ent (xs : List V) : List Nat := (List.range xs.length).filter fun i => !inV (vn i) xs
def sp_pnexts (A : Ad) : Sp := fun vs H Q _ => ∃ (p a : Addr) (xs : List V), vs = [.ref p] ∧ PartAt A H p a xs ∧ ∀ q, H q = none → Q (.ref q) (upd H q (.lst xs))
def sp_plist (A : Ad) (f : List V → List Nat) : Sp := fun vs H Q _ => ∃ (p a : Addr) (xs : List V), vs = [.ref p] ∧ PartAt A H p a xs ∧ xs.all isIBN = true ∧ xs.length ≤ 1000 ∧ ∀ H' q, Same H H' → H q = none → H' q = some (.lst (vns (f xs))) → Q (.ref q) H'
def sp_llist (K : PySem.W.Frag) (f : List V → List Nat) : Sp := fun vs H Q _ => ∃ (r : Addr) (xs : List V), vs = [.ref r] ∧ SqL K H r xs ∧ xs.all isIBN = true ∧ xs.length ≤ 1000 ∧ ∀ H' q, Same H H' → H q = none → H' q = some (.lst (vns (f xs))) → Q (.ref q) H'
section
variable {P : Program} {w : World} {K : PySem.W.Frag} {mg : Str → Option Value} {base : Heap} {A : Ad}
theorem ok_are_integers (T : Txt K mg A) : FnOk P w K mg base CX0 1 A.f_are_integers A.d_are_integers ["values"] (sp_areX K) := by
  refine T.F_are_integers.ok sc_are_integers (fun vs H Q E h => ?_) (fun cdv Ar outer s H vs Q E hr h => ?_)
  · obtain ⟨a, xs, rfl, _⟩ := h
    rfl
  · obtain ⟨a, xs, rfl, hS, hib, hl, q⟩ := h
    refine ⟨_, (pss_one (ps_ret (pe_callB (RD.k_all (K := K) rfl rfl) (by rfl) T.z_all (by decide +kernel) (pa_cons (pe_lc (own := [("value", 1)]) (g := gName 1) (by rfl) sc_are_integers.nd (RD.k_pil (K := K) rfl (pv 0)) (blkOk_by (own := [("value", 1)]) (N := ["values", "value"]) (sc := defScope s_are_integers) (by decide +kernel)) (fun _ _ _ _ _ => (pg_name (i := 1) sc_are_integers.nd rfl (Or.inl rfl))) (fun _ _ _ _ _ => pts_nil) (fun _ _ _ _ _ => (pe_and (pe_callB (RD.k_isi (K := K) rfl) (by rfl) T.z_isinstance (by decide +kernel) (pa_cons (pv 1) (pa_cons (pe_bltn (v := .ty "int") (by rfl) T.z_int (by decide +kernel) rfl) pa_nil))) (pe_one (pe_not (pe_callB (RD.k_isi (K := K) rfl) (by rfl) T.z_isinstance (by decide +kernel) (pa_cons (pv 1) (pa_cons (pe_bltn (v := .ty "bool") (by rfl) T.z_bool (by decide +kernel) rfl) pa_nil)))))))) pa_nil)))), ?_⟩
    show tRet _ _ [some (.ref a), none] H
    walk_at "rd"
    refine RD.lcL hS (szl (by omega)) (fun _ => true) (fun v => .bl (isI v)) (fun i x H1 Q' R' hx s1 kT kF => ?_) (fun H1 l nl s1 el => ?_)
    · have hxb := List.all_eq_true.mp hib x (List.mem_of_getElem? hx)
      walk_at "wp"
      walk_at "rd"
      refine ⟨rfl, ?_⟩
      walk_at "rd"
      cases x with
      | int z =>
        refine RD.isi (.ty "int") (.base (.int z)) (kit_ty (r := true) (by decide +kernel)) ?_
        walk_at "rd"
        refine RD.isi (.ty "bool") (.base (.int z)) (kit_ty (r := false) (by decide +kernel)) ?_
        walk_at "rd"
        exact kT rfl _ (Same.refl _)
      | bl z =>
        refine RD.isi (.ty "int") (.base (.bl z)) (kit_ty (r := true) (by decide +kernel)) ?_
        walk_at "rd"
        refine RD.isi (.ty "bool") (.base (.bl z)) (kit_ty (r := true) (by decide +kernel)) ?_
        walk_at "rd"
        exact kT rfl _ (Same.refl _)
      | _ => exact absurd hxb (by intro z; cases z)
    rw [RD.pick_all (fun _ => rfl)] at el
    walk_at "rd"
    refine RD.all1 (bs := xs.map isI) (sq (by rw [el, List.map_map]; rfl)) ?_
    have e : (xs.map isI).all id = xs.all isI := by rw [List.all_map]; rfl
    rw [e]
    exact q H1 s1
theorem ok_Partial_d_initd_ (T : Txt K mg A) : FnOk P w K mg base (L2.CX P w) 2 A.f_Partial_d_initd_ A.d_Partial_d_initd_ ["self", "nexts"] (sp_initP A) := by
  have G_are_integers := ok_are_integers (P := P) (w := w) (base := base) T
  refine T.F_Partial_d_initd_.okX sc_Partial_d_initd_ (fun vs H Q E h => ?_) (fun cdv Ar outer s H vs Q E hr h => ?_)
  · obtain ⟨p, dx, r, xs, rfl, _⟩ := h
    rfl
  · obtain ⟨p, dx, r, xs, rfl, hp, hr0, hl, hib, qB, qG⟩ := h
    refine ⟨_, (pss_cons (ps_set (i := 2) sc_Partial_d_initd_.nd rfl (Or.inr rfl) (pe_lc (own := [("after", 3)]) (g := gName 3) (by rfl) sc_Partial_d_initd_.nd (RD.k_pil (K := K) rfl (pv 1)) (blkOk_by (own := [("after", 3)]) (N := ["self", "nexts", "known", "after", "half"]) (sc := defScope s_Partial_d_initd_) (by decide +kernel)) (fun _ _ _ _ _ => (pg_name (i := 3) sc_Partial_d_initd_.nd rfl (Or.inl rfl))) (fun _ _ _ _ _ => (pts_one (pt_cmpR op_notN (pv 3) pe_non (nomark _)))) (fun _ _ _ _ _ => (pv 3))))
      (pss_cons (ps_if (PW.pt (pw_or (pt_cmpR op_eq (pe_op op_mod (pe_callB (RD.k_len (K := K) rfl) (by rfl) T.z_len (by decide +kernel) (pa_cons (pv 1) pa_nil)) pe_int) pe_int (nomark _)) (pw_or1 (pt_not (pt_val (pe_call G_are_integers (hr.mono (by decide)) (by rfl) T.g_are_integers T.F_are_integers.kp T.b_are_integers .nil pass0 (pa_cons (pv 2) pa_nil)))))))
      (pss_one (ps_raise rfl (takes_of rfl rfl rfl rfl) (RD.pmk_own0 PySem.F.excBase_ValueError T.x_NotAMesh T.g_NotAMesh T.k_NotAMesh (raises_own T.s_NotAMesh T.t_NotAMesh) rfl)))
      pss_nil)
      (pss_cons (ps_if (pt_cmpR (RD.k_neD (K := K) rfl hr.units) (pe_callB (RD.k_sorted (K := K) rfl) (by rfl) T.z_sorted (by decide +kernel) (pa_cons (pv 2) pa_nil)) (pe_lc (own := [("half", 4)]) (g := gName 4) (by rfl) sc_Partial_d_initd_.nd (pi_range1 (by rfl) T.z_range (pa_cons (pe_callB (RD.k_len (K := K) rfl) (by rfl) T.z_len (by decide +kernel) (pa_cons (pv 1) pa_nil)) pa_nil)) (blkOk_by (own := [("half", 4)]) (N := ["self", "nexts", "known", "after", "half"]) (sc := defScope s_Partial_d_initd_) (by decide +kernel)) (fun _ _ _ _ _ => (pg_name (i := 4) sc_Partial_d_initd_.nd rfl (Or.inl rfl))) (fun _ _ _ _ _ => (pts_one (pt_cmpR (RD.k_in (K := K) rfl) (pv 4) (pv 2) (by rfl)))) (fun _ _ _ _ _ => (pv 4))) (nomark _))
      (pss_one (ps_raise rfl (takes_of rfl rfl rfl rfl) (RD.pmk_own0 PySem.F.excBase_ValueError T.x_NotAMesh T.g_NotAMesh T.k_NotAMesh (raises_own T.s_NotAMesh T.t_NotAMesh) rfl)))
      pss_nil)
      (PSs.nox (pss_one (RD.k_sfld (K := K) rfl (pv 0) (pe_callTy (RD.k_list (K := K) rfl) (by rfl) T.z_list (by decide +kernel) (pa_cons (pv 1) pa_nil)) rfl)))))), ?_⟩
    show tSeq _ _ _ [some (.ref p), some (.ref r), none, none, none] H
    walk_at "rd"
    refine RD.lcL (sq hr0) (szl (by omega)) isN id (fun i x H1 Q' R' hx s1 kT kF => ?_) (fun H1 k nk s1 ek => ?_)
    · walk_at "wp"
      walk_at "rd"
      refine ⟨rfl, ?_⟩
      walk_at "rd"
      refine ⟨rfl, ?_⟩
      walk_at "rd"
      cases hd : decide (x = .non) with
      | true =>
        walk_at "rn"
        exact kF (by unfold isN; rw [hd]; rfl) _ (Same.refl _)
      | false =>
        walk_at "rn"
        exact kT (by unfold isN; rw [hd]; rfl) _ (Same.refl _)
    rw [RD.pick_filter, List.map_id] at ek
    walk_at "rd"
    refine RD.len (sq (s1 _ _ hr0)) ?_
    walk_at "rd"
    refine RD.iC (by decide) ?_
    walk_at "rd"
    refine RD.dec (fun hodd => ?_) (fun hev => ?_)
    · walk_at "rd"
      exact qB ⟨.inl (by omega)⟩ H1 s1
    have hkl : (kn xs).length ≤ xs.length := List.length_filter_le _ _
    walk_at "rd"
    refine ⟨k, kn xs, rfl, sq ek, kn_ib hib, by omega, fun H2 s2 => ?_⟩
    walk_at "rd"
    have ek2 := s2 _ _ ek
    have hr2 := s2 _ _ (s1 _ _ hr0)
    cases hai : (kn xs).all isI with
    | false =>
      walk_at "rn"
      exact qB ⟨.inr (.inl hai)⟩ H2 (s1.trans s2)
    | true =>
    walk_at "rn"
    have exs : kn xs = (knI xs).map V.int := all_ints hai
    have hkz : (knI xs).length = (kn xs).length := List.length_map _
    change H2 k = some (.lst (kn xs)) at ek2
    rw [exs] at ek2
    refine RD.sort1 (ns := knI xs) (sq ek2) (by omega) fun so c pm srt nc => ?_
    have s3 := RD.same_new (o := .lst (so.map V.int)) nc
    walk_at "rd"
    refine RD.len (sq (s3 _ _ hr2)) ?_
    walk_at "rd"
    refine RD.lcR (z := (xs.length : Int)) (n := xs.length) (by omega) (by omega) (by omega) (fun i => inV (vn i) ((knI xs).map V.int)) vn (fun i H4 Q' R' hi s4 kT kF => ?_) (fun H4 c2 nc2 s4 ec2 => ?_)
    · walk_at "wp"
      walk_at "rd"
      refine ⟨rfl, ?_⟩
      walk_at "rd"
      refine RD.inL (sq (s4 _ _ (s3 _ _ ek2))) rfl ?_ ?_
      · rw [List.all_map, List.all_eq_true]
        intro x _
        rfl
      walk_at "rd"
      cases hd : inV (V.int (i : Int)) ((knI xs).map V.int) with
      | true =>
        walk_at "rd"
        exact kT hd _ (Same.refl _)
      | false =>
        walk_at "rd"
        exact kF hd _ (Same.refl _)
    rw [pick_lows] at ec2
    walk_at "rd"
    refine RD.neD (dp_I (sq (s4 _ _ upd_same))) (dp_I (sq ec2)) (sh_dI _) (sh_dI _) ?_
    rw [eqv_dI]
    have hfit := part_iff (n := xs.length) pm srt
    have s5 := ((s1.trans s2).trans s3).trans s4
    walk_at "rd"
    refine RD.ndec (fun hne => ?_) (fun heq => ?_)
    · walk_at "rd"
      exact qB ⟨.inr (.inr fun f => hne (hfit.mpr f))⟩ H4 s5
    walk_at "rd"
    refine RD.list (sq (s5 _ _ hr0)) fun a na => ?_
    walk_at "rd"
    have s6 := RD.same_new (o := .lst xs) na
    have pa : p ≠ a := ne_of_none (s5 _ _ hp) na
    refine ⟨p, _, dx, [], rfl, s6 _ _ (s5 _ _ hp), T.cl_Partial, T.n_Partial_following, by decide, ?_⟩
    refine qG (fun hb => ?_) _ a (s5.free na) ⟨⟨dx, upd_same⟩, by rw [upd_ne pa.symm]; exact upd_same⟩ (((Same.x s5).trans (Same.x s6)).put)
    rcases hb.no with h | h | h
    · omega
    · rw [hai] at h; cases h
    · exact h (hfit.mp heq)
theorem ok_Partial_nexts (T : Txt K mg A) : FnOk P w K mg base CX0 1 A.f_Partial_nexts A.d_Partial_nexts ["self"] (sp_pnexts A) := by
  refine T.F_Partial_nexts.ok sc_Partial_nexts (fun vs H Q E h => ?_) (fun cdv Ar outer s H vs Q E hr h => ?_)
  · obtain ⟨p, a, xs, rfl, _⟩ := h
    rfl
  · obtain ⟨p, a, xs, rfl, ⟨⟨dx, h1⟩, h2⟩, q⟩ := h
    refine ⟨_, (pss_one (ps_ret (pe_callTy (RD.k_list (K := K) rfl) (by rfl) T.z_list (by decide +kernel) (pa_cons (RD.k_fld (K := K) rfl (pv 0) rfl) pa_nil)))), ?_⟩
    show tRet _ _ [some (.ref p)] H
    walk_at "rd"
    refine ⟨p, _, dx, _, _, rfl, h1, T.cl_Partial, T.n_Partial_following, pf_f a, ?_⟩
    walk_at "rd"
    exact RD.list (sq h2) q
theorem ok_Partial_exits (T : Txt K mg A) : FnOk P w K mg base CX0 1 A.f_Partial_exits A.d_Partial_exits ["self"] (sp_plist A exi) := by
  refine T.F_Partial_exits.ok sc_Partial_exits (fun vs H Q E h => ?_) (fun cdv Ar outer s H vs Q E hr h => ?_)
  · obtain ⟨p, a, xs, rfl, _⟩ := h
    rfl
  · obtain ⟨p, a, xs, rfl, ⟨⟨dx, h1⟩, h2⟩, hib, hl, q⟩ := h
    refine ⟨_, (pss_one (ps_ret (pe_lc (own := [("half", 2), ("after", 1)]) (g := gTup K 2 (gCons (gName 2) (gCons (gName 1) gNil))) (by rfl) sc_Partial_exits.nd (RD.k_pie (K := K) rfl (by rfl) T.z_enumerate (pa_cons (RD.k_fld (K := K) rfl (pv 0) rfl) pa_nil)) (blkOk_by (own := [("half", 2), ("after", 1)]) (N := ["self", "after", "half"]) (sc := defScope s_Partial_exits) (by decide +kernel)) (fun _ _ _ _ _ => (RD.k_gtup (K := K) (n := 2) rfl rfl (pgs_cons (pg_name (i := 2) sc_Partial_exits.nd rfl (Or.inl rfl)) (pgs_cons (pg_name (i := 1) sc_Partial_exits.nd rfl (Or.inl rfl)) pgs_nil)))) (fun _ _ _ _ _ => (pts_one (pt_cmpR op_isN (pv 1) pe_non (nomark _)))) (fun _ _ _ _ _ => (pv 2))))), ?_⟩
    show tRet _ _ [some (.ref p), none, none] H
    walk_at "rd"
    refine ⟨p, _, dx, _, _, rfl, h1, T.cl_Partial, T.n_Partial_following, pf_f a, ?_⟩
    walk_at "rd"
    refine RD.lcE (sq h2) (szl (by omega)) (fun i => decide (xs[i]? = some .non)) vn (fun i x tp H1 Q' R' hx s1 nt kT kF => ?_) (fun H1 l nl s1 el => ?_)
    · walk_at "wp"
      refine RD.gtup2 (st upd_same) ?_
      walk_at "rd"
      refine ⟨rfl, ?_⟩
      walk_at "rd"
      refine ⟨rfl, ?_⟩
      walk_at "rd"
      rw [hx] at kT kF
      by_cases e : x = .non
      · refine RD.decT e ?_
        walk_at "rd"
        exact kT (decide_eq_true (congrArg some e)) _ (Same.refl _)
      · refine RD.decF e ?_
        exact kF (decide_eq_false fun z => e (Option.some.inj z)) _ (Same.refl _)
    rw [RD.pick_filter] at el
    exact q H1 l s1 nl el
theorem ok_Partial_entries (T : Txt K mg A) : FnOk P w K mg base CX0 1 A.f_Partial_entries A.d_Partial_entries ["self"] (sp_plist A ent) := by
  refine T.F_Partial_entries.ok sc_Partial_entries (fun vs H Q E h => ?_) (fun cdv Ar outer s H vs Q E hr h => ?_)
  · obtain ⟨p, a, xs, rfl, _⟩ := h
    rfl
  · obtain ⟨p, a, xs, rfl, ⟨⟨dx, h1⟩, h2⟩, hib, hl, q⟩ := h
    refine ⟨_, (pss_one (ps_ret (pe_lc (own := [("half", 1)]) (g := gName 1) (by rfl) sc_Partial_entries.nd (pi_range1 (by rfl) T.z_range (pa_cons (pe_callB (RD.k_len (K := K) rfl) (by rfl) T.z_len (by decide +kernel) (pa_cons (RD.k_fld (K := K) rfl (pv 0) rfl) pa_nil)) pa_nil)) (blkOk_by (own := [("half", 1)]) (N := ["self", "half"]) (sc := defScope s_Partial_entries) (by decide +kernel)) (fun _ _ _ _ _ => (pg_name (i := 1) sc_Partial_entries.nd rfl (Or.inl rfl))) (fun _ _ _ _ _ => (pts_one (pt_cmpR (RD.k_notin (K := K) rfl) (pv 1) (RD.k_fld (K := K) rfl (pv 0) rfl) (by rfl)))) (fun _ _ _ _ _ => (pv 1))))), ?_⟩
    show tRet _ _ [some (.ref p), none] H
    walk_at "rd"
    refine ⟨p, _, dx, _, _, rfl, h1, T.cl_Partial, T.n_Partial_following, pf_f a, ?_⟩
    walk_at "rd"
    refine RD.len (sq h2) ?_
    walk_at "rd"
    refine RD.lcR (z := (xs.length : Int)) (n := xs.length) (by omega) (by omega) (by omega) (fun i => !inV (vn i) xs) vn (fun i H1 Q' R' hi s1 kT kF => ?_) (fun H1 l nl s1 el => ?_)
    · walk_at "wp"
      walk_at "rd"
      refine ⟨rfl, ?_⟩
      walk_at "rd"
      refine ⟨p, _, dx, _, _, rfl, s1 _ _ h1, T.cl_Partial, T.n_Partial_following, pf_f a, ?_⟩
      refine RD.ninL (sq (s1 _ _ h2)) rfl (ibn_flat hib) ?_
      walk_at "rd"
      cases hd : inV (V.int (i : Int)) xs with
      | true =>
        walk_at "rn"
        exact kF (by show (!inV (V.int (i : Int)) xs) = false; rw [hd]; rfl) _ (Same.refl _)
      | false =>
        walk_at "rn"
        exact kT (by show (!inV (V.int (i : Int)) xs) = true; rw [hd]; rfl) _ (Same.refl _)
    rw [RD.pick_filter] at el
    exact q H1 l s1 nl el
theorem ok_l_exits (T : Txt K mg A) : FnOk P w K mg base CX0 1 A.f_l_exits A.d_l_exits ["_law_nexts_here"] (sp_llist K exi) := by
  refine T.F_l_exits.ok sc_l_exits (fun vs H Q E h => ?_) (fun cdv Ar outer s H vs Q E hr h => ?_)
  · obtain ⟨r, xs, rfl, _⟩ := h
    rfl
  · obtain ⟨r, xs, rfl, hS, hib, hl, q⟩ := h
    refine ⟨_, (pss_one (ps_ret (pe_lc (own := [("_law_half", 1)]) (g := gName 1) (by rfl) sc_l_exits.nd (pi_range1 (by rfl) T.z_range (pa_cons (pe_callB (RD.k_len (K := K) rfl) (by rfl) T.z_len (by decide +kernel) (pa_cons (pv 0) pa_nil)) pa_nil)) (blkOk_by (own := [("_law_half", 1)]) (N := ["_law_nexts_here", "_law_half"]) (sc := defScope s_l_exits) (by decide +kernel)) (fun _ _ _ _ _ => (pg_name (i := 1) sc_l_exits.nd rfl (Or.inl rfl))) (fun _ _ _ _ _ => (pts_one (pt_cmpR op_isN (pe_ix (RD.k_ixL (K := K) rfl) (pv 0) (pv 1) (fun _ _ => rfl)) pe_non (nomark _)))) (fun _ _ _ _ _ => (pv 1))))), ?_⟩
    show tRet _ _ [some (.ref r), none] H
    walk_at "rd"
    refine RD.len hS ?_
    walk_at "rd"
    refine RD.lcR (z := (xs.length : Int)) (n := xs.length) (by omega) (by omega) (by omega) (fun i => decide (xs[i]? = some .non)) vn (fun i H1 Q' R' hi s1 kT kF => ?_) (fun H1 l nl s1 el => ?_)
    · walk_at "wp"
      walk_at "rd"
      refine ⟨rfl, ?_⟩
      walk_at "rd"
      have hx := List.getElem?_eq_getElem hi
      refine RD.ixL (s1.seq hS) (at_n hx) ?_
      walk_at "rd"
      refine ⟨rfl, ?_⟩
      walk_at "rd"
      rw [hx] at kT kF
      by_cases e : xs[i] = .non
      · refine RD.decT e ?_
        walk_at "rd"
        exact kT (decide_eq_true (congrArg some e)) _ (Same.refl _)
      · refine RD.decF e ?_
        exact kF (decide_eq_false fun z => e (Option.some.inj z)) _ (Same.refl _)
    rw [RD.pick_filter] at el
    exact q H1 l s1 nl el
theorem ok_l_entries (T : Txt K mg A) : FnOk P w K mg base CX0 1 A.f_l_entries A.d_l_entries ["_law_nexts_here"] (sp_llist K ent) := by
  refine T.F_l_entries.ok sc_l_entries (fun vs H Q E h => ?_) (fun cdv Ar outer s H vs Q E hr h => ?_)
  · obtain ⟨r, xs, rfl, _⟩ := h
    rfl
  · obtain ⟨r, xs, rfl, hS, hib, hl, q⟩ := h
    refine ⟨_, (pss_one (ps_ret (pe_lc (own := [("_law_half", 1)]) (g := gName 1) (by rfl) sc_l_entries.nd (pi_range1 (by rfl) T.z_range (pa_cons (pe_callB (RD.k_len (K := K) rfl) (by rfl) T.z_len (by decide +kernel) (pa_cons (pv 0) pa_nil)) pa_nil)) (blkOk_by (own := [("_law_half", 1)]) (N := ["_law_nexts_here", "_law_half"]) (sc := defScope s_l_entries) (by decide +kernel)) (fun _ _ _ _ _ => (pg_name (i := 1) sc_l_entries.nd rfl (Or.inl rfl))) (fun _ _ _ _ _ => (pts_one (pt_cmpR (RD.k_notin (K := K) rfl) (pv 1) (pv 0) (by rfl)))) (fun _ _ _ _ _ => (pv 1))))), ?_⟩
    show tRet _ _ [some (.ref r), none] H
    walk_at "rd"
    refine RD.len hS ?_
    walk_at "rd"
    refine RD.lcR (z := (xs.length : Int)) (n := xs.length) (by omega) (by omega) (by omega) (fun i => !inV (vn i) xs) vn (fun i H1 Q' R' hi s1 kT kF => ?_) (fun H1 l nl s1 el => ?_)
    · walk_at "wp"
      walk_at "rd"
      refine ⟨rfl, ?_⟩
      walk_at "rd"
      refine RD.ninL (s1.seq hS) rfl (ibn_flat hib) ?_
      walk_at "rd"
      cases hd : inV (V.int (i : Int)) xs with
      | true =>
        walk_at "rn"
        exact kF (by show (!inV (V.int (i : Int)) xs) = false; rw [hd]; rfl) _ (Same.refl _)
      | false =>
        walk_at "rn"
        exact kT (by show (!inV (V.int (i : Int)) xs) = true; rw [hd]; rfl) _ (Same.refl _)
    rw [RD.pick_filter] at el
    exact q H1 l s1 nl el
end
end Pf

namespace Pf
open PySem PySem.Spec PyProof.Rows L2 MM
/-! ### right partial meshes -/
def known (os : List (Option Nat)) : List Nat := os.filterMap id
structure IsPart (os : List (Option Nat)) : Prop where
  even : os.length % 2 = 0
  nd : (known os).Nodup
  lt : ∀ n ∈ known os, n < os.length
theorem vos_len (os : List (Option Nat)) : (vos os).length = os.length := List.length_map _
theorem kn_vos : ∀ os : List (Option Nat), kn (vos os) = vns (known os)
  | [] => rfl
  | none :: r => by
    show (V.non :: vos r).filter isN = _
    rw [List.filter_cons_of_neg (by decide)]
    exact kn_vos r
  | some n :: r => by
    show (vn n :: vos r).filter isN = vns (n :: known r)
    rw [List.filter_cons_of_pos (by rfl)]
    show vn n :: kn (vos r) = _
    rw [kn_vos r]
    rfl
theorem knI_vos (os : List (Option Nat)) : knI (vos os) = (known os).map (fun n : Nat => (n : Int)) := by
  unfold knI
  rw [kn_vos, vns_int, to_int]
theorem ibn_vos (os : List (Option Nat)) : (vos os).all isIBN = true := by
  rw [List.all_eq_true]
  intro x hx
  obtain ⟨o, _, rfl⟩ := List.mem_map.mp hx
  cases o <;> rfl
theorem nodup_cast {l : List Nat} (h : l.Nodup) : (l.map (fun n : Nat => (n : Int))).Nodup := List.pairwise_map.mpr (List.Pairwise.imp (fun hne e => hne (Int.ofNat.inj e)) h)
theorem IsPart.good {os : List (Option Nat)} (h : IsPart os) : ¬ BadP (vos os) := fun b => by
  rcases b.no with e | e | e
  · rw [vos_len] at e
    have := h.even
    omega
  · rw [kn_vos, vns_int, ← Bool.not_eq_true, List.all_eq_true] at e
    exact e fun x hx => by
      obtain ⟨z, _, rfl⟩ := List.mem_map.mp hx
      rfl
  · refine e ⟨?_, fun z hz => ?_⟩
    · rw [knI_vos]
      exact nodup_cast h.nd
    · rw [knI_vos] at hz
      obtain ⟨n, hn, rfl⟩ := List.mem_map.mp hz
      have := h.lt n hn
      rw [vos_len]
      omega
theorem known_set : ∀ (os : List (Option Nat)) (i : Nat), (known (os.set i none)).Sublist (known os)
  | [], _ => List.Sublist.refl _
  | none :: r, 0 => List.Sublist.refl _
  | some n :: r, 0 => by
    show (known r).Sublist (n :: known r)
    exact List.sublist_cons_self _ _
  | none :: r, i + 1 => known_set r i
  | some n :: r, i + 1 => by
    show (n :: known (r.set i none)).Sublist (n :: known r)
    exact (known_set r i).cons₂ n
theorem IsPart.drop {os : List (Option Nat)} (h : IsPart os) (i : Nat) : IsPart (os.set i none) := by
  refine ⟨by rw [List.length_set]; exact h.even, (known_set os i).nodup h.nd, fun n hn => ?_⟩
  rw [List.length_set]
  exact h.lt n ((known_set os i).subset hn)
theorem known_some (ns : List Nat) : known (ns.map some) = ns := by
  unfold known
  induction ns with
  | nil => rfl
  | cons n r ih => rw [List.map_cons, List.filterMap_cons_some (by rfl), ih]
theorem IsMesh.part {ns : List Nat} (m : IsMesh ns) : IsPart (ns.map some) := by
  refine ⟨by rw [List.length_map]; exact m.even, by rw [known_some]; exact m.nodup, fun n hn => ?_⟩
  rw [known_some] at hn
  rw [List.length_map]
  exact m.lt hn
theorem vos_some (ns : List Nat) : vos (ns.map some) = vns ns := by
  unfold vos vns
  rw [List.map_map]
  rfl
/-! as many exits as entries -/
theorem cnt_ix (p : V → Bool) : ∀ xs : List V, ((List.range xs.length).filter (fun i => (xs[i]?.map p).getD false)).length = (xs.filter p).length
  | [] => rfl
  | x :: r => by
    have ih := cnt_ix p r
    rw [List.length_cons, List.range_succ_eq_map, List.filter_cons, List.filter_map, List.filter_cons]
    have e : ((fun i => ((x :: r)[i]?.map p).getD false) ∘ Nat.succ) = fun i => (r[i]?.map p).getD false := by
      funext i
      show (((x :: r)[i + 1]?).map p).getD false = _
      rw [List.getElem?_cons_succ]
    rw [e]
    show (if p x = true then 0 :: _ else _ : List Nat).length = (if p x = true then x :: _ else _ : List V).length
    by_cases h : p x = true
    · rw [if_pos h, if_pos h, List.length_cons, List.length_cons, List.length_map, ih]
    · rw [if_neg h, if_neg h, List.length_map, ih]
theorem inV_vos (i : Nat) : ∀ os : List (Option Nat), inV (vn i) (vos os) = decide (i ∈ known os)
  | [] => rfl
  | none :: r => by
    show (false || inV (vn i) (vos r)) = decide (i ∈ known r)
    rw [Bool.false_or]
    exact inV_vos i r
  | some n :: r => by
    show (((n : Int) == (i : Int)) || inV (vn i) (vos r)) = decide (i ∈ n :: known r)
    rw [inV_vos i r]
    by_cases e : n = i
    · subst e; simp
    · have h1 : ¬ (n : Int) = (i : Int) := fun z => e (Int.ofNat.inj z)
      have h2 : ¬ i = n := fun z => e z.symm
      simp [h1, h2]
theorem split_len {α : Type} (p : α → Bool) : ∀ l : List α, (l.filter p).length + (l.filter fun x => !p x).length = l.length
  | [] => rfl
  | a :: l => by
    have ih := split_len p l
    rw [List.filter_cons, List.filter_cons]
    cases h : p a
    · show (l.filter p).length + (a :: l.filter fun x => !p x).length = _
      rw [List.length_cons, List.length_cons]
      omega
    · show (a :: l.filter p).length + (l.filter fun x => !p x).length = _
      rw [List.length_cons, List.length_cons]
      omega
theorem exi_len (os : List (Option Nat)) : (exi (vos os)).length + (known os).length = os.length := by
  have e1 : exi (vos os) = (List.range (vos os).length).filter (fun i => ((vos os)[i]?.map fun v => !isN v).getD false) := by
    unfold exi
    refine List.filter_congr fun i hi => ?_
    rw [List.getElem?_eq_getElem (List.mem_range.mp hi)]
    show decide (some _ = some V.non) = !isN _
    unfold isN
    rw [Bool.not_not]
    by_cases h : (vos os)[i]'(List.mem_range.mp hi) = V.non
    · rw [decide_eq_true (congrArg some h), decide_eq_true h]
    · rw [decide_eq_false fun z => h (Option.some.inj z), decide_eq_false h]
  have h := split_len isN (vos os)
  rw [e1, cnt_ix]
  have e2 : ((vos os).filter isN).length = (known os).length := by
    have := congrArg List.length (kn_vos os)
    rw [vns_len] at this
    exact this
  rw [vos_len] at h
  omega
theorem ent_len {os : List (Option Nat)} (h : IsPart os) : (ent (vos os)).length + (known os).length = os.length := by
  have hs := split_len (fun i => decide (i ∈ known os)) (List.range os.length)
  rw [List.length_range] at hs
  have e1 : ent (vos os) = (List.range os.length).filter (fun i => !decide (i ∈ known os)) := by
    unfold ent
    rw [vos_len]
    refine List.filter_congr fun i _ => ?_
    rw [inV_vos]
  have e2 : ((List.range os.length).filter (fun i => decide (i ∈ known os))).length = (known os).length := by
    refine List.Perm.length_eq ((List.perm_ext_iff_of_nodup (List.Pairwise.filter _ List.nodup_range) h.nd).mpr fun x => ?_)
    rw [List.mem_filter, List.mem_range]
    exact ⟨fun z => of_decide_eq_true z.2, fun z => ⟨h.lt x z, decide_eq_true z⟩⟩
  rw [e1]
  omega
/-! ### promises -/
def sp_l_partial : Sp := fun vs H Q _ => ∃ (t : Addr) (e k : Nat), vs = [.ref t, vn e, vn k] ∧ TapeAt H t ∧ e ≤ 30 ∧ 0 < e ∧ k ≤ 1000 ∧
  ∀ (H' : Hp) (p : Addr) (os : List (Option Nat)), IsPart os → os.length = 2 * e → H p = none → TapeAt H' t → SameX t H H' → H' p = some (.lst (vos os)) → Q (.ref p) H'
def sp_l_refused (A : Ad) : Sp := fun vs H Q _ => ∃ (r : Addr) (xs : List V), vs = [.ref r] ∧ H r = some (.lst xs) ∧ BadP xs ∧ xs.all isIBN = true ∧ xs.length ≤ 62 ∧ ∀ H', Same H H' → Q (.bl true) H'
def sp_l_right (A : Ad) : Sp := fun vs H Q _ => ∃ (p a r : Addr) (xs : List V), vs = [.ref p, .ref r] ∧ PartAt A H p a xs ∧ H r = some (.lst xs) ∧ xs.all isIBN = true ∧ xs.length ≤ 60 ∧ ∀ H', Same H H' → Q (.bl true) H'
theorem mk_part {A : Ad} {H : Hp} {r : Addr} {os : List (Option Nat)} {Q : VK} {E : XK} (hr : H r = some (.lst (vos os))) (hM : IsPart os) (hl : os.length ≤ 62)
    (q : ∀ (H' : Hp) (p a : Addr), H p = none → H a = none → Same H H' → PartAt A H' p a (vos os) → Q (.ref p) H') : RD.MKE A.c_Partial (sp_initP A) [] E [.ref r] H Q := by
  intro x dx nx ndx ne
  have s0 : Same H (upd (upd H dx (.own x)) x (.ins A.c_Partial dx [])) := RD.same_mut (RD.same_new ndx) nx
  refine ⟨x, dx, r, vos os, rfl, upd_same, s0 _ _ hr, by rw [vos_len]; exact hl, ibn_vos os, fun hb => absurd hb hM.good, fun _ H' a na ma sx => ⟨rfl, ?_⟩⟩
  exact q H' x a nx (s0.free na) (fun c o h => sx c o (s0 c o h) (ne_of_none h nx)) ma
section
variable {P : Program} {w : World} {K : PySem.W.Frag} {mg : Str → Option Value} {base : Heap} {A : Ad}
theorem ok_l_partial (T : Txt K mg A) : FnOk P w K mg base CX0 3 A.f_l_partial A.d_l_partial ["_law_tape_here", "_law_edges", "_law_open_ways"] (sp_l_partial) := by
  have G_l_nexts := ok_l_nexts (P := P) (w := w) (base := base) T
  have G_l_pick := ok_l_pick (P := P) (w := w) (base := base) T
  refine T.F_l_partial.ok sc_l_partial (fun vs H Q E h => ?_) (fun cdv Ar outer s H vs Q E hr h => ?_)
  · obtain ⟨t, e, k, rfl, _⟩ := h
    rfl
  · obtain ⟨t, e, k, rfl, tp, he, h0, hk, q⟩ := h
    refine ⟨_, (pss_cons (ps_set (i := 3) sc_l_partial.nd rfl (Or.inl rfl) (pe_call G_l_nexts (hr.mono (by decide)) (by rfl) T.g_l_nexts T.F_l_nexts.kp T.b_l_nexts .nil pass0 (pa_cons (pv 0) (pa_cons (pv 1) pa_nil))))
      (pss_cons (ps_for PassesOwn.never rfl (pi_range1 (by rfl) T.z_range (pa_cons (pv 2) pa_nil)) (pg_name (i := 4) sc_l_partial.nd rfl (Or.inl rfl))
      (pss_one (ps_asg pe_non (pg_sub (pv 3) (pe_call G_l_pick (hr.mono (by decide)) (by rfl) T.g_l_pick T.F_l_pick.kp T.b_l_pick .nil pass0 (pa_cons (pv 0) (pa_cons (pe_callB (RD.k_len (K := K) rfl) (by rfl) T.z_len (by decide +kernel) (pa_cons (pv 3) pa_nil)) pa_nil))) set_list))))
      (pss_one (ps_ret (pv 3))))), ?_⟩
    show tSeq _ _ _ [some (.ref t), some (vn e), some (vn k), none, none] H
    walk_at "rd"
    refine ⟨t, e, rfl, tp, he, fun H1 p ns hM hl np tp1 sx1 ep => ?_⟩
    have pt : p ≠ t := fun z => by
      obtain ⟨x, y, hA, _⟩ := tp
      rw [z, hA] at np
      cases np
    rw [← vos_some] at ep
    walk_at "rd"
    refine RD.goR (n := k) (by omega) (by omega) (by omega) (fun i σ H2 => ∃ (os : List (Option Nat)) (o4 : Option V), σ = [some (.ref t), some (vn e), some (vn k), some (.ref p), o4] ∧ IsPart os ∧ os.length = 2 * e ∧ TapeAt H2 t ∧ SameX t H H2 ∧ H2 p = some (.lst (vos os)))
      ⟨ns.map some, none, rfl, IsMesh.part hM, by rw [List.length_map]; exact hl, tp1, sx1, ep⟩ ?_ ?_
    · rintro i σ H2 hi ⟨os, o4, rfl, hp, hlo, tp2, sx2, ep2⟩
      walk_at "rd"
      refine RD.len (sq ep2) ?_
      rw [vos_len]
      walk_at "rd"
      refine ⟨t, _, rfl, tp2, by omega, by omega, fun v H3 hv tp3 sx3 => ?_⟩
      have ep3 := sx3 _ _ ep2 pt
      walk_at "rd"
      refine RD.setL ep3 (by rw [vos_len]; exact ix_n (j := v) (by omega)) ?_
      refine ⟨os.set v none, _, rfl, hp.drop v, by rw [List.length_set]; exact hlo, ?_, (sx2.trans sx3).mut np, ?_⟩
      · obtain ⟨x, y, hA, rr⟩ := tp3
        exact ⟨x, y, by rw [upd_ne pt.symm]; exact hA, rr⟩
      · rw [upd_same]
        unfold vos
        rw [List.map_set]
        rfl
    · rintro σ H2 ⟨os, o4, rfl, hp, hlo, tp2, sx2, ep2⟩
      walk_at "rd"
      exact q H2 p os hp hlo np tp2 sx2 ep2
theorem ok_l_refused (T : Txt K mg A) : FnOk P w K mg base CX0 4 A.f_l_refused A.d_l_refused ["_law_nexts_here"] (sp_l_refused A) := by
  have G_Partial_d_initd_ := ok_Partial_d_initd_ (P := P) (w := w) (base := base) T
  refine T.F_l_refused.ok sc_l_refused (fun vs H Q E h => ?_) (fun cdv Ar outer s H vs Q E hr h => ?_)
  · obtain ⟨r, xs, rfl, _⟩ := h
    rfl
  · obtain ⟨r, xs, rfl, er, hb, hib, hl, q⟩ := h
    refine ⟨_, (pss_cons (ps_try_as (i := 1) (tb := fun W => tDrop (RD.tMakeS A.c_Partial (sp_initP A) (WE W) (tCons (tVar 0) tNil))) (ts := fun a cls d => RD.tWhen (cls = .ref A.c_NotAMesh ∧ d = none) (tRet (tCB (rIsE K A.c_NotAMesh a) (tCons (tVar 1) (tCons (tC (.ref A.c_MeshError)) tNil))))) (Wout := fun _ _ _ _ => False) rfl rfl sc_l_refused.nd rfl rfl ⟨rfl, by decide, Or.inl T.g_NotAMesh⟩ takes0
        (fun W pn xe tk _ => pss_one (ps_expr (by exact (RD.pe_makeS T.mk_Partial G_Partial_d_initd_ (hr.mono (by decide)) rfl T.g_Partial T.b_Partial_d_initd_ (fun σ => passAt tk σ) (by exact (pa_cons (pv 0) pa_nil))))))
        (fun a oe cls d pn hz hf => RD.pss_when fun hcd => by (obtain ⟨rfl, rfl⟩ := hcd; exact (pss_one (ps_ret (pe_callB (RD.k_isE (K := K) rfl T.exc_NotAMesh hz hf) (by rfl) T.z_isinstance (by decide +kernel) (pa_cons (pv 1) (pa_cons (pe_glob (v := .ref A.c_MeshError) rfl T.g_MeshError rfl) pa_nil))))))))
      (pss_one (ps_ret pe_bl))), ?_⟩
    show tSeq _ _ _ [some (.ref r), none] H
    refine RD.seq ?_
    refine RD.drp ?_
    refine ⟨_, rfl, ?_⟩
    intro x dx nx ndx ne
    have s0 : Same H (upd (upd H dx (.own x)) x (.ins A.c_Partial dx [])) := RD.same_mut (RD.same_new ndx) nx
    refine ⟨x, dx, r, xs, rfl, upd_same, s0 _ _ er, hl, hib, fun _ H1 s1 => ?_, fun hn => absurd hb hn⟩
    refine ⟨true, T.te_NotAMesh, fun _ a na => ?_, fun z => Bool.noConfusion z⟩
    refine ⟨⟨rfl, rfl⟩, ?_⟩
    show tRet _ _ [some (.ref r), some (.ref a)] H1
    walk_at "rd"
    refine ⟨_, _, true, rfl, fun u hu => hu, T.ki_NotAMesh_MeshError, ?_⟩
    exact q H1 (fun c o h => s1 c o (s0 c o h))
theorem ok_l_right (T : Txt K mg A) : FnOk P w K mg base CX0 2 A.f_l_right A.d_l_right ["_law_partial_here", "_law_nexts_here"] (sp_l_right A) := by
  have G_l_entries := ok_l_entries (P := P) (w := w) (base := base) T
  have G_l_exits := ok_l_exits (P := P) (w := w) (base := base) T
  have G_Partial_entries := ok_Partial_entries (P := P) (w := w) (base := base) T
  have G_Partial_exits := ok_Partial_exits (P := P) (w := w) (base := base) T
  have G_Partial_nexts := ok_Partial_nexts (P := P) (w := w) (base := base) T
  refine T.F_l_right.ok sc_l_right (fun vs H Q E h => ?_) (fun cdv Ar outer s H vs Q E hr h => ?_)
  · obtain ⟨p, a, r, xs, rfl, _⟩ := h
    rfl
  · obtain ⟨p, a, r, xs, rfl, m, er, hib, hl, q⟩ := h
    refine ⟨_, (pss_cons (ps_set (i := 2) sc_l_right.nd rfl (Or.inl rfl) (pe_lst (pa_cons (pv 1) (pa_cons (pe_call G_l_exits (hr.mono (by decide)) (by rfl) T.g_l_exits T.F_l_exits.kp T.b_l_exits .nil pass0 (pa_cons (pv 1) pa_nil)) (pa_cons (pe_call G_l_entries (hr.mono (by decide)) (by rfl) T.g_l_entries T.F_l_entries.kp T.b_l_entries .nil pass0 (pa_cons (pv 1) pa_nil)) pa_nil)))))
      (pss_cons (ps_set (i := 3) sc_l_right.nd rfl (Or.inl rfl) (pe_lst (pa_cons (pe_meth0 (pv 0) T.cl_Partial T.m_Partial_nexts G_Partial_nexts (hr.mono (by decide)) T.b_Partial_nexts .nil pass0) (pa_cons (pe_meth0 (pv 0) T.cl_Partial T.m_Partial_exits G_Partial_exits (hr.mono (by decide)) T.b_Partial_exits .nil pass0) (pa_cons (pe_meth0 (pv 0) T.cl_Partial T.m_Partial_entries G_Partial_entries (hr.mono (by decide)) T.b_Partial_entries .nil pass0) pa_nil)))))
      (pss_cons (ps_for PassesOwn.never rfl (pi_range1 (by rfl) T.z_range (pa_cons pe_int pa_nil)) (pg_name (i := 4) sc_l_right.nd rfl (Or.inl rfl))
      (pss_cons (ps_if (PW.pt (pw_or (pt_not (pt_val (pe_callB (RD.k_isi (K := K) rfl) (by rfl) T.z_isinstance (by decide +kernel) (pa_cons (pe_ix (RD.k_ixL (K := K) rfl) (pv 3) (pv 4) (fun _ _ => rfl)) (pa_cons (pe_bltn (v := .ty "list") (by rfl) T.z_list (by decide +kernel) rfl) pa_nil))))) (pw_or1 (pt_cmpR (RD.k_neD (K := K) rfl hr.units) (pe_ix (RD.k_ixL (K := K) rfl) (pv 3) (pv 4) (fun _ _ => rfl)) (pe_ix (RD.k_ixL (K := K) rfl) (pv 2) (pv 4) (fun _ _ => rfl)) (nomark _)))))
      (pss_one (ps_ret pe_bl))
      pss_nil)
      (pss_cons (ps_set (i := 5) sc_l_right.nd rfl (Or.inl rfl) (pe_ix (RD.k_ixL (K := K) rfl) (pv 3) (pv 4) (fun _ _ => rfl)))
      (pss_one (ps_expr (RD.k_bm (K := K) rfl PySem.F.plainAttrs_list PySem.F.slot_list_append PySem.F.type_list_append mt_append (pv 5) (pa_cons pe_int pa_nil)))))))
      (pss_one (ps_ret pe_bl))))), ?_⟩
    show tSeq _ _ _ [some (.ref p), some (.ref r), none, none, none, none] H
    walk_at "rd"
    refine ⟨r, xs, rfl, sq er, hib, by omega, fun H1 e1 s1 n1 he1 => ?_⟩
    walk_at "rd"
    refine ⟨r, xs, rfl, sq (s1 _ _ er), hib, by omega, fun H2 e2 s2 n2 he2 => ?_⟩
    walk_at "rd"
    refine ⟨szl (by simp), fun du ndu => ?_⟩
    have s3 := RD.same_new (o := .lst [V.ref r, V.ref e1, V.ref e2]) ndu
    have s123 := (s1.trans s2).trans s3
    obtain ⟨dx, h1⟩ := m.ob
    walk_at "rd"
    refine ⟨p, dx, _, rfl, s123 _ _ h1, pf_no _ (by decide +kernel), ?_⟩
    walk_at "rd"
    refine ⟨p, a, xs, rfl, m.same s123, fun q0 nq0 => ?_⟩
    have s4 := RD.same_new (o := .lst xs) nq0
    walk_at "rd"
    refine ⟨p, dx, _, rfl, s4 _ _ (s123 _ _ h1), pf_no _ (by decide +kernel), ?_⟩
    walk_at "rd"
    refine ⟨p, a, xs, rfl, (m.same s123).same s4, hib, by omega, fun H5 q1 s5 nq1 eq1 => ?_⟩
    walk_at "rd"
    refine ⟨p, dx, _, rfl, s5 _ _ (s4 _ _ (s123 _ _ h1)), pf_no _ (by decide +kernel), ?_⟩
    walk_at "rd"
    refine ⟨p, a, xs, rfl, ((m.same s123).same s4).same s5, hib, by omega, fun H6 q2 s6 nq2 eq2 => ?_⟩
    walk_at "rd"
    refine ⟨szl (by simp), fun tl ntl => ?_⟩
    have s7 := RD.same_new (o := .lst [V.ref q0, V.ref q1, V.ref q2]) ntl
    -- the three pairs of lists
    have er7 : (upd H6 tl (.lst [V.ref q0, V.ref q1, V.ref q2])) r = some (.lst xs) := s7 _ _ (s6 _ _ (s5 _ _ (s4 _ _ (s123 _ _ er))))
    have e17 : (upd H6 tl (.lst [V.ref q0, V.ref q1, V.ref q2])) e1 = some (.lst (vns (exi xs))) := s7 _ _ (s6 _ _ (s5 _ _ (s4 _ _ (s3 _ _ (s2 _ _ he1)))))
    have e27 : (upd H6 tl (.lst [V.ref q0, V.ref q1, V.ref q2])) e2 = some (.lst (vns (ent xs))) := s7 _ _ (s6 _ _ (s5 _ _ (s4 _ _ (s3 _ _ he2))))
    have du7 : (upd H6 tl (.lst [V.ref q0, V.ref q1, V.ref q2])) du = some (.lst [V.ref r, V.ref e1, V.ref e2]) := s7 _ _ (s6 _ _ (s5 _ _ (s4 _ _ upd_same)))
    have q07 : (upd H6 tl (.lst [V.ref q0, V.ref q1, V.ref q2])) q0 = some (.lst xs) := s7 _ _ (s6 _ _ (s5 _ _ upd_same))
    have q17 : (upd H6 tl (.lst [V.ref q0, V.ref q1, V.ref q2])) q1 = some (.lst (vns (exi xs))) := s7 _ _ (s6 _ _ eq1)
    have q27 : (upd H6 tl (.lst [V.ref q0, V.ref q1, V.ref q2])) q2 = some (.lst (vns (ent xs))) := s7 _ _ eq2
    have fq0 : ∀ b o, (upd H2 du (.lst [V.ref r, V.ref e1, V.ref e2])) b = some o → b ≠ q0 := fun b o e => ne_of_none e nq0
    have fq1 : ∀ b o, (upd H2 du (.lst [V.ref r, V.ref e1, V.ref e2])) b = some o → b ≠ q1 := fun b o e => ne_of_none (s4 _ _ e) nq1
    have fq2 : ∀ b o, (upd H2 du (.lst [V.ref r, V.ref e1, V.ref e2])) b = some o → b ≠ q2 := fun b o e => ne_of_none (s5 _ _ (s4 _ _ e)) nq2
    have q01 : q0 ≠ q1 := ne_of_none upd_same nq1
    have q02 : q0 ≠ q2 := ne_of_none (s5 _ _ upd_same) nq2
    have q12 : q1 ≠ q2 := ne_of_none eq1 nq2
    have tq : ∀ x ∈ [q0, q1, q2], x ≠ tl := fun x hx => by
      simp only [List.mem_cons, List.not_mem_nil, or_false] at hx
      rcases hx with rfl | rfl | rfl
      · exact ne_of_none (s6 _ _ (s5 _ _ upd_same)) ntl
      · exact ne_of_none (s6 _ _ eq1) ntl
      · exact ne_of_none eq2 ntl
    have out : ∀ b o, (upd H2 du (.lst [V.ref r, V.ref e1, V.ref e2])) b = some o → ∀ x ∈ [q0, q1, q2], b ≠ x := fun b o e x hx => by
      simp only [List.mem_cons, List.not_mem_nil, or_false] at hx
      rcases hx with rfl | rfl | rfl
      · exact fq0 b o e
      · exact fq1 b o e
      · exact fq2 b o e
    have fr : ∀ x ∈ [q0, q1, q2], H x = none := fun x hx => by
      cases e : H x with
      | none => rfl
      | some o => exact absurd rfl (out x o (s123 _ _ e) x hx)
    have ndq : [q0, q1, q2].Nodup := by simp [q01, q02, q12]
    have dd : ∀ x ∈ [r, e1, e2], ∀ y ∈ [q0, q1, q2], x ≠ y := fun x hx y hy => by
      simp only [List.mem_cons, List.not_mem_nil, or_false] at hx
      rcases hx with rfl | rfl | rfl
      · exact out _ _ (s123 _ _ er) y hy
      · exact out _ _ (s3 _ _ (s2 _ _ he1)) y hy
      · exact out _ _ (s3 _ _ he2) y hy
    have dq : ∀ y ∈ [q0, q1, q2], du ≠ y := fun y hy => out _ _ upd_same y hy
    have s07 : Same H (upd H6 tl (.lst [V.ref q0, V.ref q1, V.ref q2])) := (((s123.trans s4).trans s5).trans s6).trans s7
    have hXl : ∀ X ∈ [xs, vns (exi xs), vns (ent xs)], X.all isIBN = true ∧ X.length ≤ 60 := fun X hX => by
      simp only [List.mem_cons, List.not_mem_nil, or_false] at hX
      rcases hX with rfl | rfl | rfl
      · exact ⟨hib, hl⟩
      · refine ⟨vns_ibn _, ?_⟩
        rw [vns_len]
        have : (exi xs).length ≤ (List.range xs.length).length := List.length_filter_le _ _
        rw [List.length_range] at this
        omega
      · refine ⟨vns_ibn _, ?_⟩
        rw [vns_len]
        have : (ent xs).length ≤ (List.range xs.length).length := List.length_filter_le _ _
        rw [List.length_range] at this
        omega
    generalize hql : [q0, q1, q2] = ql at *
    walk_at "rd"
    refine RD.goR (n := 3) (by decide) (by decide) (by decide) (fun i σ H8 => ∃ (o4 o5 : Option V), σ = [some (.ref p), some (.ref r), some (.ref du), some (.ref tl), o4, o5] ∧ Same H H8 ∧ H8 tl = some (.lst (ql.map V.ref)) ∧ H8 du = some (.lst ([r, e1, e2].map V.ref)) ∧
        (∀ (j : Nat) d X, [r, e1, e2][j]? = some d → [xs, vns (exi xs), vns (ent xs)][j]? = some X → H8 d = some (.lst X)) ∧ (∀ (j : Nat) d X, i ≤ j → ql[j]? = some d → [xs, vns (exi xs), vns (ent xs)][j]? = some X → H8 d = some (.lst X)))
      ⟨none, none, rfl, s07, by rw [← hql]; exact upd_same, du7, fun j d X hd hX => ?_, fun j d X _ hd hX => ?_⟩ ?_ ?_
    · match j, hd, hX with
      | 0, hd, hX => cases hd; cases hX; exact er7
      | 1, hd, hX => cases hd; cases hX; exact e17
      | 2, hd, hX => cases hd; cases hX; exact e27
      | j + 3, hd, hX => simp at hd
    · rw [← hql] at hd
      match j, hd, hX with
      | 0, hd, hX => cases hd; cases hX; exact q07
      | 1, hd, hX => cases hd; cases hX; exact q17
      | 2, hd, hX => cases hd; cases hX; exact q27
      | j + 3, hd, hX => simp at hd
    · rintro i σ H8 hi ⟨o4, o5, rfl, s8, et, ed, hd, hq⟩
      have hlq : ql.length = 3 := by rw [← hql]; rfl
      have gq := List.getElem?_eq_getElem (show i < ql.length by omega)
      have gd := List.getElem?_eq_getElem (show i < [r, e1, e2].length from hi)
      have gX := List.getElem?_eq_getElem (show i < [xs, vns (exi xs), vns (ent xs)].length from hi)
      generalize ql[i]'(by omega) = qi at gq
      generalize [r, e1, e2][i]'hi = di at gd
      generalize [xs, vns (exi xs), vns (ent xs)][i]'hi = Xi at gX
      have hqi := hq i qi Xi (Nat.le_refl _) gq gX
      have hdi := hd i di Xi gd gX
      obtain ⟨hXb, hXn⟩ := hXl Xi (List.mem_of_getElem? gX)
      have aq : atI (ql.map V.ref) ((i : Nat) : Int) = some (.ref qi) := at_n (by rw [List.getElem?_map, gq]; rfl)
      have ad : atI ([r, e1, e2].map V.ref) ((i : Nat) : Int) = some (.ref di) := at_n (by rw [List.getElem?_map, gd]; rfl)
      have mq : qi ∈ ql := List.mem_of_getElem? gq
      walk_at "rd"
      refine RD.ixL (sq et) aq ?_
      walk_at "rd"
      refine RD.isi (.ty "list") (.base (.lst hqi)) (kit_ty (r := true) (by decide +kernel)) ?_
      walk_at "rn"
      refine RD.ixL (sq et) aq ?_
      walk_at "rd"
      refine RD.ixL (sq ed) ad ?_
      refine RD.neD (dp_X (sq hqi) hXb) (dp_X (sq hdi) hXb) (sh_dX _) (sh_dX _) ?_
      rw [eqv_dX]
      walk_at "rn"
      refine RD.ixL (sq et) aq ?_
      walk_at "rd"
      refine ⟨RD.tyL (sq hqi), ?_⟩
      walk_at "rd"
      refine RD.app hqi (szt (by omega)) ?_
      refine ⟨_, _, rfl, RD.same_mut s8 (fr qi mq), ?_, ?_, fun j d X h1 h2 => ?_, fun j d X hj h1 h2 => ?_⟩
      · rw [upd_ne (tq qi mq).symm]; exact et
      · rw [upd_ne (dq qi mq)]; exact ed
      · rw [upd_ne (dd d (List.mem_of_getElem? h1) qi mq)]; exact hd j d X h1 h2
      · have hne : d ≠ qi := fun z => by
          subst z
          have := (List.getElem?_inj (show j < ql.length from (List.getElem?_eq_some_iff.mp h1).1) ndq).mp (h1.trans gq.symm)
          omega
        rw [upd_ne hne]
        exact hq j d X (by omega) h1 h2
    · rintro σ H8 ⟨o4, o5, rfl, s8, _⟩
      walk_at "rd"
      exact q H8 s8
end
end Pf

namespace Pf
open PySem PySem.Spec PyProof.Rows L2
def sp_law (K : PySem.W.Frag) : Sp := fun vs H Q _ => ∃ (a : Addr) (ns : List Int), vs = [.ref a] ∧ SqL K H a (ns.map V.int) ∧ ns.length ≤ 63 ∧ ∀ H', Q (.bl true) H'
end Pf

namespace Pf
open PySem PySem.Spec PyProof.Rows L2 MM
theorem kn_app (l m : List V) : kn (l ++ m) = kn l ++ kn m := List.filter_append _ _
theorem knI_app (l m : List V) : knI (l ++ m) = knI l ++ knI m := by
  unfold knI
  rw [kn_app, List.map_append]
theorem knI_one (z : Int) : knI [.int z] = [z] := rfl
theorem mem_knI {xs : List V} {z : Int} (h : V.int z ∈ xs) : z ∈ knI xs := List.mem_map.mpr ⟨.int z, List.mem_filter.mpr ⟨h, rfl⟩, rfl⟩
theorem bad_oddP {xs : List V} (h : xs.length % 2 = 1) : BadP xs := ⟨.inl h⟩
theorem bad_outP {xs : List V} {z : Int} (hz : V.int z ∈ xs) (h : z < 0 ∨ (xs.length : Int) ≤ z) : BadP xs := ⟨.inr (.inr fun f => by
  have := f.2 z (mem_knI hz)
  omega)⟩
theorem bad_twiceP {l m : List V} {z : Int} (h : V.int z ∈ l ∨ V.int z ∈ m) : BadP (l ++ [.int z] ++ m) := ⟨.inr (.inr fun f => by
  have nd := f.1
  rw [knI_app, knI_app, knI_one] at nd
  rcases h with h | h
  · have := (List.nodup_append.mp (List.nodup_append.mp nd).1).2.2 z (mem_knI h) z (List.mem_singleton.mpr rfl)
    exact this rfl
  · have := (List.nodup_append.mp nd).2.2 z (List.mem_append_right _ (List.mem_singleton.mpr rfl)) z (mem_knI h)
    exact this rfl)⟩
theorem ibn_app {l m : List V} (h1 : l.all isIBN = true) (h2 : m.all isIBN = true) : (l ++ m).all isIBN = true := by rw [List.all_append, h1, h2]; rfl
theorem ibn_take {l : List V} (k : Nat) (h : l.all isIBN = true) : (l.take k).all isIBN = true := List.all_eq_true.mpr fun x hx => List.all_eq_true.mp h x (List.mem_of_mem_take hx)
theorem ibn_drop {l : List V} (k : Nat) (h : l.all isIBN = true) : (l.drop k).all isIBN = true := List.all_eq_true.mpr fun x hx => List.all_eq_true.mp h x (List.mem_of_mem_drop hx)
def boolishN (v : V) : V := if v = .non then v else if toI v > 1 then v else .bl (decide (toI v = 1))
def sp_l_spoilt (K : PySem.W.Frag) : Sp := fun vs H Q _ => ∃ (t r : Addr) (os : List (Option Nat)) (c : Nat), vs = [.ref t, .ref r, vn c] ∧ H r = some (.lst (vos os)) ∧ r ≠ t ∧ TapeAt H t ∧ os.length % 2 = 0 ∧ 2 ≤ os.length ∧ os.length ≤ 60 ∧ c < 6 ∧
  ∀ (H' : Hp) (q : Addr) (xs : List V), H' q = some (.lst xs) → BadP xs → xs.all isIBN = true → xs.length ≤ 62 → Q (.ref q) H'
section
variable {P : Program} {w : World} {K : PySem.W.Frag} {mg : Str → Option Value} {base : Heap} {A : Ad}
theorem ok_l_spoilt (T : Txt K mg A) : FnOk P w K mg base CX0 2 A.f_l_spoilt A.d_l_spoilt ["_law_tape_here", "_law_nexts_here", "_law_choice"] (sp_l_spoilt K) := by
  have G_l_pick := ok_l_pick (P := P) (w := w) (base := base) T
  refine T.F_l_spoilt.ok sc_l_spoilt (fun vs H Q E h => ?_) (fun cdv Ar outer s H vs Q E hr h => ?_)
  · obtain ⟨t, r, os, c, rfl, _⟩ := h
    rfl
  · obtain ⟨t, r, os, c, rfl, er, rt, tp, hev, h2, hl, hc, q⟩ := h
    refine ⟨_, (pss_cons (ps_set (i := 3) sc_l_spoilt.nd rfl (Or.inl rfl) (pe_call G_l_pick (hr.mono (by decide)) (by rfl) T.g_l_pick T.F_l_pick.kp T.b_l_pick .nil pass0 (pa_cons (pv 0) (pa_cons (pe_callB (RD.k_len (K := K) rfl) (by rfl) T.z_len (by decide +kernel) (pa_cons (pv 1) pa_nil)) pa_nil))))
      (pss_cons (ps_set (i := 4) sc_l_spoilt.nd rfl (Or.inl rfl) (pe_op op_mod (pe_callTy RD.k_int (by rfl) T.z_int (by decide +kernel) (pa_cons (pe_op op_add (pe_op op_add (pv 3) pe_int) (pe_call G_l_pick (hr.mono (by decide)) (by rfl) T.g_l_pick T.F_l_pick.kp T.b_l_pick .nil pass0 (pa_cons (pv 0) (pa_cons (pe_op op_sub (pe_callB (RD.k_len (K := K) rfl) (by rfl) T.z_len (by decide +kernel) (pa_cons (pv 1) pa_nil)) pe_int) pa_nil)))) pa_nil)) (pe_callB (RD.k_len (K := K) rfl) (by rfl) T.z_len (by decide +kernel) (pa_cons (pv 1) pa_nil))))
      (pss_cons (ps_set (i := 5) sc_l_spoilt.nd rfl (Or.inl rfl) (pe_call G_l_pick (hr.mono (by decide)) (by rfl) T.g_l_pick T.F_l_pick.kp T.b_l_pick .nil pass0 (pa_cons (pv 0) (pa_cons (pe_callB (RD.k_len (K := K) rfl) (by rfl) T.z_len (by decide +kernel) (pa_cons (pv 1) pa_nil)) pa_nil))))
      (pss_cons (ps_set (i := 6) sc_l_spoilt.nd rfl (Or.inl rfl) (pe_ix (RD.k_ixL (K := K) rfl) (pe_lst (pa_cons pe_int (pa_cons pe_int (pa_cons pe_int (pa_cons pe_int (pa_cons (pe_op op_pow pe_int pe_int) pa_nil)))))) (pe_call G_l_pick (hr.mono (by decide)) (by rfl) T.g_l_pick T.F_l_pick.kp T.b_l_pick .nil pass0 (pa_cons (pv 0) (pa_cons pe_int pa_nil))) (fun _ _ => rfl)))
      (pss_cons (ps_if (pt_cmpR op_eq (pv 2) pe_int (nomark _))
      (pss_one (ps_ret (pe_op op_cat (pe_slice (RD.k_slL (K := K) rfl) (pv 1) po_none (po_some (pv 3))) (pe_slice (RD.k_slL (K := K) rfl) (pv 1) (po_some (pe_op op_add (pv 3) pe_int)) po_none))))
      pss_nil)
      (pss_cons (ps_if (pt_cmpR op_eq (pv 2) pe_int (nomark _))
      (pss_one (ps_ret (pe_op op_cat (pe_op op_cat (pe_slice (RD.k_slL (K := K) rfl) (pv 1) po_none (po_some (pv 3))) (pe_lst (pa_cons pe_non pa_nil))) (pe_slice (RD.k_slL (K := K) rfl) (pv 1) (po_some (pv 3)) po_none))))
      pss_nil)
      (pss_cons (ps_if (pt_cmpR op_eq (pv 2) pe_int (nomark _))
      (pss_one (ps_ret (pe_op op_cat (pe_op op_cat (pe_slice (RD.k_slL (K := K) rfl) (pv 1) po_none (po_some (pv 3))) (pe_lst (pa_cons (pe_op op_sub (pe_un un_neg pe_int) (pv 6)) pa_nil))) (pe_slice (RD.k_slL (K := K) rfl) (pv 1) (po_some (pe_op op_add (pv 3) pe_int)) po_none))))
      pss_nil)
      (pss_cons (ps_if (pt_cmpR op_eq (pv 2) pe_int (nomark _))
      (pss_one (ps_ret (pe_op op_cat (pe_op op_cat (pe_slice (RD.k_slL (K := K) rfl) (pv 1) po_none (po_some (pv 3))) (pe_lst (pa_cons (pe_op op_add (pe_callB (RD.k_len (K := K) rfl) (by rfl) T.z_len (by decide +kernel) (pa_cons (pv 1) pa_nil)) (pv 6)) pa_nil))) (pe_slice (RD.k_slL (K := K) rfl) (pv 1) (po_some (pe_op op_add (pv 3) pe_int)) po_none))))
      pss_nil)
      (pss_cons (ps_set (i := 7) sc_l_spoilt.nd rfl (Or.inl rfl) (pe_op op_cat (pe_op op_cat (pe_slice (RD.k_slL (K := K) rfl) (pv 1) po_none (po_some (pv 3))) (pe_lst (pa_cons (pv 5) pa_nil))) (pe_slice (RD.k_slL (K := K) rfl) (pv 1) (po_some (pe_op op_add (pv 3) pe_int)) po_none)))
      (pss_cons (ps_if (pt_cmpR op_eq (pv 2) pe_int (nomark _))
      (pss_one (ps_ret (pe_lc (own := [("_law_half", 8)]) (g := gName 8) (by rfl) sc_l_spoilt.nd (RD.k_pil (K := K) rfl (pe_op op_cat (pe_lst (pa_cons pe_int (pa_cons pe_int pa_nil))) (pe_lc (own := [("_law_half", 8)]) (g := gName 8) (by rfl) sc_l_spoilt.nd (RD.k_pil (K := K) rfl (pv 1)) (blkOk_by (own := [("_law_half", 8)]) (N := ["_law_tape_here", "_law_nexts_here", "_law_choice", "_law_place", "_law_other", "_law_known", "_law_far", "_law_twice", "_law_half"]) (sc := defScope s_l_spoilt) (by decide +kernel)) (fun _ _ _ _ _ => (pg_name (i := 8) sc_l_spoilt.nd rfl (Or.inl rfl))) (fun _ _ _ _ _ => pts_nil) (fun _ _ _ _ _ => pe_non)))) (blkOk_by (own := [("_law_half", 8)]) (N := ["_law_tape_here", "_law_nexts_here", "_law_choice", "_law_place", "_law_other", "_law_known", "_law_far", "_law_twice", "_law_half"]) (sc := defScope s_l_spoilt) (by decide +kernel)) (fun _ _ _ _ _ => (pg_name (i := 8) sc_l_spoilt.nd rfl (Or.inl rfl))) (fun _ _ _ _ _ => pts_nil) (fun _ _ _ _ _ => (pe_ifExp (PW.pt (pw_or (pt_cmpR op_isN (pv 8) pe_non (nomark _)) (pw_or1 (pt_cmpR op_gt (pv 8) pe_int (nomark _))))) (pv 8) (pe_cmpR op_eq (pv 8) pe_int (nomark _)))))))
      pss_nil)
      (pss_one (ps_ret (pe_op op_cat (pe_op op_cat (pe_slice (RD.k_slL (K := K) rfl) (pv 7) po_none (po_some (pv 4))) (pe_lst (pa_cons (pv 5) pa_nil))) (pe_slice (RD.k_slL (K := K) rfl) (pv 7) (po_some (pe_op op_add (pv 4) pe_int)) po_none)))))))))))))), ?_⟩
    show tSeq _ _ _ [some (.ref t), some (.ref r), some (vn c), none, none, none, none, none, none] H
    walk_at "rd"
    refine RD.len (sq er) ?_
    rw [vos_len]
    walk_at "rd"
    refine ⟨t, _, rfl, tp, by omega, by omega, fun pl H1 hpl tp1 sx1 => ?_⟩
    have er1 := sx1 _ _ er rt
    walk_at "rd"
    refine RD.len (sq er1) ?_
    rw [vos_len]
    walk_at "rd"
    refine ⟨t, _, rfl, tp1, by omega, by omega, fun d H2 hd tp2 sx2 => ?_⟩
    have er2 := sx2 _ _ er1 rt
    walk_at "rd"
    refine RD.len (sq er2) ?_
    rw [vos_len]
    refine RD.iC (show (0 : Int) < (os.length : Int) by omega) ?_
    have eo : (((pl : Int) + 1 + (d : Int)) % ((os.length : Nat) : Int)) = (((pl + 1 + d) % os.length : Nat) : Int) := by
      rw [Int.natCast_emod]
      rfl
    rw [eo]
    have hol := Nat.mod_lt (pl + 1 + d) (show 0 < os.length by omega)
    have hne : pl ≠ (pl + 1 + d) % os.length := by
      by_cases hb : pl + 1 + d < os.length
      · rw [Nat.mod_eq_of_lt hb]; omega
      · have e1 : (pl + 1 + d) % os.length = pl + 1 + d - os.length := by
          rw [Nat.mod_eq_sub_mod (by omega), Nat.mod_eq_of_lt (by omega)]
        rw [e1]
        omega
    generalize (pl + 1 + d) % os.length = ot at hol hne
    walk_at "rd"
    refine RD.len (sq er2) ?_
    rw [vos_len]
    walk_at "rd"
    refine ⟨t, _, rfl, tp2, by omega, by omega, fun kk H3 hk tp3 sx3 => ?_⟩
    have er3 := sx3 _ _ er2 rt
    walk_at "rd"
    refine RD.iC ⟨by decide, by decide, by decide⟩ ?_
    walk_at "rd"
    refine ⟨szl (by simp), fun fl nfl => ?_⟩
    have s4 := RD.same_new (o := .lst [V.int 0, V.int 0, V.int 1, V.int 2, V.int (10 ^ (20 : Int).toNat)]) nfl
    walk_at "rd"
    refine ⟨t, 5, rfl, tp3.same s4, by decide, by decide, fun fi H5 hfi tp5 sx5 => ?_⟩
    have er5 := sx5 _ _ (s4 _ _ er3) rt
    have flt : fl ≠ t := fun z => by
      obtain ⟨x, y, hA, _⟩ := tp3
      rw [z, hA] at nfl
      cases nfl
    have efl := sx5 _ _ upd_same flt
    obtain ⟨far, hfar, ef⟩ : ∃ z : Int, 0 ≤ z ∧ ([V.int 0, V.int 0, V.int 1, V.int 2, V.int (10 ^ (20 : Int).toNat)] : List V)[fi]? = some (.int z) := by
      have h5 : fi = 0 ∨ fi = 1 ∨ fi = 2 ∨ fi = 3 ∨ fi = 4 := by omega
      rcases h5 with h5 | h5 | h5 | h5 | h5 <;> rw [h5]
      · exact ⟨0, by decide, rfl⟩
      · exact ⟨0, by decide, rfl⟩
      · exact ⟨1, by decide, rfl⟩
      · exact ⟨2, by decide, rfl⟩
      · exact ⟨10 ^ (20 : Int).toNat, by decide, rfl⟩
    refine RD.ixL (sq efl) (at_n ef) ?_
    have hvl : (vos os).length ≤ 1000 := by rw [vos_len]; omega
    have hib := ibn_vos os
    have lens : ∀ (v : V) (j : Nat), pl ≤ j → ((vos os).take pl ++ [v] ++ (vos os).drop j).length ≤ 62 := fun v j hj => by
      simp only [List.length_append, List.length_take, List.length_drop, List.length_cons, List.length_nil, vos_len]
      omega
    have len1 : ∀ v : V, ((vos os).take pl ++ [v] ++ (vos os).drop (pl + 1)).length = os.length := fun v => by
      simp only [List.length_append, List.length_take, List.length_drop, List.length_cons, List.length_nil, vos_len]
      omega
    have ib3 : ∀ (z : Int) (j : Nat), ((vos os).take pl ++ [V.int z] ++ (vos os).drop j).all isIBN = true := fun z j => ibn_app (ibn_app (ibn_take _ hib) rfl) (ibn_drop _ hib)
    walk_at "rd"
    refine RD.dec (fun e => ?_) (fun e0 => ?_)
    · refine RD.ret ?_
      refine cut2 rfl (sq er5) hvl (gives_var rfl) (gives_next rfl) fun H' p s' np ep => q H' p _ ep (bad_oddP ?_) (ibn_app (ibn_take _ hib) (ibn_drop _ hib)) ?_
      · simp only [List.length_append, List.length_take, List.length_drop, vos_len]
        omega
      · simp only [List.length_append, List.length_take, List.length_drop, vos_len]
        omega
    walk_at "rd"
    refine RD.dec (fun e => ?_) (fun e1 => ?_)
    · refine RD.ret ?_
      refine cut3 (v := .non) rfl (sq er5) hvl (gives_var rfl) (gives_var rfl) (fun H1 Q' s1 k => ?_) fun H' p s' np ep => q H' p _ ep (bad_oddP ?_) (ibn_app (ibn_app (ibn_take _ hib) rfl) (ibn_drop _ hib)) (lens _ _ (Nat.le_refl _))
      · walk_at "rd"
        exact k _ (Same.refl _)
      · simp only [List.length_append, List.length_take, List.length_drop, List.length_cons, List.length_nil, vos_len]
        omega
    walk_at "rd"
    refine RD.dec (fun e => ?_) (fun e2 => ?_)
    · refine RD.ret ?_
      refine cut3 (v := .int (-1 - far)) rfl (sq er5) hvl (gives_var rfl) (gives_next rfl) (fun H1 Q' s1 k => ?_) fun H' p s' np ep => q H' p _ ep (bad_outP (z := -1 - far) (by simp) (.inl (by omega))) (ib3 _ _) (lens _ _ (Nat.le_succ _))
      walk_at "rd"
      exact k _ (Same.refl _)
    walk_at "rd"
    refine RD.dec (fun e => ?_) (fun e3 => ?_)
    · refine RD.ret ?_
      refine cut3 (v := .int ((os.length : Int) + far)) rfl (sq er5) hvl (gives_var rfl) (gives_next rfl) (fun H1 Q' s1 k => ?_) fun H' p s' np ep => q H' p _ ep (bad_outP (z := (os.length : Int) + far) (by simp) (.inr (by rw [len1]; omega))) (ib3 _ _) (lens _ _ (Nat.le_succ _))
      walk_at "rd"
      refine RD.len (s1.seq (sq er5)) ?_
      rw [vos_len]
      walk_at "rd"
      exact k _ (Same.refl _)
    refine RD.nxt ?_
    refine RD.seq ?_
    refine RD.asg ?_
    refine cut3 (v := vn kk) rfl (sq er5) hvl (gives_var rfl) (gives_next rfl) (fun H1 Q' s1 k => ?_) fun H6 p6 s6 np6 ep6 => ?_
    · walk_at "rd"
      exact k _ (Same.refl _)
    have er6 := s6 _ _ er5
    walk_at "rd"
    refine RD.dec (fun e => ?_) (fun e4 => ?_)
    · walk_at "rd"
      refine ⟨szl (by simp), fun l1 nl1 => ?_⟩
      have s7 := RD.same_new (o := .lst [V.int 1, V.int 0]) nl1
      walk_at "rd"
      refine RD.lcL (sq (s7 _ _ er6)) (by rw [vos_len]; exact szl (by omega)) (fun _ => true) (fun _ => .non) (fun i x H1 Q' R' hx s1 kT kF => ?_) (fun H8 l2 nl2 s8 el2 => ?_)
      · walk_at "wp"
        walk_at "rd"
        refine ⟨rfl, ?_⟩
        walk_at "rd"
        exact kT rfl _ (Same.refl _)
      rw [RD.pick_all (fun _ => rfl)] at el2
      refine RD.cat (s8 _ _ upd_same) el2 (by rw [List.length_map, vos_len]; exact szl (by simp; omega)) fun l3 nl3 => ?_
      refine RD.lcL (sq upd_same) (by rw [List.length_append, List.length_map, vos_len]; exact szl (by simp; omega)) (fun _ => true) boolishN (fun i x H1 Q' R' hx s1 kT kF => ?_) (fun H9 l4 nl4 s9 el4 => ?_)
      · have kT' := kT rfl
        unfold boolishN at kT'
        have hxx : x = .non ∨ ∃ z, x = .int z := by
          have hm := List.mem_of_getElem? hx
          rcases List.mem_append.mp hm with hm | hm
          · simp only [List.mem_cons, List.not_mem_nil, or_false] at hm
            rcases hm with rfl | rfl
            · exact .inr ⟨_, rfl⟩
            · exact .inr ⟨_, rfl⟩
          · obtain ⟨_, _, rfl⟩ := List.mem_map.mp hm
            exact .inl rfl
        walk_at "wp"
        walk_at "rd"
        refine ⟨rfl, ?_⟩
        walk_at "rd"
        refine ⟨rfl, ?_⟩
        rcases hxx with rfl | ⟨z, rfl⟩
        · walk_at "rd"
          refine RD.decT rfl ?_
          walk_at "rd"
          exact kT' _ (Same.refl _)
        · rw [if_neg (by intro z; cases z)] at kT'
          walk_at "rd"
          refine RD.decF (by intro z; cases z) ?_
          walk_at "rd"
          refine RD.dec (fun e => ?_) (fun e => ?_)
          · walk_at "rd"
            rw [if_pos (show toI (V.int z) > 1 from e)] at kT'
            exact kT' _ (Same.refl _)
          · walk_at "rd"
            rw [if_neg (show ¬ toI (V.int z) > 1 from e)] at kT'
            exact kT' _ (Same.refl _)
      rw [RD.pick_all (fun _ => rfl), List.map_append] at el4
      refine q H9 l4 _ el4 ⟨.inr (.inl ?_)⟩ ?_ ?_
      · rw [← Bool.not_eq_true, List.all_eq_true]
        intro hall
        have := hall (.bl true) (List.mem_filter.mpr ⟨List.mem_append_left _ (by decide), rfl⟩)
        cases this
      · refine ibn_app (by decide) ?_
        rw [List.all_eq_true]
        intro x hx
        obtain ⟨y, hy, rfl⟩ := List.mem_map.mp hx
        obtain ⟨_, _, rfl⟩ := List.mem_map.mp hy
        rfl
      · rw [List.length_append, List.length_map, List.length_map, List.length_map, vos_len]
        show 2 + os.length ≤ 62
        omega
    refine RD.nxt ?_
    refine RD.ret ?_
    refine cut3 (v := vn kk) rfl (sq ep6) (by rw [len1]; omega) (gives_var rfl) (gives_next rfl) (fun H1 Q' s1 k => ?_) fun H7 p7 s7 np7 ep7 => ?_
    · walk_at "rd"
      exact k _ (Same.refl _)
    have hT : ((vos os).take pl ++ [vn kk] ++ (vos os).drop (pl + 1))[pl]? = some (vn kk) := by
      rw [put_set (by rw [vos_len]; omega), List.getElem?_set_self (by rw [vos_len]; omega)]
    have hTl := len1 (vn kk)
    have hTb := ib3 (kk : Int) (pl + 1)
    generalize (vos os).take pl ++ [vn kk] ++ (vos os).drop (pl + 1) = tw' at hT hTl hTb ep7
    refine q H7 p7 _ ep7 (bad_twiceP ?_) (ibn_app (ibn_app (ibn_take _ hTb) rfl) (ibn_drop _ hTb)) ?_
    · rcases Nat.lt_or_ge pl ot with h | h
      · left
        refine List.mem_of_getElem? (i := pl) ?_
        rw [List.getElem?_take_of_lt h]
        exact hT
      · right
        refine List.mem_of_getElem? (i := pl - (ot + 1)) ?_
        rw [List.getElem?_drop, show ot + 1 + (pl - (ot + 1)) = pl by omega]
        exact hT
    · simp only [List.length_append, List.length_take, List.length_drop, List.length_cons, List.length_nil]
      omega
theorem ok_law (T : Txt K mg A) : FnOk P w K mg base CX0 5 A.f_law A.d_law ["_law_script"] (sp_law K) := by
  have G_l_tape := ok_l_tape (P := P) (w := w) (base := base) T
  have G_l_pick := ok_l_pick (P := P) (w := w) (base := base) T
  have G_l_nexts := ok_l_nexts (P := P) (w := w) (base := base) T
  have G_l_partial := ok_l_partial (P := P) (w := w) (base := base) T
  have G_Partial_d_initd_ := ok_Partial_d_initd_ (P := P) (w := w) (base := base) T
  have G_l_right := ok_l_right (P := P) (w := w) (base := base) T
  have G_Partial_exits := ok_Partial_exits (P := P) (w := w) (base := base) T
  have G_Partial_entries := ok_Partial_entries (P := P) (w := w) (base := base) T
  have G_l_refused := ok_l_refused (P := P) (w := w) (base := base) T
  have G_l_spoilt := ok_l_spoilt (P := P) (w := w) (base := base) T
  refine T.F_law.ok sc_law (fun vs H Q E h => ?_) (fun cdv Ar outer s H vs Q E hr h => ?_)
  · obtain ⟨a, ns, rfl, _⟩ := h
    rfl
  · obtain ⟨a, zs, rfl, hS, hlen, q⟩ := h
    refine ⟨_, (pss_cons (ps_set (i := 1) sc_law.nd rfl (Or.inl rfl) (pe_call G_l_tape (hr.mono (by decide)) (by rfl) T.g_l_tape T.F_l_tape.kp T.b_l_tape .nil pass0 (pa_cons (pv 0) (pa_cons pe_int pa_nil))))
      (pss_cons (ps_set (i := 2) sc_law.nd rfl (Or.inl rfl) (pe_call G_l_pick (hr.mono (by decide)) (by rfl) T.g_l_pick T.F_l_pick.kp T.b_l_pick .nil pass0 (pa_cons (pv 1) (pa_cons pe_int pa_nil))))
      (pss_cons (ps_set (i := 3) sc_law.nd rfl (Or.inl rfl) (pe_call G_l_pick (hr.mono (by decide)) (by rfl) T.g_l_pick T.F_l_pick.kp T.b_l_pick .nil pass0 (pa_cons (pv 1) (pa_cons pe_int pa_nil))))
      (pss_cons (ps_set (i := 4) sc_law.nd rfl (Or.inl rfl) (pe_call G_l_pick (hr.mono (by decide)) (by rfl) T.g_l_pick T.F_l_pick.kp T.b_l_pick .nil pass0 (pa_cons (pv 1) (pa_cons (pe_op op_add (pe_op op_mul pe_int (pv 3)) pe_int) pa_nil))))
      (RD.pss_cut (ps_if (pt_cmpR op_lt (pv 2) pe_int (nomark _))
      (pss_one (ps_set (i := 3) sc_law.nd rfl (Or.inl rfl) (pe_callB (RD.k_max2 rfl) (by rfl) T.z_max (by decide +kernel) (pa_cons pe_int (pa_cons (pv 3) pa_nil)))))
      pss_nil)
      (pss_cons (ps_set (i := 5) sc_law.nd rfl (Or.inl rfl) (pe_call G_l_nexts (hr.mono (by decide)) (by rfl) T.g_l_nexts T.F_l_nexts.kp T.b_l_nexts .nil pass0 (pa_cons (pe_call G_l_tape (hr.mono (by decide)) (by rfl) T.g_l_tape T.F_l_tape.kp T.b_l_tape .nil pass0 (pa_cons (pv 0) (pa_cons pe_int pa_nil))) (pa_cons (pv 3) pa_nil))))
      (RD.pss_cut (ps_if (pt_cmpR op_gt (pv 3) pe_int (nomark _))
      (pss_one (ps_set (i := 5) sc_law.nd rfl (Or.inl rfl) (pe_call G_l_partial (hr.mono (by decide)) (by rfl) T.g_l_partial T.F_l_partial.kp T.b_l_partial .nil pass0 (pa_cons (pe_call G_l_tape (hr.mono (by decide)) (by rfl) T.g_l_tape T.F_l_tape.kp T.b_l_tape .nil pass0 (pa_cons (pv 0) (pa_cons pe_int pa_nil))) (pa_cons (pv 3) (pa_cons (pv 4) pa_nil))))))
      pss_nil)
      (pss_cons (ps_setLc (i := 6) (own := [("_law_half", 8)]) (g := gName 8) (by rfl) sc_law.nd rfl rfl (sw_true rfl rfl rfl (by decide +kernel)) (RD.k_pil (K := K) rfl (pv 5)) (blkOk_by (own := [("_law_half", 8)]) (N := ["_law_script", "_law_tape_here", "_law_choice", "_law_edges", "_law_ways", "_law_nexts_here", "_law_passed", "_law_partial_here", "_law_half"]) (sc := defScope s_law) (by decide +kernel)) (fun _ _ _ _ _ => (pg_name (i := 8) sc_law.nd rfl (Or.inl rfl))) (fun _ _ _ _ _ => pts_nil) (fun _ _ _ _ _ => (pv 8)))
      (pss_cons (ps_set (i := 7) sc_law.nd rfl (Or.inl rfl) (pe_make T.mk_Partial G_Partial_d_initd_ (hr.mono (by decide)) (by rfl) T.g_Partial T.b_Partial_d_initd_ .nil passL (pa_cons (pv 6) pa_nil)))
      (pss_cons (ps_if (pt_not (pt_val (pe_call G_l_right (hr.mono (by decide)) (by rfl) T.g_l_right T.F_l_right.kp T.b_l_right .nil pass0 (pa_cons (pv 7) (pa_cons (pv 5) pa_nil)))))
      (pss_one (ps_ret pe_bl))
      pss_nil)
      (pss_cons (ps_expr (RD.k_bm (K := K) rfl PySem.F.plainAttrs_list PySem.F.slot_list_append PySem.F.type_list_append mt_append (pv 6) (pa_cons pe_int pa_nil)))
      (RD.pss_cut (ps_if (pt_cmpR op_gt (pv 3) pe_int (nomark _))
      (pss_one (ps_asg pe_int (pg_sub (pv 6) pe_int set_list)))
      pss_nil)
      (pss_cons (ps_if (PW.pt (pw_or (pt_not (pt_val (pe_call G_l_right (hr.mono (by decide)) (by rfl) T.g_l_right T.F_l_right.kp T.b_l_right .nil pass0 (pa_cons (pv 7) (pa_cons (pv 5) pa_nil))))) (pw_or1 (pt_cmpR op_ne (pe_callB (RD.k_len (K := K) rfl) (by rfl) T.z_len (by decide +kernel) (pa_cons (pe_meth0 (pv 7) T.cl_Partial T.m_Partial_exits G_Partial_exits (hr.mono (by decide)) T.b_Partial_exits .nil pass0) pa_nil)) (pe_callB (RD.k_len (K := K) rfl) (by rfl) T.z_len (by decide +kernel) (pa_cons (pe_meth0 (pv 7) T.cl_Partial T.m_Partial_entries G_Partial_entries (hr.mono (by decide)) T.b_Partial_entries .nil pass0) pa_nil)) (nomark _)))))
      (pss_one (ps_ret pe_bl))
      pss_nil)
      (pss_cons (ps_if (pt_cmpR op_gt (pv 2) pe_int (nomark _))
      (pss_one (ps_ret pe_bl))
      pss_nil)
      (pss_one (ps_ret (pe_call G_l_refused (hr.mono (by decide)) (by rfl) T.g_l_refused T.F_l_refused.kp T.b_l_refused .nil pass0 (pa_cons (pe_call G_l_spoilt (hr.mono (by decide)) (by rfl) T.g_l_spoilt T.F_l_spoilt.kp T.b_l_spoilt .nil pass0 (pa_cons (pv 1) (pa_cons (pv 5) (pa_cons (pv 2) pa_nil)))) pa_nil)))))))))))))))))), ?_⟩
    show tSeq _ _ _ [some (.ref a), none, none, none, none, none, none, none, none] H
    walk_at "rd"
    refine ⟨a, zs, 0, rfl, hS, by decide, by decide, fun H1 t0 s1 nt0 tp1 => ?_⟩
    walk_at "rd"
    refine ⟨t0, 11, rfl, tp1, by decide, by decide, fun c H2 hc tp2 sx2 => ?_⟩
    walk_at "rd"
    refine ⟨t0, 8, rfl, tp2, by decide, by decide, fun e H3 he tp3 sx3 => ?_⟩
    walk_at "rd"
    refine RD.iC (.inl ⟨by decide, by decide⟩) ?_
    walk_at "rd"
    refine ⟨t0, _, rfl, tp3, by omega, by omega, fun wy H4 hw tp4 sx4 => ?_⟩
    have s4 : Same H H4 := ((sx2.trans sx3).trans sx4).under s1 nt0
    walk_at "rd"
    refine RD.cut (fun σ H5 => ∃ e' : Nat, σ = [some (.ref a), some (.ref t0), some (vn c), some (vn e'), some (vn wy), none, none, none, none] ∧ H5 = H4 ∧ e' ≤ 8 ∧ (c < 6 → 0 < e')) ?_ ?_
    · walk_at "rd"
      refine RD.dec (fun h6 => ?_) (fun h6 => ?_)
      · walk_at "rd"
        by_cases h1 : (e : Int) > 1
        · rw [if_pos h1]
          exact ⟨e, rfl, rfl, by omega, fun _ => by omega⟩
        · rw [if_neg h1]
          exact ⟨1, rfl, rfl, by omega, fun _ => by omega⟩
      · walk_at "rd"
        exact ⟨e, rfl, rfl, by omega, fun z => absurd z (by omega)⟩
    rintro σ H5 ⟨e', rfl, rfl, he', hpos⟩
    walk_at "rd"
    refine ⟨a, zs, 1, rfl, s4.seq hS, by decide, by decide, fun H6 t1 s6 nt1 tp6 => ?_⟩
    walk_at "rd"
    refine ⟨t1, e', rfl, tp6, by omega, fun H7 n1 ns hM hl nn1 tp7 sx7 en1 => ?_⟩
    have s7 : Same H5 H7 := sx7.under s6 nt1
    walk_at "rd"
    refine RD.cut (fun σ H8 => ∃ (n2 : Addr) (os : List (Option Nat)), σ = [some (.ref a), some (.ref t0), some (vn c), some (vn e'), some (vn wy), some (.ref n2), none, none, none] ∧ H8 n2 = some (.lst (vos os)) ∧ IsPart os ∧ os.length = 2 * e' ∧ n2 ≠ t0 ∧ Same H5 H8) ?_ ?_
    · walk_at "rd"
      refine RD.dec (fun h0 => ?_) (fun h0 => ?_)
      · walk_at "rd"
        refine ⟨a, zs, 1, rfl, s7.seq (s4.seq hS), by decide, by decide, fun H8 t2 s8 nt2 tp8 => ?_⟩
        walk_at "rd"
        refine ⟨t2, e', wy, rfl, tp8, by omega, by omega, by omega, fun H9 n2 os hp hlo nn2 tp9 sx9 en2 => ?_⟩
        walk_at "rd"
        refine ⟨n2, os, rfl, en2, hp, hlo, fun z => ?_, s7.trans (sx9.under s8 nt2)⟩
        obtain ⟨x, y, hA, _⟩ := (tp4.same s7).same s8
        rw [z, hA] at nn2
        cases nn2
      · walk_at "rd"
        refine ⟨n1, ns.map some, rfl, by rw [vos_some]; exact en1, IsMesh.part hM, by rw [List.length_map]; exact hl, fun z => ?_, s7⟩
        obtain ⟨x, y, hA, _⟩ := tp4.same s6
        rw [z, hA] at nn1
        cases nn1
    rintro σ H8 ⟨n2, os, rfl, en2, hp, hlo, n2t, s8⟩
    have tp8 := tp4.same s8
    walk_at "rd"
    refine RD.lcL (sq en2) (by rw [vos_len]; exact szl (by omega)) (fun _ => true) id (fun i x H1 Q' R' hx s1 kT kF => ?_) (fun H9 ps nps s9 eps => ?_)
    · walk_at "wp"
      walk_at "rd"
      refine ⟨rfl, ?_⟩
      walk_at "rd"
      exact kT rfl _ (Same.refl _)
    rw [RD.pick_all (fun _ => rfl), List.map_id] at eps
    walk_at "rd"
    refine mk_part eps hp (by omega) fun H10 p a1 np na s10 m10 => ?_
    have en10 := s10 _ _ (s9 _ _ en2)
    have ib := ibn_vos os
    walk_at "rd"
    refine ⟨p, a1, n2, vos os, rfl, m10, en10, ib, by rw [vos_len]; omega, fun H11 s11 => ?_⟩
    walk_at "rn"
    have ep11 := s11 _ _ (s10 _ _ eps)
    have m11 := m10.same s11
    have en11 := s11 _ _ en10
    have tp11 := ((tp8.same s9).same s10).same s11
    have n2ps : n2 ≠ ps := ne_of_none en2 nps
    have x1 : p ≠ ps ∧ a1 ≠ ps := ⟨(ne_of_none eps np).symm, (ne_of_none eps na).symm⟩
    have tps : t0 ≠ ps := by
      obtain ⟨x, y, hA, _⟩ := tp8
      exact ne_of_none hA nps
    refine ⟨RD.tyL (sq ep11), ?_⟩
    walk_at "rd"
    refine RD.app ep11 (by rw [vos_len]; exact szt (by omega)) ?_
    refine RD.cut (fun σ H12 => σ = [some (.ref a), some (.ref t0), some (vn c), some (vn e'), some (vn wy), some (.ref n2), some (.ref ps), some (.ref p), none] ∧ SameX ps H11 H12) ?_ ?_
    · walk_at "rd"
      refine RD.dec (fun h0 => ?_) (fun h0 => ?_)
      · walk_at "rd"
        refine RD.setL upd_same (j := 0) ?_ ?_
        · rw [List.length_append, vos_len]
          exact ix_n (j := 0) (by omega)
        exact ⟨rfl, ((SameX.refl ps H11).put).put⟩
      · walk_at "rd"
        exact ⟨rfl, (SameX.refl ps H11).put⟩
    rintro σ H12 ⟨rfl, sm⟩
    have m12 : PartAt A H12 p a1 (vos os) := by
      obtain ⟨⟨dx, h1⟩, h2⟩ := m11
      exact ⟨⟨dx, sm _ _ h1 x1.1⟩, sm _ _ h2 x1.2⟩
    have en12 := sm _ _ en11 n2ps
    have tp12 : TapeAt H12 t0 := by
      obtain ⟨x, y, hA, rr⟩ := tp11
      exact ⟨x, y, sm _ _ hA tps, rr⟩
    walk_at "rd"
    refine ⟨p, a1, n2, vos os, rfl, m12, en12, ib, by rw [vos_len]; omega, fun H13 s13 => ?_⟩
    walk_at "rn"
    have m13 := m12.same s13
    obtain ⟨dx, h1⟩ := m13.ob
    refine ⟨p, dx, _, rfl, h1, pf_no _ (by decide +kernel), ?_⟩
    walk_at "rd"
    refine ⟨p, a1, vos os, rfl, m13, ib, by rw [vos_len]; omega, fun H14 x1' s14 nx1 ex1 => ?_⟩
    walk_at "rd"
    refine RD.len (sq ex1) ?_
    rw [vns_len]
    walk_at "rd"
    refine ⟨p, dx, _, rfl, s14 _ _ h1, pf_no _ (by decide +kernel), ?_⟩
    walk_at "rd"
    refine ⟨p, a1, vos os, rfl, m13.same s14, ib, by rw [vos_len]; omega, fun H15 x2' s15 nx2 ex2 => ?_⟩
    walk_at "rd"
    refine RD.len (sq ex2) ?_
    rw [vns_len]
    have hee := exi_len os
    have hen := ent_len hp
    walk_at "rd"
    refine RD.ndF (by omega) ?_
    walk_at "rd"
    refine RD.dec (fun h5 => ?_) (fun h5 => ?_)
    · walk_at "rd"
      exact q _
    · walk_at "rd"
      have hpp := hpos (by omega)
      refine ⟨t0, n2, os, c, rfl, s15 _ _ (s14 _ _ (s13 _ _ en12)), n2t, ((tp12.same s13).same s14).same s15, hp.even, by omega, by omega, by omega, fun H16 q1 xs eq1 hb hxb hxl => ?_⟩
      walk_at "rd"
      exact ⟨q1, xs, rfl, eq1, hb, hxb, hxl, fun H' _ => q H'⟩
end
end Pf

namespace Pf
open PySem PySem.Spec PyProof.Rows L2
theorem all_mk {l : PySem.W.OpenLaw} {w : World} {K : PySem.W.Frag} {h : Heap} {mg : Str → Option Value} {fa f1 f2 f3 f4 f5 f6 f7 f8 f9 f10 f11 f12 f13 f14 f15 C_MeshError C_NotAMesh C_Partial : Addr} (X : K.In h) (G : h.Ns mainGlobals mg) (hfa : mg "law" = some (.ref fa))
    {od1 an1 : Option Addr} {sl1 : Array (Option Value)} {oc1 kV1 dc1 pm1 cd1 ct1 : Value}
    {od2 an2 : Option Addr} {sl2 : Array (Option Value)} {oc2 kV2 dc2 pm2 cd2 ct2 : Value}
    {od3 an3 : Option Addr} {sl3 : Array (Option Value)} {oc3 kV3 dc3 pm3 cd3 ct3 : Value}
    {od4 an4 : Option Addr} {sl4 : Array (Option Value)} {oc4 kV4 dc4 pm4 cd4 ct4 : Value}
    {od5 an5 : Option Addr} {sl5 : Array (Option Value)} {oc5 kV5 dc5 pm5 cd5 ct5 : Value}
    {od6 an6 : Option Addr} {sl6 : Array (Option Value)} {oc6 kV6 dc6 pm6 cd6 ct6 : Value}
    {od7 an7 : Option Addr} {sl7 : Array (Option Value)} {oc7 kV7 dc7 pm7 cd7 ct7 : Value}
    {od8 an8 : Option Addr} {sl8 : Array (Option Value)} {oc8 kV8 dc8 pm8 cd8 ct8 : Value}
    {od9 an9 : Option Addr} {sl9 : Array (Option Value)} {oc9 kV9 dc9 pm9 cd9 ct9 : Value}
    {od10 an10 : Option Addr} {sl10 : Array (Option Value)} {oc10 kV10 dc10 pm10 cd10 ct10 : Value}
    {od11 an11 : Option Addr} {sl11 : Array (Option Value)} {oc11 kV11 dc11 pm11 cd11 ct11 : Value}
    {od12 an12 : Option Addr} {sl12 : Array (Option Value)} {oc12 kV12 dc12 pm12 cd12 ct12 : Value}
    {od13 an13 : Option Addr} {sl13 : Array (Option Value)} {oc13 kV13 dc13 pm13 cd13 ct13 : Value}
    {od14 an14 : Option Addr} {sl14 : Array (Option Value)} {oc14 kV14 dc14 pm14 cd14 ct14 : Value}
    {od15 an15 : Option Addr} {sl15 : Array (Option Value)} {oc15 kV15 dc15 pm15 cd15 ct15 : Value}
    (aC_MeshError : PySem.W.nsIn K mainGlobals "MeshError" = some (some (.ref C_MeshError)))
    (aC_NotAMesh : PySem.W.nsIn K mainGlobals "NotAMesh" = some (some (.ref C_NotAMesh)))
    (aC_Partial : PySem.W.nsIn K mainGlobals "Partial" = some (some (.ref C_Partial)))
    (a1 : PySem.W.nsIn K mainGlobals "are_integers" = some (some (.ref f1)))
    (l1 : K.lookup f1 = some ⟨oc1, od1, .func (PySem.W.fnOf "are_integers" "are_integers" (defArgs s_are_integers) (defBody s_are_integers) (defScope s_are_integers) .none kV1 dc1 pm1 an1 cd1 ct1), sl1⟩)
    (c1 : PySem.W.codeIn K cd1 "are_integers" = true)
    (k1 : PySem.W.keepIn K (.ref f1) = true)
    (a2 : PySem.W.findIn K (.ref C_Partial) "__init__" = some (some (.ref f2)))
    (i2 : PySem.W.isFn K (.ref f2) = true)
    (l2 : K.lookup f2 = some ⟨oc2, od2, .func (PySem.W.fnOf "__init__" "Partial.__init__" (defArgs s_Partial_d_initd_) (defBody s_Partial_d_initd_) (defScope s_Partial_d_initd_) .none kV2 dc2 pm2 an2 cd2 ct2), sl2⟩)
    (c2 : PySem.W.codeIn K cd2 "Partial.__init__" = true)
    (k2 : PySem.W.keepIn K (.ref f2) = true)
    (a3 : PySem.W.findIn K (.ref C_Partial) "nexts" = some (some (.ref f3)))
    (i3 : PySem.W.isFn K (.ref f3) = true)
    (l3 : K.lookup f3 = some ⟨oc3, od3, .func (PySem.W.fnOf "nexts" "Partial.nexts" (defArgs s_Partial_nexts) (defBody s_Partial_nexts) (defScope s_Partial_nexts) .none kV3 dc3 pm3 an3 cd3 ct3), sl3⟩)
    (c3 : PySem.W.codeIn K cd3 "Partial.nexts" = true)
    (k3 : PySem.W.keepIn K (.ref f3) = true)
    (a4 : PySem.W.findIn K (.ref C_Partial) "exits" = some (some (.ref f4)))
    (i4 : PySem.W.isFn K (.ref f4) = true)
    (l4 : K.lookup f4 = some ⟨oc4, od4, .func (PySem.W.fnOf "exits" "Partial.exits" (defArgs s_Partial_exits) (defBody s_Partial_exits) (defScope s_Partial_exits) .none kV4 dc4 pm4 an4 cd4 ct4), sl4⟩)
    (c4 : PySem.W.codeIn K cd4 "Partial.exits" = true)
    (k4 : PySem.W.keepIn K (.ref f4) = true)
    (a5 : PySem.W.findIn K (.ref C_Partial) "entries" = some (some (.ref f5)))
    (i5 : PySem.W.isFn K (.ref f5) = true)
    (l5 : K.lookup f5 = some ⟨oc5, od5, .func (PySem.W.fnOf "entries" "Partial.entries" (defArgs s_Partial_entries) (defBody s_Partial_entries) (defScope s_Partial_entries) .none kV5 dc5 pm5 an5 cd5 ct5), sl5⟩)
    (c5 : PySem.W.codeIn K cd5 "Partial.entries" = true)
    (k5 : PySem.W.keepIn K (.ref f5) = true)
    (a6 : PySem.W.nsIn K mainGlobals "_law_tape" = some (some (.ref f6)))
    (l6 : K.lookup f6 = some ⟨oc6, od6, .func (PySem.W.fnOf "_law_tape" "_law_tape" (defArgs s_l_tape) (defBody s_l_tape) (defScope s_l_tape) .none kV6 dc6 pm6 an6 cd6 ct6), sl6⟩)
    (c6 : PySem.W.codeIn K cd6 "_law_tape" = true)
    (k6 : PySem.W.keepIn K (.ref f6) = true)
    (a7 : PySem.W.nsIn K mainGlobals "_law_pick" = some (some (.ref f7)))
    (l7 : K.lookup f7 = some ⟨oc7, od7, .func (PySem.W.fnOf "_law_pick" "_law_pick" (defArgs s_l_pick) (defBody s_l_pick) (defScope s_l_pick) .none kV7 dc7 pm7 an7 cd7 ct7), sl7⟩)
    (c7 : PySem.W.codeIn K cd7 "_law_pick" = true)
    (k7 : PySem.W.keepIn K (.ref f7) = true)
    (a8 : PySem.W.nsIn K mainGlobals "_law_nexts" = some (some (.ref f8)))
    (l8 : K.lookup f8 = some ⟨oc8, od8, .func (PySem.W.fnOf "_law_nexts" "_law_nexts" (defArgs s_l_nexts) (defBody s_l_nexts) (defScope s_l_nexts) .none kV8 dc8 pm8 an8 cd8 ct8), sl8⟩)
    (c8 : PySem.W.codeIn K cd8 "_law_nexts" = true)
    (k8 : PySem.W.keepIn K (.ref f8) = true)
    (a9 : PySem.W.nsIn K mainGlobals "_law_partial" = some (some (.ref f9)))
    (l9 : K.lookup f9 = some ⟨oc9, od9, .func (PySem.W.fnOf "_law_partial" "_law_partial" (defArgs s_l_partial) (defBody s_l_partial) (defScope s_l_partial) .none kV9 dc9 pm9 an9 cd9 ct9), sl9⟩)
    (c9 : PySem.W.codeIn K cd9 "_law_partial" = true)
    (k9 : PySem.W.keepIn K (.ref f9) = true)
    (a10 : PySem.W.nsIn K mainGlobals "_law_exits" = some (some (.ref f10)))
    (l10 : K.lookup f10 = some ⟨oc10, od10, .func (PySem.W.fnOf "_law_exits" "_law_exits" (defArgs s_l_exits) (defBody s_l_exits) (defScope s_l_exits) .none kV10 dc10 pm10 an10 cd10 ct10), sl10⟩)
    (c10 : PySem.W.codeIn K cd10 "_law_exits" = true)
    (k10 : PySem.W.keepIn K (.ref f10) = true)
    (a11 : PySem.W.nsIn K mainGlobals "_law_entries" = some (some (.ref f11)))
    (l11 : K.lookup f11 = some ⟨oc11, od11, .func (PySem.W.fnOf "_law_entries" "_law_entries" (defArgs s_l_entries) (defBody s_l_entries) (defScope s_l_entries) .none kV11 dc11 pm11 an11 cd11 ct11), sl11⟩)
    (c11 : PySem.W.codeIn K cd11 "_law_entries" = true)
    (k11 : PySem.W.keepIn K (.ref f11) = true)
    (a12 : PySem.W.nsIn K mainGlobals "_law_spoilt" = some (some (.ref f12)))
    (l12 : K.lookup f12 = some ⟨oc12, od12, .func (PySem.W.fnOf "_law_spoilt" "_law_spoilt" (defArgs s_l_spoilt) (defBody s_l_spoilt) (defScope s_l_spoilt) .none kV12 dc12 pm12 an12 cd12 ct12), sl12⟩)
    (c12 : PySem.W.codeIn K cd12 "_law_spoilt" = true)
    (k12 : PySem.W.keepIn K (.ref f12) = true)
    (a13 : PySem.W.nsIn K mainGlobals "_law_refused" = some (some (.ref f13)))
    (l13 : K.lookup f13 = some ⟨oc13, od13, .func (PySem.W.fnOf "_law_refused" "_law_refused" (defArgs s_l_refused) (defBody s_l_refused) (defScope s_l_refused) .none kV13 dc13 pm13 an13 cd13 ct13), sl13⟩)
    (c13 : PySem.W.codeIn K cd13 "_law_refused" = true)
    (k13 : PySem.W.keepIn K (.ref f13) = true)
    (a14 : PySem.W.nsIn K mainGlobals "_law_right" = some (some (.ref f14)))
    (l14 : K.lookup f14 = some ⟨oc14, od14, .func (PySem.W.fnOf "_law_right" "_law_right" (defArgs s_l_right) (defBody s_l_right) (defScope s_l_right) .none kV14 dc14 pm14 an14 cd14 ct14), sl14⟩)
    (c14 : PySem.W.codeIn K cd14 "_law_right" = true)
    (k14 : PySem.W.keepIn K (.ref f14) = true)
    (a15 : PySem.W.nsIn K mainGlobals "law" = some (some (.ref f15)))
    (l15 : K.lookup f15 = some ⟨oc15, od15, .func (PySem.W.fnOf "law" "law" (defArgs s_law) (defBody s_law) (defScope s_law) .none kV15 dc15 pm15 an15 cd15 ct15), sl15⟩)
    (c15 : PySem.W.codeIn K cd15 "law" = true)
    (k15 : PySem.W.keepIn K (.ref f15) = true)
    (hx_NotAMesh : PySem.W.excIn K C_NotAMesh [.type "ValueError", .type "Exception", .type "BaseException", .type "object"] "ValueError.__new__" = true)
    (hk_NotAMesh : PySem.W.keepIn K (.ref C_NotAMesh) = true)
    (hs_NotAMesh : PySem.W.subIn K (.ref C_NotAMesh) (.type "BaseException") = some true)
    (ht_NotAMesh : PySem.W.typeIn K (.ref C_NotAMesh) = some (.type "type"))
    (hi_NotAMesh : PySem.W.isClsIn K C_NotAMesh = true)
    (hss_NotAMesh : PySem.W.subIn K (.ref C_NotAMesh) (.ref C_NotAMesh) = some true)
    (hxg_NotAMesh : PySem.W.findIn K (.ref C_NotAMesh) "__getattribute__" = some (some (.builtin "BaseException.__getattribute__")))
    (hxk_NotAMesh : PySem.W.findIn K (.ref C_NotAMesh) "__getattr__" = some none)
    (hxd_NotAMesh : PySem.W.hasDictIn K C_NotAMesh = true)
    (hxa_NotAMesh : PySem.W.findIn K (.ref C_NotAMesh) "__class__" = some (some (.builtin "object.__class__")))
    (hxm_NotAMesh : PySem.W.mroIn K C_NotAMesh (.type "object") = some true)
    (hki_NotAMesh_MeshError : PySem.W.kitOne K (.ref C_NotAMesh) (.ref C_MeshError) = some true)
    (pg_Partial : PySem.W.plainGet K C_Partial Str.empty = true)
    (hd_Partial : PySem.W.hasDictIn K C_Partial = true)
    (po_Partial : PySem.W.plainOver K C_Partial = true)
    (sa_Partial : PySem.W.findIn K (.ref C_Partial) "__setattr__" = some (some (.builtin "object.__setattr__")))
    (mk_Partial : PySem.W.makesIn K C_Partial = true)
    (kc_Partial : PySem.W.keepIn K (.ref C_Partial) = true)
    (hn_Partial_following : PySem.W.findIn K (.ref C_Partial) "following" = some none)
    (hz_abs : PySem.W.nsIn K mainGlobals "abs" = some none)
    (hz_all : PySem.W.nsIn K mainGlobals "all" = some none)
    (hz_bool : PySem.W.nsIn K mainGlobals "bool" = some none)
    (hz_enumerate : PySem.W.nsIn K mainGlobals "enumerate" = some none)
    (hz_int : PySem.W.nsIn K mainGlobals "int" = some none)
    (hz_isinstance : PySem.W.nsIn K mainGlobals "isinstance" = some none)
    (hz_len : PySem.W.nsIn K mainGlobals "len" = some none)
    (hz_list : PySem.W.nsIn K mainGlobals "list" = some none)
    (hz_max : PySem.W.nsIn K mainGlobals "max" = some none)
    (hz_range : PySem.W.nsIn K mainGlobals "range" = some none)
    (hz_sorted : PySem.W.nsIn K mainGlobals "sorted" = some none)
    (hoc_get : PySem.W.specialIn K (.builtin "object.__class__") "__get__" = some (some (.builtin "getset_descriptor.__get__")))
    (hoc_tak : PySem.W.takesIn K (.builtin "object.__class__") = some true)
    : ∃ fd : FuncData, (∀ (s : Shared) (v : Value), BindsTo s fd ⟨[v], []⟩ [("_law_script", v)]) ∧ ∀ base : Heap, K.In base → base.Ns mainGlobals mg → FnOk l.prog w K mg base CX0 5 fa fd ["_law_script"] (sp_law K) := by
  have e := hfa.symm.trans (PySem.W.mg_of X G a15)
  cases e
  let A : Ad := ⟨f1, (PySem.W.fnOf "are_integers" "are_integers" (defArgs s_are_integers) (defBody s_are_integers) (defScope s_are_integers) .none kV1 dc1 pm1 an1 cd1 ct1), f2, (PySem.W.fnOf "__init__" "Partial.__init__" (defArgs s_Partial_d_initd_) (defBody s_Partial_d_initd_) (defScope s_Partial_d_initd_) .none kV2 dc2 pm2 an2 cd2 ct2), f3, (PySem.W.fnOf "nexts" "Partial.nexts" (defArgs s_Partial_nexts) (defBody s_Partial_nexts) (defScope s_Partial_nexts) .none kV3 dc3 pm3 an3 cd3 ct3), f4, (PySem.W.fnOf "exits" "Partial.exits" (defArgs s_Partial_exits) (defBody s_Partial_exits) (defScope s_Partial_exits) .none kV4 dc4 pm4 an4 cd4 ct4), f5, (PySem.W.fnOf "entries" "Partial.entries" (defArgs s_Partial_entries) (defBody s_Partial_entries) (defScope s_Partial_entries) .none kV5 dc5 pm5 an5 cd5 ct5), f6, (PySem.W.fnOf "_law_tape" "_law_tape" (defArgs s_l_tape) (defBody s_l_tape) (defScope s_l_tape) .none kV6 dc6 pm6 an6 cd6 ct6), f7, (PySem.W.fnOf "_law_pick" "_law_pick" (defArgs s_l_pick) (defBody s_l_pick) (defScope s_l_pick) .none kV7 dc7 pm7 an7 cd7 ct7), f8, (PySem.W.fnOf "_law_nexts" "_law_nexts" (defArgs s_l_nexts) (defBody s_l_nexts) (defScope s_l_nexts) .none kV8 dc8 pm8 an8 cd8 ct8), f9, (PySem.W.fnOf "_law_partial" "_law_partial" (defArgs s_l_partial) (defBody s_l_partial) (defScope s_l_partial) .none kV9 dc9 pm9 an9 cd9 ct9), f10, (PySem.W.fnOf "_law_exits" "_law_exits" (defArgs s_l_exits) (defBody s_l_exits) (defScope s_l_exits) .none kV10 dc10 pm10 an10 cd10 ct10), f11, (PySem.W.fnOf "_law_entries" "_law_entries" (defArgs s_l_entries) (defBody s_l_entries) (defScope s_l_entries) .none kV11 dc11 pm11 an11 cd11 ct11), f12, (PySem.W.fnOf "_law_spoilt" "_law_spoilt" (defArgs s_l_spoilt) (defBody s_l_spoilt) (defScope s_l_spoilt) .none kV12 dc12 pm12 an12 cd12 ct12), f13, (PySem.W.fnOf "_law_refused" "_law_refused" (defArgs s_l_refused) (defBody s_l_refused) (defScope s_l_refused) .none kV13 dc13 pm13 an13 cd13 ct13), f14, (PySem.W.fnOf "_law_right" "_law_right" (defArgs s_l_right) (defBody s_l_right) (defScope s_l_right) .none kV14 dc14 pm14 an14 cd14 ct14), fa, (PySem.W.fnOf "law" "law" (defArgs s_law) (defBody s_law) (defScope s_law) .none kV15 dc15 pm15 an15 cd15 ct15), C_MeshError, C_NotAMesh, C_Partial⟩
  have T : Txt K mg A := ⟨fun_mk (st := s_are_integers) l1 c1 k1,
    (fun_mk (st := s_are_integers) l1 c1 k1).binds (ps := ["values"]) fun _ _ _ _ _ _ us hl => match us, hl with | [_], _ => rfl,
    PySem.W.mg_of X G a1,
    fun_mk (st := s_Partial_d_initd_) l2 c2 k2,
    (fun_mk (st := s_Partial_d_initd_) l2 c2 k2).binds (ps := ["self", "nexts"]) fun _ _ _ _ _ _ us hl => match us, hl with | [_, _], _ => rfl,
    ⟨a2, i2, k2⟩,
    fun_mk (st := s_Partial_nexts) l3 c3 k3,
    (fun_mk (st := s_Partial_nexts) l3 c3 k3).binds (ps := ["self"]) fun _ _ _ _ _ _ us hl => match us, hl with | [_], _ => rfl,
    ⟨a3, i3, k3⟩,
    fun_mk (st := s_Partial_exits) l4 c4 k4,
    (fun_mk (st := s_Partial_exits) l4 c4 k4).binds (ps := ["self"]) fun _ _ _ _ _ _ us hl => match us, hl with | [_], _ => rfl,
    ⟨a4, i4, k4⟩,
    fun_mk (st := s_Partial_entries) l5 c5 k5,
    (fun_mk (st := s_Partial_entries) l5 c5 k5).binds (ps := ["self"]) fun _ _ _ _ _ _ us hl => match us, hl with | [_], _ => rfl,
    ⟨a5, i5, k5⟩,
    fun_mk (st := s_l_tape) l6 c6 k6,
    (fun_mk (st := s_l_tape) l6 c6 k6).binds (ps := ["_law_script", "_law_k"]) fun _ _ _ _ _ _ us hl => match us, hl with | [_, _], _ => rfl,
    PySem.W.mg_of X G a6,
    fun_mk (st := s_l_pick) l7 c7 k7,
    (fun_mk (st := s_l_pick) l7 c7 k7).binds (ps := ["_law_tape_here", "_law_many"]) fun _ _ _ _ _ _ us hl => match us, hl with | [_, _], _ => rfl,
    PySem.W.mg_of X G a7,
    fun_mk (st := s_l_nexts) l8 c8 k8,
    (fun_mk (st := s_l_nexts) l8 c8 k8).binds (ps := ["_law_tape_here", "_law_edges"]) fun _ _ _ _ _ _ us hl => match us, hl with | [_, _], _ => rfl,
    PySem.W.mg_of X G a8,
    fun_mk (st := s_l_partial) l9 c9 k9,
    (fun_mk (st := s_l_partial) l9 c9 k9).binds (ps := ["_law_tape_here", "_law_edges", "_law_open_ways"]) fun _ _ _ _ _ _ us hl => match us, hl with | [_, _, _], _ => rfl,
    PySem.W.mg_of X G a9,
    fun_mk (st := s_l_exits) l10 c10 k10,
    (fun_mk (st := s_l_exits) l10 c10 k10).binds (ps := ["_law_nexts_here"]) fun _ _ _ _ _ _ us hl => match us, hl with | [_], _ => rfl,
    PySem.W.mg_of X G a10,
    fun_mk (st := s_l_entries) l11 c11 k11,
    (fun_mk (st := s_l_entries) l11 c11 k11).binds (ps := ["_law_nexts_here"]) fun _ _ _ _ _ _ us hl => match us, hl with | [_], _ => rfl,
    PySem.W.mg_of X G a11,
    fun_mk (st := s_l_spoilt) l12 c12 k12,
    (fun_mk (st := s_l_spoilt) l12 c12 k12).binds (ps := ["_law_tape_here", "_law_nexts_here", "_law_choice"]) fun _ _ _ _ _ _ us hl => match us, hl with | [_, _, _], _ => rfl,
    PySem.W.mg_of X G a12,
    fun_mk (st := s_l_refused) l13 c13 k13,
    (fun_mk (st := s_l_refused) l13 c13 k13).binds (ps := ["_law_nexts_here"]) fun _ _ _ _ _ _ us hl => match us, hl with | [_], _ => rfl,
    PySem.W.mg_of X G a13,
    fun_mk (st := s_l_right) l14 c14 k14,
    (fun_mk (st := s_l_right) l14 c14 k14).binds (ps := ["_law_partial_here", "_law_nexts_here"]) fun _ _ _ _ _ _ us hl => match us, hl with | [_, _], _ => rfl,
    PySem.W.mg_of X G a14,
    fun_mk (st := s_law) l15 c15 k15,
    (fun_mk (st := s_law) l15 c15 k15).binds (ps := ["_law_script"]) fun _ _ _ _ _ _ us hl => match us, hl with | [_], _ => rfl,
    PySem.W.mg_of X G a15,
    PySem.W.mg_of X G aC_MeshError,
    PySem.W.mg_of X G aC_NotAMesh,
    hx_NotAMesh,
    hk_NotAMesh,
    hs_NotAMesh,
    ht_NotAMesh,
    hi_NotAMesh,
    hss_NotAMesh,
    hxg_NotAMesh,
    hxk_NotAMesh,
    hxd_NotAMesh,
    hxa_NotAMesh,
    hxm_NotAMesh,
    hki_NotAMesh_MeshError,
    PySem.W.mg_of X G aC_Partial,
    ⟨pg_Partial, hd_Partial, po_Partial, sa_Partial⟩,
    ⟨mk_Partial, a2, i2, kc_Partial⟩,
    hn_Partial_following,
    PySem.W.mg_none_of X G hz_abs,
    PySem.W.mg_none_of X G hz_all,
    PySem.W.mg_none_of X G hz_bool,
    PySem.W.mg_none_of X G hz_enumerate,
    PySem.W.mg_none_of X G hz_int,
    PySem.W.mg_none_of X G hz_isinstance,
    PySem.W.mg_none_of X G hz_len,
    PySem.W.mg_none_of X G hz_list,
    PySem.W.mg_none_of X G hz_max,
    PySem.W.mg_none_of X G hz_range,
    PySem.W.mg_none_of X G hz_sorted,
    hoc_get,
    hoc_tak⟩
  exact ⟨A.d_law, fun s v => .of_eq rfl, fun base _ _ => ok_law (A := A) T⟩
end Pf
open PySem PySem.W PyProof.Rows
set_option maxRecDepth 100000 in
set_option maxHeartbeats 0 in
theorem PySem.Challenge.cw_halfmeshes_k61_partial_meshes_holds : PySem.Challenge.rw_halfmeshes_k61_partial_meshes.Holds := by
  w_on; o_law; k_head; (case hw => w_witness2)
  k_fill
  refine L2.walk_of (l := PySem.Challenge.rw_halfmeshes_k61_partial_meshes) (n := 63) (k := 5) (x := "_law_script") (CX := fun _ => L2.CX0) (sp := fun w => Pf.sp_law _) rfl (by decide) rfl ⟨rfl, by decide, by decide⟩ (fun w h Y => PySem.W.kIn_of Y) ?F (fun _ _ a ns hl _ hS => ⟨a, ns, rfl, hS, hl, fun _ => rfl⟩) (fun _ _ _ _ _ h => h)
  case F =>
    intro w mg fa h KX G hmg
    refine' Pf.all_mk KX G hmg ?aC_MeshError ?aC_NotAMesh ?aC_Partial ?a1 ?l1 ?c1 ?k1 ?a2 ?i2 ?l2 ?c2 ?k2 ?a3 ?i3 ?l3 ?c3 ?k3 ?a4 ?i4 ?l4 ?c4 ?k4 ?a5 ?i5 ?l5 ?c5 ?k5 ?a6 ?l6 ?c6 ?k6 ?a7 ?l7 ?c7 ?k7 ?a8 ?l8 ?c8 ?k8 ?a9 ?l9 ?c9 ?k9 ?a10 ?l10 ?c10 ?k10 ?a11 ?l11 ?c11 ?k11 ?a12 ?l12 ?c12 ?k12 ?a13 ?l13 ?c13 ?k13 ?a14 ?l14 ?c14 ?k14 ?a15 ?l15 ?c15 ?k15 ?hx_NotAMesh ?hk_NotAMesh ?hs_NotAMesh ?ht_NotAMesh ?hi_NotAMesh ?hss_NotAMesh ?hxg_NotAMesh ?hxk_NotAMesh ?hxd_NotAMesh ?hxa_NotAMesh ?hxm_NotAMesh ?hki_NotAMesh_MeshError ?pg_Partial ?hd_Partial ?po_Partial ?sa_Partial ?mk_Partial ?kc_Partial ?hn_Partial_following ?hz_abs ?hz_all ?hz_bool ?hz_enumerate ?hz_int ?hz_isinstance ?hz_len ?hz_list ?hz_max ?hz_range ?hz_sorted ?hoc_get ?hoc_tak
    (case aC_MeshError => k_is)
    (case aC_NotAMesh => k_is)
    (case aC_Partial => k_is)
    (case a1 => k_is)
    (case l1 => k_is)
    (case c1 => k_is)
    (case k1 => k_is)
    (case a2 => k_is)
    (case i2 => k_is)
    (case l2 => k_is)
    (case c2 => k_is)
    (case k2 => k_is)
    (case a3 => k_is)
    (case i3 => k_is)
    (case l3 => k_is)
    (case c3 => k_is)
    (case k3 => k_is)
    (case a4 => k_is)
    (case i4 => k_is)
    (case l4 => k_is)
    (case c4 => k_is)
    (case k4 => k_is)
    (case a5 => k_is)
    (case i5 => k_is)
    (case l5 => k_is)
    (case c5 => k_is)
    (case k5 => k_is)
    (case a6 => k_is)
    (case l6 => k_is)
    (case c6 => k_is)
    (case k6 => k_is)
    (case a7 => k_is)
    (case l7 => k_is)
    (case c7 => k_is)
    (case k7 => k_is)
    (case a8 => k_is)
    (case l8 => k_is)
    (case c8 => k_is)
    (case k8 => k_is)
    (case a9 => k_is)
    (case l9 => k_is)
    (case c9 => k_is)
    (case k9 => k_is)
    (case a10 => k_is)
    (case l10 => k_is)
    (case c10 => k_is)
    (case k10 => k_is)
    (case a11 => k_is)
    (case l11 => k_is)
    (case c11 => k_is)
    (case k11 => k_is)
    (case a12 => k_is)
    (case l12 => k_is)
    (case c12 => k_is)
    (case k12 => k_is)
    (case a13 => k_is)
    (case l13 => k_is)
    (case c13 => k_is)
    (case k13 => k_is)
    (case a14 => k_is)
    (case l14 => k_is)
    (case c14 => k_is)
    (case k14 => k_is)
    (case a15 => k_is)
    (case l15 => k_is)
    (case c15 => k_is)
    (case k15 => k_is)
    (case hx_NotAMesh => first | k_exc | k_is)
    (case hk_NotAMesh => first | rfl | k_is)
    (case hs_NotAMesh => first | rfl | k_is)
    (case ht_NotAMesh => first | rfl | k_is)
    (case hi_NotAMesh => first | rfl | k_is)
    (case hss_NotAMesh => first | rfl | k_is)
    (case hxg_NotAMesh => first | rfl | k_is)
    (case hxk_NotAMesh => first | rfl | k_is)
    (case hxd_NotAMesh => first | rfl | k_is)
    (case hxa_NotAMesh => first | rfl | k_is)
    (case hxm_NotAMesh => first | rfl | k_is)
    (case hki_NotAMesh_MeshError => first | rfl | k_is)
    (case pg_Partial => k_is)
    (case hd_Partial => k_is)
    (case po_Partial => k_is)
    (case sa_Partial => k_is)
    (case mk_Partial => k_is)
    (case kc_Partial => k_is)
    (case hn_Partial_following => k_is)
    (case hz_abs => k_is)
    (case hz_all => k_is)
    (case hz_bool => k_is)
    (case hz_enumerate => k_is)
    (case hz_int => k_is)
    (case hz_isinstance => k_is)
    (case hz_len => k_is)
    (case hz_list => k_is)
    (case hz_max => k_is)
    (case hz_range => k_is)
    (case hz_sorted => k_is)
    (case hoc_get => first | rfl | k_is)
    (case hoc_tak => first | rfl | k_is)
