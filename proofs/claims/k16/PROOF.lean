import PyProof.Rows.All
import Wide.All
import OpenK.AllK
import Wide.FinOn
import HandS.ForMost
import HandS.Wide
import HandS.SetKeys
import HandS.IsInst
import HandS.Codes
import HandS.Deep
import HandS.SortInts
import HandS.Flow
import HandS.TupAny
import HandS.FStr
import HandS.SlotsOwn
import HandS.More
import HandS.Defaults
import HandS.Style
import HandS.Text
import HandS.Iter
import HandS.Head0
import HandS.Head1
import HandS.Head2
import HandS.HeadEnd
import HandS.HeadHook1
import HandS.HeadHook2
import PySem.Challenge.RW_quietedition_k16_first_blocks
import KE.KStateDown
import Lean
set_option Elab.async false
set_option linter.all false
set_option maxRecDepth 100000
set_option maxHeartbeats 4000000
/-! Own layer: backward rules for readings, frames, packages of defs. -/
namespace QB
open PySem PySem.Spec PyProof.Rows L2

/-! ### readings by name -/
def kTest (QT : Bool → Hp → Prop) : VK := fun x H' => ∃ k, x = .bl k ∧ QT k H'
def kPart (QO : Option Int → Hp → Prop) : VK := fun x H1 => ∃ i, x = .int i ∧ QO (some i) H1
def kAnd (tb : TE) (σ : L2.St) (Q : VK) : VK := fun x H1 => ∃ c, x = .bl c ∧ if c = true then tb σ H1 Q else Q (.bl false) H1
def kOr (tb : TE) (σ : L2.St) (Q : VK) : VK := fun x H1 => ∃ c, x = .bl c ∧ if c = true then Q (.bl true) H1 else tb σ H1 Q
def kNot (Q : VK) : VK := fun x H1 => ∃ c, x = .bl c ∧ Q (.bl (!c)) H1
def kTru (K : PySem.W.Frag) (QT : Bool → Hp → Prop) : VK := fun x H' => ∃ k, TruV K x H' k ∧ QT k H'
def tTruth (K : PySem.W.Frag) (ta : TE) : TT := fun σ H Q => ta σ H fun x H' => ∃ k, TruV K x H' k ∧ Q k H'
def rLen (K : PySem.W.Frag) : List V → Hp → VK → Prop := fun xs H Q => ∃ p ys, xs = [.ref p] ∧ (SqL K H p ys ∨ SqT K H p ys) ∧ Q (.int ys.length) H
def rLst (K : PySem.W.Frag) : List V → Hp → VK → Prop := fun xs H Q => ∃ p ys, xs = [.ref p] ∧ (SqL K H p ys ∨ SqT K H p ys) ∧ ∀ l, H l = none → Q (.ref l) (upd H l (.lst ys))
def rTupl (K : PySem.W.Frag) : List V → Hp → VK → Prop := fun xs H Q => ∃ p ys, xs = [.ref p] ∧ ((SqL K H p ys ∧ ∀ l, H l = none → Q (.ref l) (upd H l (.tup ys))) ∨ (SqT K H p ys ∧ Q (.ref p) H))
def rInt : List V → Hp → VK → Prop := fun xs H Q => (∃ i, xs = [.int i] ∧ Q (.int i) H) ∨ ∃ k, xs = [.bl k] ∧ Q (.int (if k then 1 else 0)) H
def rAbs : List V → Hp → VK → Prop := fun xs H Q => ∃ i, xs = [.int i] ∧ Q (.int (if i < 0 then -i else i)) H
def rMax : List V → Hp → VK → Prop := fun xs H Q => ∃ i j, xs = [.int i, .int j] ∧ Q (.int (if j > i then j else i)) H
def rMin : List V → Hp → VK → Prop := fun xs H Q => ∃ i j, xs = [.int i, .int j] ∧ Q (.int (if j < i then j else i)) H
def rAddStr : R2 := fun x y H Q => ∃ i j, x = .str i ∧ y = .str j ∧ i.length + j.length ≤ sizeLine ∧ Q (.str (i ++ j)) H
section
variable {X : Cx}
theorem c_len : CallR X (.builtin "len") (rLen X.K) := call_len_seq
theorem c_lst : CallR X (.type "list") (rLst X.K) := call_list_of
theorem c_tup : CallR X (.type "tuple") (rTupl X.K) := call_tuple_of
theorem c_int : CallR X (.type "int") rInt := call_int1
theorem c_abs : CallR X (.builtin "abs") rAbs := call_abs
theorem c_max (hc : X.calm = true) : CallR X (.builtin "max") rMax := call_max2 hc
theorem c_min (hc : X.calm = true) : CallR X (.builtin "min") rMin := call_min2 hc
theorem o_adds : OpR X (binaryOp .Add) rAddStr := op_add_str
theorem pt_tru {a : Expr} {ta : TE} (ha : PE X a ta) (he : ∀ whole, isTrue a X.env whole = (do let v ← whole; standAt a.pos; holding [v] (truthy v))) : PT X a (tTruth X.K ta) := pt_truth ha he
end

/-! ### the same rules, the written part by its name (inside comprehensions) -/
section
variable {X : Cx} {e : Expr} {f : Str} {pos : Pos} {ta : TE} {tg : Expr} {a : Expr}
theorem kixL (K : PySem.W.Frag) (h : X.K = K) : IxR X (rIxL K) := h ▸ ix_list
theorem kixT (K : PySem.W.Frag) (h : X.K = K) : IxR X (rIxT K) := h ▸ ix_tup
theorem kixQ (K : PySem.W.Frag) (h : X.K = K) : IxR X (rIx K) := h ▸ ix_seq
theorem koIn (K : PySem.W.Frag) (h : X.K = K) : OpR X (compareOp .In) (rIn K false) := h ▸ op_in_seq
theorem koNi (K : PySem.W.Frag) (h : X.K = K) : OpR X (compareOp .NotIn) (rIn K true) := h ▸ op_notIn_seq
theorem koEq (K : PySem.W.Frag) (h : X.K = K) (hu : X.A.units + 64 < cLine) : OpR X (compareOp .Eq) (rEqD K) := h ▸ op_eqD hu
theorem koNe (K : PySem.W.Frag) (h : X.K = K) (hu : X.A.units + 64 < cLine) : OpR X (compareOp .NotEq) (rNeD K) := h ▸ op_neD hu
theorem koInD (K : PySem.W.Frag) (h : X.K = K) (hu : X.A.units + 65 < cLine) : OpR X (compareOp .In) (rInD K) := h ▸ op_inD hu
theorem koNiD (K : PySem.W.Frag) (h : X.K = K) (hu : X.A.units + 65 < cLine) : OpR X (compareOp .NotIn) (rNotInD K) := h ▸ op_notInD hu
theorem kcLen (K : PySem.W.Frag) (h : X.K = K) : CallR X (.builtin "len") (rLen K) := h ▸ c_len
theorem kcLst' (K : PySem.W.Frag) (h : X.K = K) : CallR X (.type "list") (rLst K) := h ▸ c_lst
theorem kcTup (K : PySem.W.Frag) (h : X.K = K) : CallR X (.type "tuple") (rTupl K) := h ▸ c_tup
theorem kcIsi (K : PySem.W.Frag) (h : X.K = K) : CallR X (.builtin "isinstance") (rIsi K) := h ▸ call_isi
theorem kslL (K : PySem.W.Frag) (h : X.K = K) : SlR X (rSlL K) := h ▸ sl_list
theorem kslT (K : PySem.W.Frag) (h : X.K = K) : SlR X (rSlA K) := h ▸ sl_tupA
theorem kcatA (K : PySem.W.Frag) (h : X.K = K) : OpR X (binaryOp .Add) (rCatA K) := h ▸ op_catA
theorem kpt_tru (K : PySem.W.Frag) (h : X.K = K) (ha : PE X a ta) (he : ∀ whole, isTrue a X.env whole = (do let v ← whole; standAt a.pos; holding [v] (truthy v))) : PT X a (tTruth K ta) := h ▸ pt_tru ha he
theorem kpe_fld (K : PySem.W.Frag) (h : X.K = K) (he : PE X e ta) (hb : attributeBase e f X.env (eval e X.env) = eval e X.env) : PE X (.Attribute e f pos) (tFld K ta f) := h ▸ pe_fld he hb
theorem kpi_list (K : PySem.W.Frag) (h : X.K = K) {l : Expr} {tl : TE} (hl : PE X l tl) : PI X tg l (iList K tl) := h ▸ pi_list hl
theorem kpi_tup (K : PySem.W.Frag) (h : X.K = K) {l : Expr} {tl : TE} (hl : PE X l tl) : PI X tg l (iTup K tl) := h ▸ pi_tup hl
end

/-! ### rules, goal by goal -/
section
variable {K : PySem.W.Frag} {σ : L2.St} {H : Hp} {Q : VK} {QT : Bool → Hp → Prop} {QA : List V → Hp → Prop} {D : Ends} {t u u2 : TS} {ta tb te to ti : TE} {c c1 c2 : TT} {tl tr : TA} {r : R2} {v x y : V} {i : Nat}
theorem seq (h : t { D with nx := u D } σ H) : tSeq t u D σ H := h
theorem seqA {g : TG} (h : te σ H fun x H1 => g x σ H1 (u D)) : tSeq (tAsg te g) u D σ H := h
theorem seqD (h : te σ H fun _ H1 => u D σ H1) : tSeq (tDrop te) u D σ H := h
theorem seqU {ip : TIp} (h : tAug i te ip { D with nx := u D } σ H) : tSeq (tAug i te ip) u D σ H := h
theorem seqP {j : Nat} (h : tPar i j tl { D with nx := u D } σ H) : tSeq (tPar i j tl) u D σ H := h
theorem seqI (h : c σ H fun b H1 => if b = true then t { D with nx := u2 D } σ H1 else u { D with nx := u2 D } σ H1) : tSeq (tIfS c t u) u2 D σ H := h
theorem parv {j : Nat} (h : tl σ H fun vs H1 => ∃ v w, vs = [v, w] ∧ D.nx ((σ.set i (some v)).set j (some w)) H1) : tPar i j tl D σ H := h
theorem augv {ip : TIp} (e : σ[i]? = some (some x)) (h : te σ H fun y H1 => ip x y H1 fun z H2 => D.nx (σ.set i (some z)) H2) : tAug i te ip D σ H := ⟨x, e, h⟩
theorem ipi {f : Int → Int → Int} {a b : Int} (h : Q (.int (f a b)) H) : ipI f (.int a) (.int b) H Q := ⟨a, b, rfl, rfl, h⟩
theorem nxk {f b k : L2.St → Hp → Prop} {r : VK} (h : f σ H) : Ends.nx ⟨f, r, b, k⟩ σ H := h
theorem rtk {f b k : L2.St → Hp → Prop} {r : VK} (h : r v H) : Ends.rt ⟨f, r, b, k⟩ v H := h
theorem bkk {f b k : L2.St → Hp → Prop} {r : VK} (h : b σ H) : Ends.bk ⟨f, r, b, k⟩ σ H := h
theorem ctk {f b k : L2.St → Hp → Prop} {r : VK} (h : k σ H) : Ends.ct ⟨f, r, b, k⟩ σ H := h
theorem ifK (k : ∀ Y Z : Hp → Prop, (∀ H1, t D σ H1 → Y H1) → (∀ H1, u D σ H1 → Z H1) → c σ H fun b H1 => if b = true then Y H1 else Z H1) : tIfS c t u D σ H := k _ _ (fun _ q => q) (fun _ q => q)
theorem seqR {P : L2.St → Hp → Prop} (h : ∀ σ H, P σ H → u D σ H) (k : ∀ U : L2.St → Hp → Prop, (∀ σ H, P σ H → U σ H) → t { D with nx := U } σ H) : tSeq t u D σ H := k _ h
theorem nxt (h : D.nx σ H) : tNext D σ H := h
theorem drop (h : te σ H fun _ H1 => D.nx σ H1) : tDrop te D σ H := h
theorem ret (h : te σ H D.rt) : tRet te D σ H := h
theorem ifs (h : c σ H fun b H1 => if b = true then t D σ H1 else u D σ H1) : tIfS c t u D σ H := h
theorem setv (h : te σ H fun x H1 => D.nx (σ.set i (some x)) H1) : tAsg te (gName i) D σ H := h
theorem sets {ts : TSet} (h : te σ H fun v H1 => to σ H1 fun o H2 => ti σ H2 fun i H3 => ts o i v H3 fun H4 => D.nx σ H4) : tAsg te (gSub to ti ts) D σ H := h
theorem gsb {QG : L2.St → Hp → Prop} {ts : TSet} (h : to σ H fun o H2 => ti σ H2 fun i H3 => ts o i v H3 fun H4 => QG σ H4) : gSub to ti ts v σ H QG := h
theorem gnm {QG : L2.St → Hp → Prop} (h : QG (σ.set i (some v)) H) : gName i v σ H QG := h
theorem var (e : σ[i]? = some (some v)) (h : Q v H) : tVar i σ H Q := ⟨v, e, h⟩
theorem cst (h : Q v H) : tC v σ H Q := h
theorem opr (h : ta σ H fun x H1 => tb σ H1 fun y H2 => r x y H2 Q) : tOp r ta tb σ H Q := h
theorem unr {r : V → Hp → VK → Prop} (h : ta σ H fun x H1 => r x H1 Q) : tUn r ta σ H Q := h
theorem tst (h : te σ H (kTest QT)) : tTest te σ H QT := h
theorem tbb (h : te σ H (kTest QT)) : tB te σ H QT := h
theorem exb {b : Bool} (h : QT b H) : kTest QT (.bl b) H := ⟨b, rfl, h⟩
theorem exi {j : Int} {QO : Option Int → Hp → Prop} (h : QO (some j) H) : kPart QO (.int j) H := ⟨j, rfl, h⟩
theorem tand (h : c1 σ H fun b H1 => if b = true then c2 σ H1 QT else QT false H1) : tAnd c1 c2 σ H QT := h
theorem tor (h : c1 σ H fun b H1 => if b = true then QT true H1 else c2 σ H1 QT) : tOr c1 c2 σ H QT := h
theorem tnot (h : c1 σ H fun b H1 => QT (!b) H1) : tNot c1 σ H QT := h
theorem tif (h : c1 σ H fun b H1 => if b = true then ta σ H1 Q else tb σ H1 Q) : tIf c1 ta tb σ H Q := h
theorem andv (h : ta σ H (kAnd tb σ Q)) : tAndV ta tb σ H Q := h
theorem orv (h : ta σ H (kOr tb σ Q)) : tOrV ta tb σ H Q := h
theorem kand {b : Bool} (h : if b = true then tb σ H Q else Q (.bl false) H) : kAnd tb σ Q (.bl b) H := ⟨b, rfl, h⟩
theorem kor {b : Bool} (h : if b = true then Q (.bl true) H else tb σ H Q) : kOr tb σ Q (.bl b) H := ⟨b, rfl, h⟩
theorem notv (h : ta σ H (kNot Q)) : tNotV ta σ H Q := h
theorem knot {b : Bool} (h : Q (.bl (!b)) H) : kNot Q (.bl b) H := ⟨b, rfl, h⟩
theorem tnil (h : QA [] H) : tNil σ H QA := h
theorem tcons (h : ta σ H fun x H1 => tr σ H1 fun xs H2 => QA (x :: xs) H2) : tCons ta tr σ H QA := h
theorem tcb {r : List V → Hp → VK → Prop} (h : tl σ H fun vs H1 => r vs H1 Q) : tCB r tl σ H Q := h
theorem tcall {sp : Sp} {dvs : List V} {E : XK} (h : tl σ H fun vs H1 => sp (vs ++ dvs) H1 Q E) : tCall sp dvs E tl σ H Q := h
theorem ttup (h : tl σ H fun xs H1 => xs.length ≤ sizeLine ∧ ∀ p, H1 p = none → Q (.ref p) (upd H1 p (.tup xs))) : tTup tl σ H Q := h
theorem tlst (h : tl σ H fun xs H1 => xs.length ≤ sizeLine ∧ ∀ p, H1 p = none → Q (.ref p) (upd H1 p (.lst xs))) : tLst tl σ H Q := h
theorem tbm {T : String} {r : V → List V → Hp → VK → Prop} (h : to σ H fun x H1 => tyV K T x H1 ∧ tl σ H1 fun xs H2 => r x xs H2 Q) : tBM K T r to tl σ H Q := h
theorem tbm0 {T : String} {r : V → List V → Hp → VK → Prop} (h : to σ H fun x H1 => tyV K T x H1 ∧ r x [] H1 Q) : tBM0 K T r to σ H Q := h
theorem tsl {r : V → Option Int → Option Int → Hp → VK → Prop} {t1 t2 : TO} (h : te σ H fun x H1 => t1 σ H1 fun l H2 => t2 σ H2 fun u H3 => r x l u H3 Q) : tSl r te t1 t2 σ H Q := h
theorem prt {QO : Option Int → Hp → Prop} (h : te σ H (kPart QO)) : tPart te σ H QO := h
theorem npr {QO : Option Int → Hp → Prop} (h : QO none H) : tNoPart σ H QO := h
theorem rI0' {g : Int → Int → V} {a b : Int} (h : Q (g a b) H) : rI0 g (.int a) (.int b) H Q := ⟨a, b, rfl, rfl, h⟩
theorem rI' {C : Int → Int → Prop} {g : Int → Int → V} {a b : Int} (hc : C a b) (h : Q (g a b) H) : rI C g (.int a) (.int b) H Q := ⟨a, b, rfl, rfl, hc, h⟩
theorem rU' {g : Int → V} {a : Int} (h : Q (g a) H) : rU g (.int a) H Q := ⟨a, rfl, h⟩
theorem req (hs : scal x y = true) (h : Q (.bl (decide (x = y))) H) : rEq x y H Q := ⟨hs, h⟩
theorem rne (hs : scal x y = true) (h : Q (.bl (!decide (x = y))) H) : rNe x y H Q := ⟨hs, h⟩
theorem ixl {p : Addr} {xs : List V} {j : Int} (hp : SqL K H p xs) (ha : atI xs j = some v) (h : Q v H) : rIxL K (.ref p) (.int j) H Q := ⟨p, xs, j, v, rfl, rfl, hp, ha, h⟩
theorem ixt {p : Addr} {xs : List V} {j : Int} (hp : SqT K H p xs) (ha : atI xs j = some v) (h : Q v H) : rIxT K (.ref p) (.int j) H Q := ⟨p, xs, j, v, rfl, rfl, hp, ha, h⟩
theorem setl {p : Addr} {xs : List V} {k : Int} {j : Nat} {QH : Hp → Prop} (hp : H p = some (.lst xs)) (hj : ixN xs.length k = some j) (h : QH (upd H p (.lst (xs.set j v)))) : rSetL (.ref p) (.int k) v H QH := ⟨p, xs, k, j, rfl, rfl, hp, hj, h⟩
theorem ins {neg : Bool} {p : Addr} {xs : List V} (hp : SqL K H p xs) (hx : flatV x = true) (ha : xs.all flatV = true) (h : Q (.bl (if neg then !inV x xs else inV x xs)) H) : rIn K neg x (.ref p) H Q := ⟨p, xs, rfl, .inl hp, hx, ha, h⟩
theorem inst {neg : Bool} {p : Addr} {xs : List V} (hp : SqT K H p xs) (hx : flatV x = true) (ha : xs.all flatV = true) (h : Q (.bl (if neg then !inV x xs else inV x xs)) H) : rIn K neg x (.ref p) H Q := ⟨p, xs, rfl, .inr hp, hx, ha, h⟩
theorem app {l : Addr} {xs : List V} (hl : H l = some (.lst xs)) (hn : xs.length < sizeLine) (h : Q .non (upd H l (.lst (xs ++ [y])))) : rAppend (.ref l) [y] H Q := ⟨l, xs, y, rfl, rfl, hl, hn, h⟩
theorem rvs {l : Addr} {xs : List V} (hl : H l = some (.lst xs)) (h : Q .non (upd H l (.lst xs.reverse))) : rReverse (.ref l) [] H Q := ⟨l, xs, rfl, rfl, hl, h⟩
theorem tyl {l : Addr} {xs : List V} {P : Prop} (hl : SqL K H l xs) (h : P) : tyV K "list" (.ref l) H ∧ P := ⟨.inl ⟨rfl, xs, hl⟩, h⟩
theorem sll {p : Addr} {xs : List V} {lo hi : Option Int} (hp : SqL K H p xs) (h : ∀ q, H q = none → Q (.ref q) (upd H q (.lst (cutV xs lo hi)))) : rSlL K (.ref p) lo hi H Q := ⟨p, xs, rfl, hp, h⟩
theorem cat {a b : Addr} {xs ys : List V} (h1 : H a = some (.lst xs)) (h2 : H b = some (.lst ys)) (hn : xs.length + ys.length ≤ sizeLine) (h : ∀ q, H q = none → Q (.ref q) (upd H q (.lst (xs ++ ys)))) : rCat (.ref a) (.ref b) H Q := ⟨a, b, xs, ys, rfl, rfl, h1, h2, hn, h⟩
theorem srtd {a : Addr} {ns : List Int} (h1 : SqL K H a (ns.map V.int)) (h : ∀ (ms : List Int) (q : Addr), ms.Perm ns → ms.Pairwise (· ≤ ·) → H q = none → Q (.ref q) (upd H q (.lst (ms.map V.int)))) : rSortedI K [.ref a] H Q := ⟨a, ns, rfl, h1, h⟩
theorem len_l {p : Addr} {xs : List V} (hp : SqL K H p xs) (h : Q (.int xs.length) H) : rLen K [.ref p] H Q := ⟨p, xs, rfl, .inl hp, h⟩
theorem len_t {p : Addr} {xs : List V} (hp : SqT K H p xs) (h : Q (.int xs.length) H) : rLen K [.ref p] H Q := ⟨p, xs, rfl, .inr hp, h⟩
theorem lst_l {p : Addr} {xs : List V} (hp : SqL K H p xs) (h : ∀ l, H l = none → Q (.ref l) (upd H l (.lst xs))) : rLst K [.ref p] H Q := ⟨p, xs, rfl, .inl hp, h⟩
theorem lst_t {p : Addr} {xs : List V} (hp : SqT K H p xs) (h : ∀ l, H l = none → Q (.ref l) (upd H l (.lst xs))) : rLst K [.ref p] H Q := ⟨p, xs, rfl, .inr hp, h⟩
theorem tup_l {p : Addr} {xs : List V} (hp : SqL K H p xs) (h : ∀ l, H l = none → Q (.ref l) (upd H l (.tup xs))) : rTupl K [.ref p] H Q := ⟨p, xs, rfl, .inl ⟨hp, h⟩⟩
theorem tup_t {p : Addr} {xs : List V} (hp : SqT K H p xs) (h : Q (.ref p) H) : rTupl K [.ref p] H Q := ⟨p, xs, rfl, .inr ⟨hp, h⟩⟩
theorem int_i {a : Int} (h : Q (.int a) H) : rInt [.int a] H Q := .inl ⟨a, rfl, h⟩
theorem abs_i {a : Int} (h : Q (.int (if a < 0 then -a else a)) H) : rAbs [.int a] H Q := ⟨a, rfl, h⟩
theorem max_i {a b : Int} (h : Q (.int (if b > a then b else a)) H) : rMax [.int a, .int b] H Q := ⟨a, b, rfl, h⟩
theorem min_i {a b : Int} (h : Q (.int (if b < a then b else a)) H) : rMin [.int a, .int b] H Q := ⟨a, b, rfl, h⟩
theorem adds {a b : Str} (hl : a.length + b.length ≤ sizeLine) (h : Q (.str (a ++ b)) H) : rAddStr (.str a) (.str b) H Q := ⟨a, b, rfl, rfl, hl, h⟩
theorem tru (h : te σ H (kTru K QT)) : tTruth K te σ H QT := h
theorem trl {p : Addr} {xs : List V} (hp : SqL K H p xs) (h : QT (!xs.isEmpty) H) : kTru K QT (.ref p) H := ⟨_, .inl ⟨xs, hp, rfl⟩, h⟩
theorem trt {p : Addr} {xs : List V} (hp : SqT K H p xs) (h : QT (!xs.isEmpty) H) : kTru K QT (.ref p) H := ⟨_, .inr (.inl ⟨xs, hp, rfl⟩), h⟩
theorem itT {A B : Prop} (h : A) : if true = true then A else B := by rw [if_pos rfl]; exact h
theorem itF {A B : Prop} (h : B) : if false = true then A else B := by rw [if_neg Bool.false_ne_true]; exact h
theorem itNT {A B : Prop} (h : B) : if (!true) = true then A else B := itF h
theorem itNF {A B : Prop} (h : A) : if (!false) = true then A else B := itT h
theorem itD {p : Prop} [Decidable p] {A B : Prop} (h1 : p → A) (h2 : ¬ p → B) : if decide p = true then A else B := by
  by_cases h : p
  · rw [if_pos (decide_eq_true h)]; exact h1 h
  · rw [if_neg (by rw [decide_eq_false h]; decide)]; exact h2 h
theorem itN {b : Bool} {A B : Prop} (h1 : b = false → A) (h2 : b = true → B) : if (!b) = true then A else B := by
  cases b with
  | true => exact itF (h2 rfl)
  | false => exact itT (h1 rfl)
theorem itB {b : Bool} {A B : Prop} (h1 : b = true → A) (h2 : b = false → B) : if b = true then A else B := by
  cases b with
  | true => exact itT (h1 rfl)
  | false => exact itF (h2 rfl)
end

/-! ### frames -/
/-- all but p is as it was -/
def Fr (p : Addr) (H H' : Hp) : Prop := ∀ b o, b ≠ p → H b = some o → H' b = some o
theorem Fr.refl (p : Addr) (H : Hp) : Fr p H H := fun _ _ _ h => h
theorem Fr.trans {p : Addr} {H H1 H2 : Hp} (a : Fr p H H1) (b : Fr p H1 H2) : Fr p H H2 := fun x o n h => b x o n (a x o n h)
theorem Fr.of {p : Addr} {H H' : Hp} (s : Same H H') : Fr p H H' := fun b o _ h => s b o h
theorem Fr.upd {p : Addr} {H H' : Hp} {o : HO} (f : Fr p H H') : Fr p H (upd H' p o) := fun b u n h => by rw [upd_ne n]; exact f b u n h
theorem Fr.l {K : PySem.W.Frag} {p a : Addr} {H H' : Hp} {xs : List V} (f : Fr p H H') (n : a ≠ p) (h : SqL K H a xs) : SqL K H' a xs := by
  rcases h with (h | ⟨o, h⟩) | h
  · exact .inl (.inl (f _ _ n h))
  · exact .inl (.inr ⟨o, f _ _ n h⟩)
  · exact .inr h
theorem Fr.t {K : PySem.W.Frag} {p a : Addr} {H H' : Hp} {xs : List V} (f : Fr p H H') (n : a ≠ p) (h : SqT K H a xs) : SqT K H' a xs := by
  rcases h with (h | ⟨o, h⟩) | h
  · exact .inl (.inl (f _ _ n h))
  · exact .inl (.inr ⟨o, f _ _ n h⟩)
  · exact .inr h
theorem same_new {H : Hp} {p : Addr} {o : HO} (h : H p = none) : Same H (upd H p o) := fun b x e => by
  rw [upd_ne (ne_of_none e h)]
  exact e
/-- an object that H does not know may change -/
theorem same_mut {H H' : Hp} {p : Addr} {o : HO} (s : Same H H') (h : H p = none) : Same H (upd H' p o) := fun a u ha => by
  rw [upd_ne (ne_of_none ha h)]
  exact s a u ha
theorem same_t {K : PySem.W.Frag} {H H' : Hp} {a : Addr} {xs : List V} (e : Same H H') (h : SqT K H a xs) : SqT K H' a xs := by
  rcases h with (h | ⟨o, h⟩) | h
  · exact .inl (.inl (e _ _ h))
  · exact .inl (.inr ⟨o, e _ _ h⟩)
  · exact .inr h
/-- what stood when g was new stands when g changes -/
theorem sq_mut {K : PySem.W.Frag} {H H' : Hp} {b g : Addr} {xs : List V} {o : HO} (h : SqL K H b xs) (hg : H g = none) (h' : SqL K H' b xs) : SqL K (upd H' g o) b xs := by
  by_cases e : b = g
  · subst e
    rcases h with (h | ⟨o, h⟩) | h
    · rw [hg] at h; cases h
    · rw [hg] at h; cases h
    · exact .inr h
  · rcases h' with (h' | ⟨o, h'⟩) | h'
    · exact .inl (.inl (by rw [upd_ne e]; exact h'))
    · exact .inl (.inr ⟨o, by rw [upd_ne e]; exact h'⟩)
    · exact .inr h'
/-- the heap without p -/
def wo (H : Hp) (p : Addr) : Hp := fun b => if b = p then none else H b
theorem wo_ne {H : Hp} {p b : Addr} (n : b ≠ p) : wo H p b = H b := by unfold wo; rw [if_neg n]
theorem wo_p {H : Hp} {p : Addr} : wo H p p = none := by unfold wo; rw [if_pos rfl]
theorem wo_same {H : Hp} {p : Addr} : Same (wo H p) H := fun b o e => by
  unfold wo at e
  split at e
  · cases e
  · exact e
theorem Fr.wo {p : Addr} {H H' : Hp} (f : Fr p H H') : Same (wo H p) (QB.wo H' p) := fun b o e => by
  by_cases n : b = p
  · subst n; rw [wo_p] at e; cases e
  · rw [wo_ne n] at e ⊢; exact f b o n e
theorem wo_upd {p : Addr} {H : Hp} {o : HO} : Same (wo H p) (wo (upd H p o) p) := Fr.wo ((Fr.refl p H).upd)

/-! ### defs as packages -/
structure Dd (K : PySem.W.Frag) (mg : Str → Option Value) (x : Str) (st : Stmt) (ps : List Str) : Prop where
  ex : ∃ (f : Addr) (fd : FuncData), C8.Def K mg x st f fd ∧ Binds K fd ps [] ∧ fd.defaults = .none
theorem dd_mk {K : PySem.W.Frag} {mg : Str → Option Value} {x : Str} {st : Stmt} {ps : List Str} {h : Heap} {f : Addr} {oc : Value} {od an : Option Addr} {osl : Array (Option Value)} {kV doc pm cdv ct : Value}
    (X : K.In h) (G : h.Ns mainGlobals mg) (a : PySem.W.nsIn K mainGlobals x = some (some (.ref f)))
    (l : K.lookup f = some ⟨oc, od, .func (PySem.W.fnOf x x (C8.fnArgs st) (C8.fnBody st) (C8.fnScope st) .none kV doc pm an cdv ct), osl⟩) (c : PySem.W.codeIn K cdv x = true) (k : PySem.W.keepIn K (.ref f) = true)
    (b : ∀ (kV doc pm : Value) (an : Option Addr) (cdv ct : Value) (us : List Value), us.length = ps.length → bindArgs (PySem.W.fnOf x x (C8.fnArgs st) (C8.fnBody st) (C8.fnScope st) .none kV doc pm an cdv ct) ⟨us, []⟩ = pure (ps.zip us)) : Dd K mg x st ps :=
  ⟨f, _, ⟨⟨_, _, _, _, _, _, _, _, _, _, rfl, l, c⟩, PySem.W.mg_of X G a, k⟩, .all (b kV doc pm an cdv ct), rfl⟩
theorem cal_of {P : Program} {w : World} {K : PySem.W.Frag} {mg : Str → Option Value} {base : Heap} {x : Str} {st : Stmt} {N ps : List Str} {k : Nat} {sp : Sp} (d : Dd K mg x st ps) (S : FnScope N ps (C8.fnScope st)) (len : ∀ vs H Q E, sp vs H Q E → vs.length = ps.length)
    (hbody : ∀ (f : Addr) (cdv : Value) (A : Around) (outer : List Env) (s : Shared) (H : Hp) (vs : List V) (Q : VK) (E : XK), Room k (A.deeper (envOfC x (C8.fnScope st) s.heap.objs.size f cdv)) → sp vs H Q E →
      ∃ t, PSs (cxOf CX0 P w K mg base N x (C8.fnScope st) f cdv A outer s H E).nox (C8.fnBody st) t ∧ t { nx := fun _ H' => Q .non H', rt := Q } (start N vs) H) : C8.Cal P w K mg base (k + 1) x sp [] := by
  obtain ⟨f, fd, F, b, _⟩ := d.ex
  exact C8.cal0 F b .nil S len (hbody f)
/-! ### ints in sequences -/
theorem idx_before : ∀ (ns : List Int) (x y : Int) (m : Nat), m < ns.idxOf x → ns[m]? = some y → y ≠ x
  | [], _, _, _, h, _ => by simp at h
  | z :: r, x, y, 0, h, e => by
    simp at e
    subst e
    intro e2
    subst e2
    simp at h
  | z :: r, x, y, m + 1, h, e => by
    rw [List.idxOf_cons] at h
    by_cases hz : z = x
    · subst hz; simp at h
    · have : (z == x) = false := by simp [hz]
      rw [this] at h
      simp at h e
      exact idx_before r x y m h e
theorem flat_ints (ns : List Int) : (ns.map V.int).all flatV = true := by simp [List.all_eq_true, flatV]
theorem in_ints (x : Int) (ns : List Int) : inV (.int x) (ns.map V.int) = decide (x ∈ ns) := by
  unfold inV
  induction ns with
  | nil => rfl
  | cons y r ih =>
    rw [List.map_cons, List.any_cons, ih]
    show ((y == x) || decide (x ∈ r)) = decide (x ∈ y :: r)
    by_cases h : y = x
    · subst h; simp
    · have h' : ¬ x = y := fun e => h e.symm
      simp [h, h']
section
variable {K : PySem.W.Frag} {σ : L2.St} {H : Hp} {Q : VK} {QT : Bool → Hp → Prop} {D : Ends} {t u tb : TS} {te : TE} {x : Int} {p : Addr} {ns : List Int} {g : TG} {A B : Prop} {v : V}
theorem inL (hp : SqL K H p (ns.map V.int)) (h : Q (.bl (decide (x ∈ ns))) H) : rIn K false (.int x) (.ref p) H Q := ⟨p, _, rfl, .inl hp, rfl, flat_ints ns, by rw [in_ints]; exact h⟩
theorem niL (hp : SqL K H p (ns.map V.int)) (h : Q (.bl (!decide (x ∈ ns))) H) : rIn K true (.int x) (.ref p) H Q := ⟨p, _, rfl, .inl hp, rfl, flat_ints ns, by rw [in_ints]; exact h⟩
theorem inT (hp : SqT K H p (ns.map V.int)) (h : Q (.bl (decide (x ∈ ns))) H) : rIn K false (.int x) (.ref p) H Q := ⟨p, _, rfl, .inr hp, rfl, flat_ints ns, by rw [in_ints]; exact h⟩
theorem niT (hp : SqT K H p (ns.map V.int)) (h : Q (.bl (!decide (x ∈ ns))) H) : rIn K true (.int x) (.ref p) H Q := ⟨p, _, rfl, .inr hp, rfl, flat_ints ns, by rw [in_ints]; exact h⟩
theorem idxL (hp : SqL K H p (ns.map V.int)) (hx : x ∈ ns) (h : Q (.int ((ns.idxOf x : Nat) : Int)) H) : rIndex K (.ref p) [.int x] H Q := by
  have hi := List.idxOf_lt_length_of_mem hx
  refine ⟨p, _, .int x, ns.idxOf x, .int x, rfl, rfl, hp, rfl, flat_ints ns, ?_, ?_, fun m z hm hz => ?_, h⟩
  · rw [List.getElem?_map, List.getElem?_eq_getElem hi, List.getElem_idxOf]; rfl
  · show (x == x) = true
    simp
  · rw [List.getElem?_map] at hz
    cases e : ns[m]? with
    | none => rw [e] at hz; cases hz
    | some y =>
      rw [e] at hz
      cases hz
      show (y == x) = false
      obtain ⟨hl, ey⟩ := List.getElem?_eq_some_iff.mp e
      have := idx_before ns x y m hm e
      simpa using this
theorem cut_take {xs : List V} {k : Nat} (h : k ≤ xs.length) : cutV xs none (some (k : Int)) = xs.take k := by
  unfold cutV
  rw [HT.sIx_nat, HT.sIx_none, Nat.min_eq_left h]
  simp
theorem cut_drop {xs : List V} {k : Nat} (h : k ≤ xs.length) : cutV xs (some (k : Int)) none = xs.drop k := by
  unfold cutV
  rw [HT.sIx_nat, HT.sIx_none, Nat.min_eq_left h]
  exact List.take_of_length_le (by rw [List.length_drop]; omega)
theorem itND {c : Prop} [Decidable c] (h1 : ¬ c → A) (h2 : c → B) : if (!decide c) = true then A else B := by
  by_cases h : c
  · rw [if_neg (by rw [decide_eq_true h]; decide)]; exact h2 h
  · rw [if_pos (by rw [decide_eq_false h]; rfl)]; exact h1 h
theorem len_map {f : Int → V} : ((ns.map f).length : Int) = (ns.length : Int) := by rw [List.length_map]
theorem at_ints {j : Int} {y : Int} (h0 : 0 ≤ j) (h : ns[j.toNat]? = some y) : atI (ns.map V.int) j = some (.int y) := at_of (j := j.toNat) (by omega) (by rw [List.getElem?_map, h]; rfl)
theorem at_any {xs : List V} {j : Int} {y : V} (h0 : 0 ≤ j) (h : xs[j.toNat]? = some y) : atI xs j = some y := at_of (j := j.toNat) (by omega) h
/-! ### for -/
def ForW (J : It) (g : TG) (tb : TS) (D : Ends) (σ : L2.St) (H : Hp) : Prop := ∃ W : Nat → Nat → L2.St → Hp → Prop, (∃ m, W 0 m σ H) ∧ ∀ i m σ H, W i m σ H →
  (J.stop i H ∧ D.nx σ H) ∨ (J.go i H ∧ ∃ N : L2.St → Hp → Prop, (∀ σ' H', N σ' H' → ∃ m', m' < m ∧ W (i + 1) m' σ' H') ∧ ∀ x H', J.yld i H x H' → g x σ H' fun σ2 H2 => tb { D with nx := N, ct := N, bk := D.nx } σ2 H2)
def kRng1 (g : TG) (tb : TS) (D : Ends) (σ : L2.St) : List V → Hp → Prop := fun vs H1 => ∃ j : Int, vs = [.int j] ∧ -(2 ^ 62) ≤ j ∧ j < 2 ^ 62 ∧ ForW (Itr 0 j.toNat) g tb D σ H1
def kRng2 (g : TG) (tb : TS) (D : Ends) (σ : L2.St) : List V → Hp → Prop := fun vs H1 => ∃ i j : Int, vs = [.int i, .int j] ∧ (-(2 ^ 62) ≤ i ∧ i < 2 ^ 62 ∧ -(2 ^ 62) ≤ j ∧ j < 2 ^ 62) ∧ ForW (Itr i (j - i).toNat) g tb D σ H1
def kLst (K : PySem.W.Frag) (g : TG) (tb : TS) (D : Ends) (σ : L2.St) : VK := fun x H1 => ∃ a, x = .ref a ∧ (∃ xs, SqL K H1 a xs) ∧ ForW (Itl K a) g tb D σ H1
def kTpl (K : PySem.W.Frag) (g : TG) (tb : TS) (D : Ends) (σ : L2.St) : VK := fun x H1 => ∃ a, x = .ref a ∧ (∃ xs, SqT K H1 a xs) ∧ ForW (Itt K a) g tb D σ H1
theorem f_rng1 {ta : TA} (h : ta σ H (kRng1 g tb D σ)) : tFor (iRng1 ta) g tb D σ H := h
theorem f_rng2 {ta : TA} (h : ta σ H (kRng2 g tb D σ)) : tFor (iRng2 ta) g tb D σ H := h
theorem f_lst (h : te σ H (kLst K g tb D σ)) : tFor (iList K te) g tb D σ H := h
theorem f_tup (h : te σ H (kTpl K g tb D σ)) : tFor (iTup K te) g tb D σ H := h
theorem fs_rng1 {ta : TA} (h : ta σ H (kRng1 g tb { D with nx := u D } σ)) : tSeq (tFor (iRng1 ta) g tb) u D σ H := h
theorem fs_rng2 {ta : TA} (h : ta σ H (kRng2 g tb { D with nx := u D } σ)) : tSeq (tFor (iRng2 ta) g tb) u D σ H := h
theorem fs_lst (h : te σ H (kLst K g tb { D with nx := u D } σ)) : tSeq (tFor (iList K te) g tb) u D σ H := h
theorem fs_tup (h : te σ H (kTpl K g tb { D with nx := u D } σ)) : tSeq (tFor (iTup K te) g tb) u D σ H := h
/-- for i in range(n): Pv by the turn; N: the next turn, B: behind the loop -/
theorem k_rng1 {j : Int} (Pv : Nat → L2.St → Hp → Prop) (b1 : -(2 ^ 62) ≤ j) (b2 : j < 2 ^ 62) (h0 : Pv 0 σ H)
    (hs : ∀ (i : Nat) σ H, (i : Int) < j → Pv i σ H → ∀ N B : L2.St → Hp → Prop, (∀ σ H, Pv (i + 1) σ H → N σ H) → (∀ σ H, D.nx σ H → B σ H) → g (.int (i : Int)) σ H fun σ2 H2 => tb ⟨N, D.rt, B, N⟩ σ2 H2)
    (hd : ∀ σ H, Pv j.toNat σ H → D.nx σ H) : kRng1 g tb D σ [.int j] H := by
  refine ⟨j, rfl, b1, b2, for_range (lo := 0) (n := j.toNat) Pv h0 (fun i σ H hi hp => ?_) hd⟩
  have e : (0 : Int) + (i : Int) = (i : Int) := Int.zero_add _
  rw [e]
  exact hs i σ H (by omega) hp _ _ (fun _ _ q => q) (fun _ _ q => q)
theorem k_rng2 {lo j : Int} (Pv : Nat → L2.St → Hp → Prop) (b : -(2 ^ 62) ≤ lo ∧ lo < 2 ^ 62 ∧ -(2 ^ 62) ≤ j ∧ j < 2 ^ 62) (h0 : Pv 0 σ H)
    (hs : ∀ (i : Nat) σ H, lo + (i : Int) < j → Pv i σ H → ∀ N B : L2.St → Hp → Prop, (∀ σ H, Pv (i + 1) σ H → N σ H) → (∀ σ H, D.nx σ H → B σ H) → g (.int (lo + (i : Int))) σ H fun σ2 H2 => tb ⟨N, D.rt, B, N⟩ σ2 H2)
    (hd : ∀ σ H, Pv (j - lo).toNat σ H → D.nx σ H) : kRng2 g tb D σ [.int lo, .int j] H := by
  refine ⟨lo, j, rfl, b, for_range (lo := lo) (n := (j - lo).toNat) Pv h0 (fun i σ H hi hp => ?_) hd⟩
  exact hs i σ H (by omega) hp _ _ (fun _ _ q => q) (fun _ _ q => q)
theorem k_lst {a : Addr} {xs : List V} (Pv : Nat → L2.St → Hp → Prop) (h0 : Pv 0 σ H) (hl : ∀ i σ H, Pv i σ H → SqL K H a xs)
    (hs : ∀ (i : Nat) x σ H, xs[i]? = some x → Pv i σ H → ∀ N B : L2.St → Hp → Prop, (∀ σ H, Pv (i + 1) σ H → N σ H) → (∀ σ H, D.nx σ H → B σ H) → g x σ H fun σ2 H2 => tb ⟨N, D.rt, B, N⟩ σ2 H2)
    (hd : ∀ σ H, Pv xs.length σ H → D.nx σ H) : kLst K g tb D σ (.ref a) H :=
  ⟨a, rfl, ⟨xs, hl 0 σ H h0⟩, for_list (K := K) (a := a) (xs := xs) Pv h0 (fun i σ H _ h => hl i σ H h) (fun i x σ H hx hp => hs i x σ H hx hp _ _ (fun _ _ q => q) (fun _ _ q => q)) hd⟩
theorem k_tpl {a : Addr} {xs : List V} (Pv : Nat → L2.St → Hp → Prop) (h0 : Pv 0 σ H) (hl : ∀ i σ H, Pv i σ H → SqT K H a xs)
    (hs : ∀ (i : Nat) x σ H, xs[i]? = some x → Pv i σ H → ∀ N B : L2.St → Hp → Prop, (∀ σ H, Pv (i + 1) σ H → N σ H) → (∀ σ H, D.nx σ H → B σ H) → g x σ H fun σ2 H2 => tb ⟨N, D.rt, B, N⟩ σ2 H2)
    (hd : ∀ σ H, Pv xs.length σ H → D.nx σ H) : kTpl K g tb D σ (.ref a) H :=
  ⟨a, rfl, ⟨xs, hl 0 σ H h0⟩, for_tup (K := K) (a := a) (xs := xs) Pv h0 (fun i σ H _ h => hl i σ H h) (fun i x σ H hx hp => hs i x σ H hx hp _ _ (fun _ _ q => q) (fun _ _ q => q)) hd⟩
/-! a list or a tuple -/
def iSeq (K : PySem.W.Frag) (tl : TE) : TI := fun σ H R => iList K tl σ H R ∨ iTup K tl σ H R
theorem pi_seq {X : Cx} {tg e : Expr} {tl : TE} (h : PE X e tl) : PI X tg e (iSeq X.K tl) := ⟨fun pins s σ H R I q => q.elim (fun q => (pi_list h).run pins s σ H R I q) fun q => (pi_tup h).run pins s σ H R I q⟩
theorem f_seq {a : Addr} {xs : List V} {i : Nat} (he : σ[i]? = some (some (.ref a))) (Pv : Nat → L2.St → Hp → Prop) (h0 : Pv 0 σ H) (hl : (∀ i σ H, Pv i σ H → SqL K H a xs) ∨ (∀ i σ H, Pv i σ H → SqT K H a xs))
    (hs : ∀ (i : Nat) x σ H, xs[i]? = some x → Pv i σ H → ∀ N B : L2.St → Hp → Prop, (∀ σ H, Pv (i + 1) σ H → N σ H) → (∀ σ H, D.nx σ H → B σ H) → g x σ H fun σ2 H2 => tb ⟨N, D.rt, B, N⟩ σ2 H2)
    (hd : ∀ σ H, Pv xs.length σ H → D.nx σ H) : tFor (iSeq K (tVar i)) g tb D σ H := by
  rcases hl with hl | hl
  · exact .inl ⟨_, he, k_lst (K := K) Pv h0 hl hs hd⟩
  · exact .inr ⟨_, he, k_tpl (K := K) Pv h0 hl hs hd⟩
/-! ### while -/
theorem k_while {c : TT} (Pv : L2.St → Hp → Prop) (μ : L2.St → Hp → Nat) (h0 : Pv σ H)
    (hs : ∀ σ H, Pv σ H → ∀ (Y : Hp → Prop) (Z : Hp → Prop), (∀ H1, (∀ N B : L2.St → Hp → Prop, (∀ σ' H', Pv σ' H' → μ σ' H' < μ σ H → N σ' H') → (∀ σ' H', D.nx σ' H' → B σ' H') → tb ⟨N, D.rt, B, N⟩ σ H1) → Y H1) → (∀ H1, D.nx σ H1 → Z H1) → c σ H fun b H1 => if b = true then Y H1 else Z H1)
    (mono : ∀ σ H Q Q', (∀ b H1, Q b H1 → Q' b H1) → c σ H Q → c σ H Q') : tWhile c tb D σ H := by
  refine while_by Pv μ h0 (fun σ H p => ?_) mono
  exact hs σ H p _ _ (fun H1 q => q _ _ (fun σ' H' p' l => ⟨p', l⟩) (fun _ _ q => q)) (fun H1 q => q)
/-! ### comprehensions -/
def LcW (J : It) (g : TG) (tt : TT) (te : TE) (vs : List Nat) (σ : L2.St) (H1 : Hp) (Q : VK) : Prop := ∀ D, H1 D = none → ∃ W : Nat → Nat → Hp → Prop, (∃ m, W 0 m (upd H1 D (.lst []))) ∧ ∀ i m H, W i m H →
  (J.stop i H ∧ Q (.ref D) H) ∨ (J.go i H ∧ ∃ Nx : Hp → Prop, (∀ H', Nx H' → ∃ m', m' < m ∧ W (i + 1) m' H') ∧ ∀ x H', J.yld i H x H' → g x (wipe σ vs) H' fun σ2 H2 => wipe σ2 vs = wipe σ vs ∧ tt σ2 H2 fun b H3 =>
    if b = true then te σ2 H3 fun y H4 => ∃ acc, H4 D = some (.lst acc) ∧ acc.length < sizeLine ∧ Nx (upd H4 D (.lst (acc ++ [y]))) else Nx H3)
def kcRng1 (g : TG) (tt : TT) (te : TE) (vs : List Nat) (σ : L2.St) (Q : VK) : List V → Hp → Prop := fun xs H1 => ∃ j : Int, xs = [.int j] ∧ -(2 ^ 62) ≤ j ∧ j < 2 ^ 62 ∧ LcW (Itr 0 j.toNat) g tt te vs σ H1 Q
def kcLst (K : PySem.W.Frag) (g : TG) (tt : TT) (te : TE) (vs : List Nat) (σ : L2.St) (Q : VK) : VK := fun x H1 => ∃ a, x = .ref a ∧ (∃ xs, SqL K H1 a xs) ∧ LcW (Itl K a) g tt te vs σ H1 Q
def kcTpl (K : PySem.W.Frag) (g : TG) (tt : TT) (te : TE) (vs : List Nat) (σ : L2.St) (Q : VK) : VK := fun x H1 => ∃ a, x = .ref a ∧ (∃ xs, SqT K H1 a xs) ∧ LcW (Itt K a) g tt te vs σ H1 Q
variable {tt : TT} {vs : List Nat} {tl : TE}
theorem c_rng1 {ta : TA} (h : ta σ H (kcRng1 g tt te vs σ Q)) : tLc (iRng1 ta) g tt te vs σ H Q := h
theorem c_lstL (h : tl σ H (kcLst K g tt te vs σ Q)) : tLc (iList K tl) g tt te vs σ H Q := h
theorem c_tupL (h : tl σ H (kcTpl K g tt te vs σ Q)) : tLc (iTup K tl) g tt te vs σ H Q := h
/-- over any iterator whose i-th item is xs[i] while G stands -/
theorem lcw {J : It} {xs : List V} (hsz : xs.length < sizeLine) (Pv : Addr → Nat → Hp → List V → Prop) (h0 : ∀ D, H D = none → Pv D 0 (upd H D (.lst [])) [])
    (hgo : ∀ D i H' acc, i < xs.length → Pv D i H' acc → J.go i H' ∧ ∀ x H2, J.yld i H' x H2 → H2 = H' ∧ xs[i]? = some x) (hst : ∀ D H' acc, Pv D xs.length H' acc → J.stop xs.length H')
    (hl : ∀ D i H' acc, Pv D i H' acc → H' D = some (.lst acc) ∧ acc.length ≤ i)
    (hs : ∀ D (i : Nat) x H' acc, xs[i]? = some x → Pv D i H' acc → ∀ (N : VK) (N0 : Hp → Prop), (∀ y H4, H4 D = some (.lst acc) → Pv D (i + 1) (upd H4 D (.lst (acc ++ [y]))) (acc ++ [y]) → N y H4) → (∀ H3, Pv D (i + 1) H3 acc → N0 H3) →
      g x (wipe σ vs) H' fun σ2 H2 => wipe σ2 vs = wipe σ vs ∧ tt σ2 H2 fun b H3 => if b = true then te σ2 H3 N else N0 H3)
    (hd : ∀ D H' acc, H D = none → Pv D xs.length H' acc → Q (.ref D) H') : LcW J g tt te vs σ H Q := by
  intro D hD
  refine ⟨fun i m H' => m = xs.length - i ∧ i ≤ xs.length ∧ ∃ acc, Pv D i H' acc, ⟨xs.length, by simp, Nat.zero_le _, [], h0 D hD⟩, ?_⟩
  rintro i m H' ⟨rfl, hi, acc, p⟩
  by_cases hlt : i < xs.length
  · obtain ⟨g1, g2⟩ := hgo D i H' acc hlt p
    refine .inr ⟨g1, fun H2 => ∃ acc, Pv D (i + 1) H2 acc, fun H2 p' => ⟨xs.length - (i + 1), by omega, rfl, hlt, p'⟩, fun x H2 y => ?_⟩
    obtain ⟨e, ex⟩ := g2 x H2 y
    subst e
    refine hs D i x _ acc ex p _ _ (fun y H4 e4 p4 => ⟨acc, e4, Nat.lt_of_le_of_lt (Nat.le_trans (hl D i _ acc p).2 hi) hsz, _, p4⟩) (fun H3 p3 => ⟨acc, p3⟩)
  · have e : i = xs.length := by omega
    subst e
    exact .inl ⟨hst D H' acc p, hd D H' acc hD p⟩
/-- the element and the test read what stood: f says what comes of an item -/
theorem lcp {J : It} {xs : List V} (hsz : xs.length < sizeLine) (f : V → Option V)
    (hgo : ∀ (i : Nat) H', i < xs.length → Same H H' → J.go i H' ∧ ∀ x H2, J.yld i H' x H2 → H2 = H' ∧ xs[i]? = some x) (hst : ∀ H', Same H H' → J.stop xs.length H')
    (hs : ∀ x H', x ∈ xs → Same H H' → ∀ (N : VK) (N0 : Hp → Prop), (∀ y, f x = some y → N y H') → (f x = none → N0 H') →
      g x (wipe σ vs) H' fun σ2 H2 => wipe σ2 vs = wipe σ vs ∧ tt σ2 H2 fun b H3 => if b = true then te σ2 H3 N else N0 H3)
    (hd : ∀ D H', H D = none → Same H H' → H' D = some (.lst (xs.filterMap f)) → Q (.ref D) H') : LcW J g tt te vs σ H Q := by
  refine lcw hsz (fun D i H' acc => H D = none ∧ Same H H' ∧ H' D = some (.lst acc) ∧ acc = (xs.take i).filterMap f) (fun D hD => ⟨hD, same_new hD, upd_same, by simp⟩)
    (fun D i H' acc hi p => hgo i H' hi p.2.1) (fun D H' acc p => hst H' p.2.1) (fun D i H' acc p => ⟨p.2.2.1, ?_⟩) (fun D i x H' acc hx p N N0 h1 h2 => ?_) (fun D H' acc hD p => ?_)
  · rw [p.2.2.2]
    exact Nat.le_trans (List.length_filterMap_le _ _) (by rw [List.length_take]; omega)
  · obtain ⟨hD, sm, hl, ha⟩ := p
    have ex : (xs.take (i + 1)).filterMap f = (xs.take i).filterMap f ++ (match f x with | some y => [y] | none => []) := by
      rw [List.take_add_one, hx, List.filterMap_append]
      cases hf : f x <;> simp [hf]
    refine hs x H' (List.mem_of_getElem? hx) sm N N0 (fun y hf => h1 y H' hl ⟨hD, same_mut sm hD, upd_same, ?_⟩) (fun hf => h2 H' ⟨hD, sm, hl, ?_⟩)
    · rw [ex, hf, ha]
    · rw [ex, hf, ha]; simp
  · obtain ⟨_, sm, hl, ha⟩ := p
    rw [ha, List.take_length] at hl
    exact hd D H' hD sm hl
/-- the same by places: R i the list behind i turns -/
theorem lcR {J : It} {xs : List V} (hsz : xs.length < sizeLine) (R : Nat → List V) (r0 : R 0 = [])
    (hgo : ∀ (i : Nat) H', i < xs.length → Same H H' → J.go i H' ∧ ∀ x H2, J.yld i H' x H2 → H2 = H' ∧ xs[i]? = some x) (hst : ∀ H', Same H H' → J.stop xs.length H')
    (hs : ∀ (i : Nat) x H', xs[i]? = some x → Same H H' → ∀ (N : VK) (N0 : Hp → Prop), (∀ y, R (i + 1) = R i ++ [y] → N y H') → (R (i + 1) = R i → N0 H') →
      g x (wipe σ vs) H' fun σ2 H2 => wipe σ2 vs = wipe σ vs ∧ tt σ2 H2 fun b H3 => if b = true then te σ2 H3 N else N0 H3)
    (hd : ∀ D H', H D = none → Same H H' → H' D = some (.lst (R xs.length)) → Q (.ref D) H') : LcW J g tt te vs σ H Q := by
  refine lcw hsz (fun D i H' acc => H D = none ∧ Same H H' ∧ H' D = some (.lst acc) ∧ acc = R i ∧ acc.length ≤ i) (fun D hD => ⟨hD, same_new hD, upd_same, r0.symm, Nat.le_refl _⟩)
    (fun D i H' acc hi p => hgo i H' hi p.2.1) (fun D H' acc p => hst H' p.2.1) (fun D i H' acc p => ⟨p.2.2.1, p.2.2.2.2⟩) (fun D i x H' acc hx p N N0 h1 h2 => ?_) (fun D H' acc hD p => ?_)
  · obtain ⟨hD, sm, hl, ha, hn⟩ := p
    refine hs i x H' hx sm N N0 (fun y hf => h1 y H' hl ⟨hD, same_mut sm hD, upd_same, by rw [hf, ha], by simp; omega⟩) (fun hf => h2 H' ⟨hD, sm, hl, by rw [hf, ha], by omega⟩)
  · obtain ⟨_, sm, hl, ha, _⟩ := p
    rw [ha] at hl
    exact hd D H' hD sm hl
/-- by places, new things may be made on the way -/
theorem lcRS {J : It} {xs : List V} (hsz : xs.length < sizeLine) (R : Nat → List V) (r0 : R 0 = [])
    (hgo : ∀ (i : Nat) H', i < xs.length → Same H H' → J.go i H' ∧ ∀ x H2, J.yld i H' x H2 → H2 = H' ∧ xs[i]? = some x) (hst : ∀ H', Same H H' → J.stop xs.length H')
    (hs : ∀ (i : Nat) x H', xs[i]? = some x → Same H H' → ∀ (N : VK) (N0 : Hp → Prop), (∀ y H4, Same H' H4 → R (i + 1) = R i ++ [y] → N y H4) → (∀ H3, Same H' H3 → R (i + 1) = R i → N0 H3) →
      g x (wipe σ vs) H' fun σ2 H2 => wipe σ2 vs = wipe σ vs ∧ tt σ2 H2 fun b H3 => if b = true then te σ2 H3 N else N0 H3)
    (hd : ∀ D H', H D = none → Same H H' → H' D = some (.lst (R xs.length)) → Q (.ref D) H') : LcW J g tt te vs σ H Q := by
  refine lcw hsz (fun D i H' acc => H D = none ∧ Same H H' ∧ H' D = some (.lst acc) ∧ acc = R i ∧ acc.length ≤ i) (fun D hD => ⟨hD, same_new hD, upd_same, r0.symm, Nat.le_refl _⟩)
    (fun D i H' acc hi p => hgo i H' hi p.2.1) (fun D H' acc p => hst H' p.2.1) (fun D i H' acc p => ⟨p.2.2.1, p.2.2.2.2⟩) (fun D i x H' acc hx p N N0 h1 h2 => ?_) (fun D H' acc hD p => ?_)
  · obtain ⟨hD, sm, hl, ha, hn⟩ := p
    refine hs i x H' hx sm N N0 (fun y H4 s4 hf => h1 y H4 (s4 _ _ hl) ⟨hD, same_mut (sm.trans s4) hD, upd_same, by rw [hf, ha], by simp; omega⟩) (fun H3 s3 hf => h2 H3 ⟨hD, sm.trans s3, s3 _ _ hl, by rw [hf, ha], by omega⟩)
  · obtain ⟨_, sm, hl, ha, _⟩ := p
    rw [ha] at hl
    exact hd D H' hD sm hl
theorem lst_go {a : Addr} {xs : List V} (hp : SqL K H a xs) : (∀ (i : Nat) H', i < xs.length → Same H H' → (Itl K a).go i H' ∧ ∀ x H2, (Itl K a).yld i H' x H2 → H2 = H' ∧ xs[i]? = some x) ∧ ∀ H', Same H H' → (Itl K a).stop xs.length H' :=
  ⟨fun i H' hi sm => ⟨⟨xs, xs[i], sm.seq hp, by simp [hi]⟩, fun x H2 y => ⟨y.1, y.2 xs (sm.seq hp)⟩⟩, fun H' sm => ⟨xs, sm.seq hp, Nat.le_refl _⟩⟩
theorem tup_go {a : Addr} {xs : List V} (hp : SqT K H a xs) : (∀ (i : Nat) H', i < xs.length → Same H H' → (Itt K a).go i H' ∧ ∀ x H2, (Itt K a).yld i H' x H2 → H2 = H' ∧ xs[i]? = some x) ∧ ∀ H', Same H H' → (Itt K a).stop xs.length H' :=
  ⟨fun i H' hi sm => ⟨⟨xs, xs[i], same_t sm hp, by simp [hi]⟩, fun x H2 y => ⟨y.1, y.2 xs (same_t sm hp)⟩⟩, fun H' sm => ⟨xs, same_t sm hp, Nat.le_refl _⟩⟩
def rngV (n : Nat) : List V := (List.range n).map fun i : Nat => V.int (i : Int)
theorem rng_go {n : Nat} : (∀ (i : Nat) H', i < (rngV n).length → Same H H' → (Itr 0 n).go i H' ∧ ∀ x H2, (Itr 0 n).yld i H' x H2 → H2 = H' ∧ (rngV n)[i]? = some x) ∧ ∀ H', Same H H' → (Itr 0 n).stop (rngV n).length H' := by
  have hl : (rngV n).length = n := by simp [rngV]
  refine ⟨fun i H' hi sm => ⟨by rw [hl] at hi; exact hi, fun x H2 y => ⟨y.1, ?_⟩⟩, fun H' sm => by rw [hl]; exact Nat.le_refl _⟩
  rw [y.2]
  rw [hl] at hi
  simp [rngV, hi]
theorem kc_lst {a : Addr} {xs : List V} (hp : SqL K H a xs) (hsz : xs.length < sizeLine) (f : V → Option V)
    (hs : ∀ x H', x ∈ xs → Same H H' → ∀ (N : VK) (N0 : Hp → Prop), (∀ y, f x = some y → N y H') → (f x = none → N0 H') → g x (wipe σ vs) H' fun σ2 H2 => wipe σ2 vs = wipe σ vs ∧ tt σ2 H2 fun b H3 => if b = true then te σ2 H3 N else N0 H3)
    (hd : ∀ D H', H D = none → Same H H' → H' D = some (.lst (xs.filterMap f)) → Q (.ref D) H') : kcLst K g tt te vs σ Q (.ref a) H :=
  ⟨a, rfl, ⟨xs, hp⟩, lcp hsz f (lst_go hp).1 (lst_go hp).2 hs hd⟩
theorem kc_tup {a : Addr} {xs : List V} (hp : SqT K H a xs) (hsz : xs.length < sizeLine) (f : V → Option V)
    (hs : ∀ x H', x ∈ xs → Same H H' → ∀ (N : VK) (N0 : Hp → Prop), (∀ y, f x = some y → N y H') → (f x = none → N0 H') → g x (wipe σ vs) H' fun σ2 H2 => wipe σ2 vs = wipe σ vs ∧ tt σ2 H2 fun b H3 => if b = true then te σ2 H3 N else N0 H3)
    (hd : ∀ D H', H D = none → Same H H' → H' D = some (.lst (xs.filterMap f)) → Q (.ref D) H') : kcTpl K g tt te vs σ Q (.ref a) H :=
  ⟨a, rfl, ⟨xs, hp⟩, lcp hsz f (tup_go hp).1 (tup_go hp).2 hs hd⟩
theorem kc_lstR {a : Addr} {xs : List V} (hp : SqL K H a xs) (hsz : xs.length < sizeLine) (R : Nat → List V) (r0 : R 0 = [])
    (hs : ∀ (i : Nat) x H', xs[i]? = some x → Same H H' → ∀ (N : VK) (N0 : Hp → Prop), (∀ y, R (i + 1) = R i ++ [y] → N y H') → (R (i + 1) = R i → N0 H') → g x (wipe σ vs) H' fun σ2 H2 => wipe σ2 vs = wipe σ vs ∧ tt σ2 H2 fun b H3 => if b = true then te σ2 H3 N else N0 H3)
    (hd : ∀ D H', H D = none → Same H H' → H' D = some (.lst (R xs.length)) → Q (.ref D) H') : kcLst K g tt te vs σ Q (.ref a) H :=
  ⟨a, rfl, ⟨xs, hp⟩, lcR hsz R r0 (lst_go hp).1 (lst_go hp).2 hs hd⟩
theorem kc_lstRS {a : Addr} {xs : List V} (hp : SqL K H a xs) (hsz : xs.length < sizeLine) (R : Nat → List V) (r0 : R 0 = [])
    (hs : ∀ (i : Nat) x H', xs[i]? = some x → Same H H' → ∀ (N : VK) (N0 : Hp → Prop), (∀ y H4, Same H' H4 → R (i + 1) = R i ++ [y] → N y H4) → (∀ H3, Same H' H3 → R (i + 1) = R i → N0 H3) → g x (wipe σ vs) H' fun σ2 H2 => wipe σ2 vs = wipe σ vs ∧ tt σ2 H2 fun b H3 => if b = true then te σ2 H3 N else N0 H3)
    (hd : ∀ D H', H D = none → Same H H' → H' D = some (.lst (R xs.length)) → Q (.ref D) H') : kcLst K g tt te vs σ Q (.ref a) H :=
  ⟨a, rfl, ⟨xs, hp⟩, lcRS hsz R r0 (lst_go hp).1 (lst_go hp).2 hs hd⟩
theorem kc_tupR {a : Addr} {xs : List V} (hp : SqT K H a xs) (hsz : xs.length < sizeLine) (R : Nat → List V) (r0 : R 0 = [])
    (hs : ∀ (i : Nat) x H', xs[i]? = some x → Same H H' → ∀ (N : VK) (N0 : Hp → Prop), (∀ y, R (i + 1) = R i ++ [y] → N y H') → (R (i + 1) = R i → N0 H') → g x (wipe σ vs) H' fun σ2 H2 => wipe σ2 vs = wipe σ vs ∧ tt σ2 H2 fun b H3 => if b = true then te σ2 H3 N else N0 H3)
    (hd : ∀ D H', H D = none → Same H H' → H' D = some (.lst (R xs.length)) → Q (.ref D) H') : kcTpl K g tt te vs σ Q (.ref a) H :=
  ⟨a, rfl, ⟨xs, hp⟩, lcR hsz R r0 (tup_go hp).1 (tup_go hp).2 hs hd⟩
theorem kc_rngR {j : Int} (b1 : 0 ≤ j) (b2 : j < 16777216) (R : Nat → List V) (r0 : R 0 = [])
    (hs : ∀ (i : Nat) H', (i : Int) < j → Same H H' → ∀ (N : VK) (N0 : Hp → Prop), (∀ y, R (i + 1) = R i ++ [y] → N y H') → (R (i + 1) = R i → N0 H') → g (.int (i : Int)) (wipe σ vs) H' fun σ2 H2 => wipe σ2 vs = wipe σ vs ∧ tt σ2 H2 fun b H3 => if b = true then te σ2 H3 N else N0 H3)
    (hd : ∀ D H', H D = none → Same H H' → H' D = some (.lst (R j.toNat)) → Q (.ref D) H') : kcRng1 g tt te vs σ Q [.int j] H := by
  have hl : (rngV j.toNat).length = j.toNat := by simp [rngV]
  refine ⟨j, rfl, by omega, by omega, lcR (xs := rngV j.toNat) (by rw [hl]; show j.toNat < 2 ^ 24; omega) R r0 rng_go.1 rng_go.2 (fun i x H' hx sm N N0 h1 h2 => ?_) (by rw [hl]; exact hd)⟩
  have hi : i < j.toNat := by rw [← hl]; exact (List.getElem?_eq_some_iff.mp hx).1
  have e : x = .int (i : Int) := by
    simp [rngV, hi] at hx
    exact hx.symm
  subst e
  exact hs i H' (by omega) sm N N0 h1 h2
theorem kc_rng {j : Int} (b1 : -(2 ^ 62) ≤ j) (b2 : j < 16777216) (f : V → Option V)
    (hs : ∀ (i : Nat) H', (i : Int) < j → Same H H' → ∀ (N : VK) (N0 : Hp → Prop), (∀ y, f (.int (i : Int)) = some y → N y H') → (f (.int (i : Int)) = none → N0 H') → g (.int (i : Int)) (wipe σ vs) H' fun σ2 H2 => wipe σ2 vs = wipe σ vs ∧ tt σ2 H2 fun b H3 => if b = true then te σ2 H3 N else N0 H3)
    (hd : ∀ D H', H D = none → Same H H' → H' D = some (.lst ((rngV j.toNat).filterMap f)) → Q (.ref D) H') : kcRng1 g tt te vs σ Q [.int j] H := by
  have hl : (rngV j.toNat).length = j.toNat := by simp [rngV]
  refine ⟨j, rfl, b1, by omega, lcp (xs := rngV j.toNat) (by rw [hl]; show j.toNat < 2 ^ 24; omega) f rng_go.1 rng_go.2 (fun x H' hx sm N N0 h1 h2 => ?_) hd⟩
  obtain ⟨i, hi, rfl⟩ := List.mem_map.mp hx
  exact hs i H' (by have := List.mem_range.mp hi; omega) sm N N0 h1 h2
theorem yes (h : QT true H) : tYes σ H QT := h
end
/-! ### data -/
mutual
theorem Dp.mono {K : PySem.W.Frag} {H H' : Hp} (s : Same H H') : ∀ {v : V} {d : PyData}, Dp K H v d → Dp K H' v d
  | _, _, .non => .non
  | _, _, .bl b => .bl b
  | _, _, .int i => .int i
  | _, _, .str x => .str x
  | _, _, .lst h a => .lst (s.seq h) (Dp.monoAll s a)
  | _, _, .tup h a => .tup (same_t s h) (Dp.monoAll s a)
theorem Dp.monoAll {K : PySem.W.Frag} {H H' : Hp} (s : Same H H') : ∀ {vs : List V} {ds : List PyData}, DpAll K H vs ds → DpAll K H' vs ds
  | _, _, .nil => .nil
  | _, _, .cons h t => .cons (Dp.mono s h) (Dp.monoAll s t)
end
theorem dp_ints {K : PySem.W.Frag} {H : Hp} : ∀ ns : List Int, DpAll K H (ns.map V.int) (ns.map PyData.int)
  | [] => .nil
  | n :: r => .cons (.int n) (dp_ints r)
theorem dp_app {K : PySem.W.Frag} {H : Hp} : ∀ {vs : List V} {ds : List PyData} {v : V} {d : PyData}, DpAll K H vs ds → Dp K H v d → DpAll K H (vs ++ [v]) (ds ++ [d])
  | _, _, _, _, .nil, h => .cons h .nil
  | _, _, _, _, .cons a b, h => .cons a (dp_app b h)
theorem dp_len {K : PySem.W.Frag} {H : Hp} : ∀ {vs : List V} {ds : List PyData}, DpAll K H vs ds → vs.length = ds.length
  | _, _, .nil => rfl
  | _, _, .cons _ b => by simp [dp_len b]
theorem dp_get {K : PySem.W.Frag} {H : Hp} : ∀ {vs : List V} {ds : List PyData} {i : Nat} {d : PyData}, DpAll K H vs ds → ds[i]? = some d → ∃ v, vs[i]? = some v ∧ Dp K H v d
  | _, _, _, _, .nil, h => by simp at h
  | _, _, 0, _, .cons a b, h => by simp at h; subst h; exact ⟨_, rfl, a⟩
  | _, _, i + 1, _, .cons a b, h => by simp at h; simpa using dp_get b h
theorem same_upd2 {G H : Hp} {t : Addr} {o : HO} (s : Same G H) : Same (upd G t o) (upd H t o) := fun b u e => by
  by_cases h : b = t
  · subst h; rw [upd_same] at e ⊢; exact e
  · rw [upd_ne h] at e ⊢; exact s b u e
/-! ### a dict of numbers by their order -/
def numsFrom : Nat → List Int → List (Key × V)
  | _, [] => []
  | n, v :: r => (.inl v, .int n) :: numsFrom (n + 1) r
theorem numsFrom_len : ∀ (s : List Int) (n : Nat), (numsFrom n s).length = s.length
  | [], _ => rfl
  | _ :: r, n => by simp [numsFrom, numsFrom_len r]
theorem numsFrom_val : ∀ (s : List Int) (n : Nat) (v : Int), valV (numsFrom n s) (.inl v) = if v ∈ s then some (.int ((n + s.idxOf v : Nat) : Int)) else none
  | [], _, _ => rfl
  | y :: r, n, v => by
    have ih := numsFrom_val r (n + 1) v
    unfold valV at ih ⊢
    rw [show numsFrom n (y :: r) = (Sum.inl y, V.int (n : Int)) :: numsFrom (n + 1) r from rfl, List.find?_cons]
    by_cases h : y = v
    · subst h
      simp
    · have h' : ¬ v = y := fun e => h e.symm
      have e1 : decide ((Sum.inl y : Key) = Sum.inl v) = false := decide_eq_false (fun e => h (Sum.inl.inj e))
      have e2 : (y == v) = false := by simp [h]
      simp only [e1, ih, List.idxOf_cons, e2, List.mem_cons, h', false_or]
      split <;> simp <;> omega
theorem numsFrom_snoc : ∀ (s : List Int) (n : Nat) (v : Int), numsFrom n (s ++ [v]) = numsFrom n s ++ [(.inl v, .int ((n + s.length : Nat) : Int))]
  | [], _, _ => rfl
  | y :: r, n, v => by
    show (_, _) :: numsFrom (n + 1) (r ++ [v]) = (_, _) :: (numsFrom (n + 1) r ++ _)
    rw [numsFrom_snoc r (n + 1) v]
    simp
    omega
/-! ### data: what == says -/
mutual
def plainD : PyData → Bool
  | .none => true
  | .int _ => true
  | .str _ => true
  | .list xs => plainDAll xs
  | .tuple xs => plainDAll xs
  | _ => false
def plainDAll : List PyData → Bool
  | [] => true
  | x :: xs => plainD x && plainDAll xs
end
mutual
theorem eqv_plain : ∀ (d e : PyData), plainD d = true → plainD e = true → (PyData.eqv d e = true ↔ d = e)
  | .none, e, _, h => by cases e <;> simp_all [PyData.eqv, plainD]
  | .int i, e, _, h => by cases e <;> simp_all [PyData.eqv, plainD]
  | .str x, e, _, h => by cases e <;> simp_all [PyData.eqv, plainD]
  | .list xs, e, hd, h => by
    cases e with
    | list ys =>
      have := eqv_plainAll xs ys (by simpa [plainD] using hd) (by simpa [plainD] using h)
      simp only [PyData.eqv, this, PyData.list.injEq]
    | _ => simp_all [PyData.eqv, plainD]
  | .tuple xs, e, hd, h => by
    cases e with
    | tuple ys =>
      have := eqv_plainAll xs ys (by simpa [plainD] using hd) (by simpa [plainD] using h)
      simp only [PyData.eqv, this, PyData.tuple.injEq]
    | _ => simp_all [PyData.eqv, plainD]
  | .bool _, _, h, _ => by simp [plainD] at h
  | .dict _, _, h, _ => by simp [plainD] at h
theorem eqv_plainAll : ∀ (ds es : List PyData), plainDAll ds = true → plainDAll es = true → (PyData.eqvAll ds es = true ↔ ds = es)
  | [], [], _, _ => by simp [PyData.eqvAll]
  | [], _ :: _, _, _ => by simp [PyData.eqvAll]
  | _ :: _, [], _, _ => by simp [PyData.eqvAll]
  | d :: ds, e :: es, h1, h2 => by
    simp only [plainDAll, Bool.and_eq_true] at h1 h2
    have a := eqv_plain d e h1.1 h2.1
    have b := eqv_plainAll ds es h1.2 h2.2
    simp only [PyData.eqvAll, Bool.and_eq_true, a, b, List.cons.injEq]
end
theorem eqv_dec {d e : PyData} [Decidable (d = e)] (h1 : plainD d = true) (h2 : plainD e = true) : PyData.eqv d e = decide (d = e) := by
  have := eqv_plain d e h1 h2
  by_cases h : d = e
  · rw [decide_eq_true h]; exact this.mpr h
  · rw [decide_eq_false h]
    cases hq : PyData.eqv d e with
    | true => exact absurd (this.mp hq) h
    | false => rfl
theorem plainAll_of : ∀ {ds : List PyData}, (∀ d ∈ ds, plainD d = true) → plainDAll ds = true
  | [], _ => rfl
  | d :: ds, h => by
    simp only [plainDAll, Bool.and_eq_true]
    exact ⟨h d List.mem_cons_self, plainAll_of fun x hx => h x (List.mem_cons_of_mem _ hx)⟩
theorem lay_of : ∀ {ds : List PyData}, (∀ d ∈ ds, PyData.canLay0 d = true) → PyData.canLayAll0 ds = true
  | [], _ => rfl
  | d :: ds, h => by
    simp only [PyData.canLayAll0, Bool.and_eq_true]
    exact ⟨h d List.mem_cons_self, lay_of fun x hx => h x (List.mem_cons_of_mem _ hx)⟩
theorem depth_of {n : Nat} : ∀ {ds : List PyData}, (∀ d ∈ ds, d.depth ≤ n) → PyData.depthAll ds ≤ n
  | [], _ => by simp [PyData.depthAll]
  | d :: ds, h => by
    simp only [PyData.depthAll]
    have h1 := h d List.mem_cons_self
    have h2 := depth_of fun x hx => h x (List.mem_cons_of_mem _ hx)
    omega
theorem shaped_t {ds : List PyData} (h : ∀ d ∈ ds, PyData.canLay0 d = true ∧ d.depth ≤ 63) : SeqAt.shaped (.tuple ds) = true := by
  unfold SeqAt.shaped
  rw [Bool.and_eq_true]
  refine ⟨by simp only [PyData.canLay0]; exact lay_of fun d hd => (h d hd).1, decide_eq_true ?_⟩
  simp only [PyData.depth]
  have := depth_of fun d hd => (h d hd).2
  omega
theorem shaped_l {ds : List PyData} (h : ∀ d ∈ ds, PyData.canLay0 d = true ∧ d.depth ≤ 63) : SeqAt.shaped (.list ds) = true := by
  unfold SeqAt.shaped
  rw [Bool.and_eq_true]
  refine ⟨by simp only [PyData.canLay0]; exact lay_of fun d hd => (h d hd).1, decide_eq_true ?_⟩
  simp only [PyData.depth]
  have := depth_of fun d hd => (h d hd).2
  omega
theorem shaped_ints_l (ns : List Int) : SeqAt.shaped (.list (ns.map PyData.int)) = true := shaped_l fun d hd => by
  obtain ⟨i, _, rfl⟩ := List.mem_map.mp hd
  exact ⟨rfl, by simp [PyData.depth]⟩
theorem shaped_ints_t (ns : List Int) : SeqAt.shaped (.tuple (ns.map PyData.int)) = true := shaped_t fun d hd => by
  obtain ⟨i, _, rfl⟩ := List.mem_map.mp hd
  exact ⟨rfl, by simp [PyData.depth]⟩
/-! ### isinstance -/
theorem isi {K : PySem.W.Frag} {H : Hp} {Q : VK} {x : V} {T C : String} {b : Bool} (ht : TyX K H x (.type T)) (hk : kitB T C = some b) (h : Q (.bl b) H) : rIsi K [x, .ty C] H Q := ⟨x, .ty C, .type T, .type C, b, rfl, .ty C, ht, kit_ty hk, h⟩
theorem ty_of_t {K : PySem.W.Frag} {H : Hp} {a : Addr} {xs : List V} (h : H a = some (.tup xs)) : TyX K H (.ref a) (.type "tuple") := .base (.tup h)
theorem ty_of_l {K : PySem.W.Frag} {H : Hp} {a : Addr} {xs : List V} (h : H a = some (.lst xs)) : TyX K H (.ref a) (.type "list") := .base (.lst h)
theorem ty_i {K : PySem.W.Frag} {H : Hp} {i : Int} : TyX K H (.int i) (.type "int") := .base (.int i)
theorem eqd {K : PySem.W.Frag} {H : Hp} {Q : VK} {x y : V} {d e : PyData} (h1 : Dp K H x d) (h2 : Dp K H y e) (s1 : SeqAt.shaped d = true) (s2 : SeqAt.shaped e = true) (h : Q (.bl (PyData.eqv d e)) H) : rEqD K x y H Q := ⟨d, e, h1, h2, s1, s2, h⟩
theorem ned {K : PySem.W.Frag} {H : Hp} {Q : VK} {x y : V} {d e : PyData} (h1 : Dp K H x d) (h2 : Dp K H y e) (s1 : SeqAt.shaped d = true) (s2 : SeqAt.shaped e = true) (h : Q (.bl (!PyData.eqv d e)) H) : rNeD K x y H Q := ⟨d, e, h1, h2, s1, s2, h⟩
/-! ### the laws' pool of draws -/
/-- the pool at p over the script at a -/
def Pool (K : PySem.W.Frag) (H : Hp) (p a : Addr) (ns : List Int) : Prop := SqL K (wo H p) a (ns.map V.int) ∧ ∃ i c s : Int, 0 ≤ i ∧ H p = some (.lst [.ref a, .int i, .int c, .int s])
def spDraw (K : PySem.W.Frag) : Sp := fun vs H Q _ => ∃ (p a : Addr) (ns : List Int) (m : Int), vs = [.ref p, .int m] ∧ 0 < m ∧ m < 2 ^ 60 ∧ Pool K H p a ns ∧ ∀ (r : Int) (H' : Hp), 0 ≤ r → r < m → Fr p H H' → Pool K H' p a ns → Q (.int r) H'
def spPick (K : PySem.W.Frag) : Sp := fun vs H Q _ => ∃ (p a l : Addr) (ns xs : List Int), vs = [.ref p, .ref l] ∧ Pool K H p a ns ∧ l ≠ p ∧ SqL K H l (xs.map V.int) ∧ 0 < xs.length ∧ xs.length < 1000 ∧ ∀ (x : Int) (H' : Hp), x ∈ xs → Fr p H H' → Pool K H' p a ns → Q (.int x) H'
def spNumber (K : PySem.W.Frag) : Sp := fun vs H Q _ => ∃ (p a : Addr) (ns : List Int), vs = [.ref p] ∧ Pool K H p a ns ∧ ∀ (x : Int) (H' : Hp), -1000000000 < x → x < 1000000000 → Fr p H H' → Pool K H' p a ns → Q (.int x) H'
def spKept (K : PySem.W.Frag) (m : Nat) : Sp := fun vs H Q _ => ∃ (p a : Addr) (ns : List Int), vs = [.ref p] ∧ Pool K H p a ns ∧ ∀ (l : Addr) (ks : List Int) (H' : Hp), H l = none → ks.Nodup → ks.length ≤ m → Fr p H H' → Pool K H' p a ns → H' l = some (.lst (ks.map V.int)) → Q (.ref l) H'
def spValues (K : PySem.W.Frag) : Sp := fun vs H Q _ => ∃ (p a l : Addr) (ns ks : List Int) (n : Nat), vs = [.ref p, .int n, .ref l] ∧ Pool K H p a ns ∧ l ≠ p ∧ SqL K H l (ks.map V.int) ∧ ks.length < 1000 ∧ n < 1000 ∧ ∀ (r : Addr) (xs : List Int) (H' : Hp), H r = none → xs.length = n → Fr p H H' → Pool K H' p a ns → H' r = some (.lst (xs.map V.int)) → Q (.ref r) H'
def spTaken (K : PySem.W.Frag) : Sp := fun vs H Q _ => ∃ (p a v l : Addr) (ns ks ws : List Int), vs = [.ref p, .ref v, .ref l] ∧ Pool K H p a ns ∧ l ≠ p ∧ v ≠ p ∧ SqL K H l (ks.map V.int) ∧ SqL K H v (ws.map V.int) ∧ ws.length < 1000 ∧ ∀ (r : Addr) (xs : List Int) (H' : Hp), H r = none → xs.length = ws.length → Fr p H H' → Pool K H' p a ns → H' r = some (.lst (xs.map V.int)) → Q (.ref r) H'
theorem wo_new {H : Hp} {p l : Addr} {o : HO} (hl : H l = none) : Same (wo H p) (wo (upd H l o) p) := (Fr.of (same_new hl)).wo
theorem Pool.fr {K : PySem.W.Frag} {H H' : Hp} {p a : Addr} {ns : List Int} {i c s : Int} (h : Pool K H p a ns) (f : Fr p H H') (hi : 0 ≤ i) (hp : H' p = some (.lst [.ref a, .int i, .int c, .int s])) : Pool K H' p a ns := ⟨f.wo.seq h.1, i, c, s, hi, hp⟩
theorem Pool.sq {K : PySem.W.Frag} {H : Hp} {p a : Addr} {ns : List Int} (h : Pool K H p a ns) : SqL K H a (ns.map V.int) := wo_same.seq h.1
theorem pool_mk {K : PySem.W.Frag} {H : Hp} {p a : Addr} {ns : List Int} {i c s : Int} (hS : SqL K H a (ns.map V.int)) (hp : H p = none) (hi : 0 ≤ i) : Pool K (upd H p (.lst [.ref a, .int i, .int c, .int s])) p a ns := by
  refine ⟨?_, i, c, s, hi, upd_same⟩
  rcases hS with (h | ⟨o, h⟩) | h
  · exact .inl (.inl (by rw [wo_ne (ne_of_none h hp), upd_ne (ne_of_none h hp)]; exact h))
  · exact .inl (.inr ⟨o, by rw [wo_ne (ne_of_none h hp), upd_ne (ne_of_none h hp)]; exact h⟩)
  · exact .inr h
/-- a new object, and then all but p as it was -/
theorem pool_new {K : PySem.W.Frag} {H : Hp} {p a l : Addr} {ns : List Int} {o : HO} (h : Pool K H p a ns) (hl : H l = none) : Pool K (upd H l o) p a ns := by
  obtain ⟨hS, i, c, s, h0, hp⟩ := h
  exact ⟨(wo_new hl).seq hS, i, c, s, h0, by rw [upd_ne (ne_of_none hp hl)]; exact hp⟩
/-- l is no part of the pool: it was new when the pool stood -/
theorem pool_mut {K : PySem.W.Frag} {H0 H : Hp} {p a l : Addr} {ns : List Int} {o : HO} (h0 : Pool K H0 p a ns) (hl : H0 l = none) (h : Pool K H p a ns) : Pool K (upd H l o) p a ns := by
  obtain ⟨hS, i, c, s, hi, hp⟩ := h
  obtain ⟨hS0, _, _, _, _, hp0⟩ := h0
  have np : p ≠ l := ne_of_none hp0 hl
  refine ⟨?_, i, c, s, hi, by rw [upd_ne np]; exact hp⟩
  have key : a = l → K.lookup a = K.lookup a ∧ SqL K (fun _ => Option.none) a (ns.map V.int) := fun e => by
    subst e
    have hw : wo H0 p a = Option.none := by rw [wo_ne np.symm]; exact hl
    refine ⟨rfl, ?_⟩
    rcases hS0 with (h' | ⟨o, h'⟩) | h'
    · rw [hw] at h'; cases h'
    · rw [hw] at h'; cases h'
    · exact .inr h'
  by_cases e : a = l
  · rcases (key e).2 with (h' | ⟨o, h'⟩) | h'
    · cases h'
    · cases h'
    · exact .inr h'
  · have eq : wo (upd H l o) p a = wo H p a := by
      unfold wo
      split
      · rfl
      · rw [upd_ne e]
    rcases hS with (h | ⟨o', h⟩) | h
    · exact .inl (.inl (by rw [eq]; exact h))
    · exact .inl (.inr ⟨o', by rw [eq]; exact h⟩)
    · exact .inr h
theorem pool_ne {K : PySem.W.Frag} {H : Hp} {p a l : Addr} {ns : List Int} (h : Pool K H p a ns) (hl : H l = none) : l ≠ p := by
  obtain ⟨_, _, _, _, _, hp⟩ := h
  exact (ne_of_none hp hl).symm
theorem Fr.mut {p l : Addr} {H H' : Hp} {o : HO} (f : Fr p H H') (h : H l = Option.none) : Fr p H (L2.upd H' l o) := fun b u n e => by rw [upd_ne (ne_of_none e h)]; exact f b u n e
theorem Fr.nne {p l : Addr} {H H' : Hp} (f : Fr p H H') (n : l ≠ p) (h : H' l = Option.none) : H l = Option.none := by
  cases e : H l with
  | none => rfl
  | some o => rw [f l o n e] at h; cases h
end QB

set_option Elab.async false
set_option linter.all false
set_option maxRecDepth 100000
set_option maxHeartbeats 4000000
/-! Own rules: objects of several classes under one promise (a method without arguments, ==), making without __init__. -/
namespace QC
open PySem PySem.Spec PyProof.Rows L2
section
variable {X : Cx} {pins : List (Addr × Obj)} {σ : L2.St} {H : Hp} {s : Shared}
theorem inst_of {a C dx : Addr} {fs : List (Str × V)} (I : Inv X pins σ H s) (h : H a = some (.ins C dx fs)) : ∃ ox od, PySem.W.InstAt s.heap a ox C od := by
  obtain ⟨mA, O, _⟩ := ins_get I.hok h
  obtain ⟨od, J, _⟩ := O.look
  exact ⟨_, _, J⟩
theorem met_raw {P : Program} {w : World} {K : PySem.W.Frag} {mg : Str → Option Value} {base : Heap} {k : Nat} {C : Addr} {m : Str} {sp : Sp} (c : C8.Met P w K mg base k C m sp []) : ∃ f, Cls K C ∧ Meth K C m f ∧ FnR P w K mg base CX0 k f sp := by
  obtain ⟨f, fd, ps, ds, hc, hm, F, hb, hd⟩ := c.ex
  refine ⟨f, hc, hm, ?_⟩
  have := F.raw hb hd
  refine this.imp fun vs H Q E h => ?_
  rw [List.append_nil]
  exact h
/-- o.m(), o an object of one of the classes C i, whose def m keeps the promise sp i -/
def kDyn {ι : Type} (C : ι → Addr) (m : Str) (sp : ι → Sp) (Q : VK) : VK := fun x H1 => ∃ i a dx fs, x = .ref a ∧ H1 a = some (.ins (C i) dx fs) ∧ fs.lookup m = none ∧ sp i [.ref a] H1 Q C8.E0
def tDyn0 {ι : Type} (C : ι → Addr) (m : Str) (sp : ι → Sp) (ta : TE) : TE := fun σ H Q => ta σ H (kDyn C m sp Q)
theorem pe_dyn0 {ι : Type} {C : ι → Addr} {k j : Nat} {o : Expr} {m : Str} {apos pos : Pos} {sp : ι → Sp} {ta : TE} {pl : Sem Bool} (c : ∀ i, C8.Met X.prog X.w X.K X.mg X.base k (C i) m (sp i) []) (hr : Room j X.A) (hk : k ≤ j) (he : PE X o ta)
    (shape : eval (.Call (.Attribute o m apos) [] [] pos) X.env = (do
      let ov ← eval o X.env
      standAt apos.atName
      let (f, first) ← holding [ov] (getMethod ov m pl)
      callWith pos f first (backTo pos (starEach [] X.env)) (backToKw pos (keywordEach [] X.env))) := by rfl) :
    PE X (.Call (.Attribute o m apos) [] [] pos) (tDyn0 C m sp ta) := by
  constructor
  intro pins s σ H Q I h
  refine PySem.W.methodCall_KW (pl := pl) (thn (he.run pins s σ H _ I h) fun u s1 h1 => ?_) shape
  obtain ⟨x, H1, I1, rx, i, a, dx, fs, rfl, ha, hl, q⟩ := h1
  obtain rfl : u = Value.ref a := rx
  obtain ⟨f, fd, ps, ds, hc, hm, F, hb, hd⟩ := (c i).ex
  refine getmeth_ok I1 ha hc hm hl ?_
  exact PySem.W.callWith_K0 (first := [.ref a]) I1.kIn hm.kp (run_fn (us := [.ref a]) (vs := [.ref a]) F (hr.mono hk) hb hd pass0 I1 (.cons rfl .nil) q)
/-- x == y by the __eq__ of x's class; y an object of these classes, or a text -/
def rDynEq {ι : Type} (K : PySem.W.Frag) (C : ι → Addr) (sp : ι → Sp) : R2 := fun x y H Q => ∃ i a dx fs, x = .ref a ∧ H a = some (.ins (C i) dx fs) ∧
  ((∃ b D dy gs, y = .ref b ∧ H b = some (.ins D dy gs) ∧ PySem.W.notFirst K (C i) (.ref D) = true) ∨ (∃ z, y = .str z ∧ PySem.W.notFirst K (C i) (.type "str") = true)) ∧ sp i [.ref a, y] H Q C8.E0
theorem op_dynEq {ι : Type} {C : ι → Addr} {k j : Nat} {sp : ι → Sp} (c : ∀ i, C8.Met X.prog X.w X.K X.mg X.base k (C i) "__eq__" (sp i) []) (hr : Room j X.A) (hk : k ≤ j) : OpR X (compareOp .Eq) (rDynEq X.K C sp) := by
  intro pins s σ H x y v u Q I rx ry h
  obtain ⟨i, a, dx, fs, rfl, ha, hy, q⟩ := h
  obtain rfl : v = Value.ref a := rx
  obtain ⟨f, hc, hm, F⟩ := met_raw (c i)
  obtain ⟨ox, od, J⟩ := inst_of I ha
  obtain ⟨m, hF⟩ := I.fr
  have run : wpAny (model X.prog X.w) X.A (call (.ref f) [.ref a, u]) (PySem.W.CmpBack (EP X pins σ Q)) X.xe s := by
    refine wpAny_mono (wpAny_call (run_fnR (us := [.ref a, u]) (vs := [.ref a, y]) F (hr.mono hk) pass0 I (.cons rfl (.cons ry .nil)) q)) (fun w s' z => ?_) fun _ _ e => e
    obtain ⟨z', H', I', rz, qz⟩ := z
    exact SlX.cmpback rz ⟨z', H', I', rz, qz⟩
  show wpAny _ _ (richCompare .Eq (.ref a) u) _ _ _
  rcases hy with ⟨b, D, dy, gs, rfl, hb, hn⟩ | ⟨z, rfl, hn⟩
  · obtain rfl : u = Value.ref b := ry
    obtain ⟨ob, od', J'⟩ := inst_of I hb
    exact PySem.W.cmp_K (op := .Eq) (tb := .ref D) hr.units0 hF I.ok.mod.kin J J'.type hn hm.at_ hm.fn run
  · obtain ⟨t, rfl⟩ := ry
    exact PySem.W.cmp_K (op := .Eq) (tb := .type "str") hr.units0 hF I.ok.mod.kin J (PySem.W.Looks.of_pure rfl) hn hm.at_ hm.fn run
/-- C(), a class without an __init__ of its own -/
def tMake0 (C : Addr) : TE := fun _ H Q => ∀ x dx, H x = none → H dx = none → dx ≠ x → Q (.ref x) (upd (upd H dx (.own x)) x (.ins C dx []))
theorem pe_mk00 {C : Addr} {x : Str} {p pos : Pos} (hmk : PySem.W.makesIn X.K C = true) (hin : PySem.W.findIn X.K (.ref C) "__init__" = some (some (.builtin "object.__init__"))) (hkp : PySem.W.keepIn X.K (.ref C) = true) (hg : Gl X x) (hm : X.mg x = some (.ref C))
    (hdb : (x == ("__debug__" : Str)) = false := by decide) : PE X (.Call (.Name x p) [] [] pos) (tMake0 C) := by
  constructor
  intro pins s σ H Q I h
  refine wpAny_Call_Name_kw (ld_glob I hg hm ?_ hdb)
  refine PySem.W.callWith_K0 I.kIn hkp (wpAny_call ?_)
  have fin := h (s.heap.objs.size + 1) s.heap.objs.size (I.hok.fresh (Nat.le_succ _)) (I.hok.fresh (Nat.le_refl _)) (Nat.ne_of_lt (Nat.lt_succ_self _))
  have I2 := Inv.made (C := C) I
  have Y := PySem.W.makes_of (M := model X.prog X.w) I.kIn hmk
  refine make_map0 I.kIn hmk hin (fun self => PySem.W.Looks.of_pure (PySem.W.oi_bind self)) ?_
  have at1 : ((s.heap.push PySem.W.emptyDict).push (PySem.W.instObj C s.heap.objs.size)).get? (s.heap.objs.size + 1) = some (PySem.W.instObj C s.heap.objs.size) := by
    have := Heap.get?_push_size (s.heap.push PySem.W.emptyDict) (o := PySem.W.instObj C s.heap.objs.size) rfl
    rwa [Heap.size_push] at this
  have ty : PySem.W.Looks (model X.prog X.w) ((s.heap.push PySem.W.emptyDict).push (PySem.W.instObj C s.heap.objs.size)) (typeOf (.ref (s.heap.objs.size + 1))) (.ref C) := (PySem.W.Looks.ld at1).andThen .now
  have isO : PySem.W.Looks (model X.prog X.w) ((s.heap.push PySem.W.emptyDict).push (PySem.W.instObj C s.heap.objs.size)) (isInstance (.ref (s.heap.objs.size + 1)) (.type "object")) true := ty.andThen (Y.top.keeps fun b o e => Heap.get?_push_of_some _ (Heap.get?_push_of_some _ e))
  refine codeAny_call_builtin PySem.W.oi_plain PySem.W.entry_oi (@PySem.W.check_slot (model X.prog X.w) _ _ _ "object.__init__" "object" "__init__" (.ref (s.heap.objs.size + 1)) [] [] _ PySem.W.oi_kind PySem.W.oi_split isO (PySem.W.oi_args (.ref (s.heap.objs.size + 1))) ?_)
  rw [PySem.W.oi_run]
  exact wpAny_pure (show PySem.W.InitBack (s.heap.objs.size + 1) _ (Except.ok (Flow.ret Value.none)) _ from ⟨rfl, V.ref _, _, I2, rfl, fin⟩)
end
/-! ### readings by name, rules goal by goal -/
def kFld (K : PySem.W.Frag) (f : Str) (Q : VK) : VK := fun x H1 => ∃ a C dx fs v, x = .ref a ∧ H1 a = some (.ins C dx fs) ∧ Cls K C ∧ NoAttr K C f ∧ fs.lookup f = some v ∧ Q v H1
def kSF (K : PySem.W.Frag) (f : Str) (y : V) (σ : L2.St) (R : L2.St → Hp → Prop) : VK := fun x H2 => ∃ a C dx fs, x = .ref a ∧ H2 a = some (.ins C dx fs) ∧ Cls K C ∧ NoAttr K C f ∧ fs.length < 1000 ∧ R σ (upd H2 a (.ins C dx (putF f y fs)))
def kMk (C : Addr) (sp : Sp) (dvs : List V) (E : XK) (Q : VK) : List V → Hp → Prop := fun vs H1 => ∀ x dx, H1 x = none → H1 dx = none → dx ≠ x → sp (.ref x :: (vs ++ dvs)) (upd (upd H1 dx (.own x)) x (.ins C dx [])) (fun v H2 => v = .non ∧ Q (.ref x) H2) E
def kJ (ts : List TE) (acc : Str) (σ : L2.St) (Q : Str → Hp → Prop) : VK := fun x H1 => ∃ y : Str, x = .str y ∧ (acc ++ y).length ≤ sizeLine ∧ tJs ts (acc ++ y) σ H1 Q
def kFmt (Q : VK) : VK := fun x H1 => (∃ y : Str, x = .str y ∧ y.length ≤ sizeLine ∧ Q (.str y) H1) ∨ ∃ i : Int, x = .int i ∧ i.natAbs.log2 < 1920 ∧ Q (.str (toString i)) H1
def tJoin (ts : List TE) : TE := fun σ H Q => tJs ts Str.empty σ H fun out H1 => Q (.str out) H1
def rStrI : List V → Hp → VK → Prop := fun xs H Q => ∃ i, xs = [.int i] ∧ i.natAbs.log2 < 1920 ∧ Q (.str (toString i)) H
section
variable {X : Cx}
theorem pe_join {v1 v2 : Expr} {rest : List Expr} {ts : List TE} {pos : Pos} (h : PJ X (v1 :: v2 :: rest) ts) : PE X (.JoinedStr (v1 :: v2 :: rest) pos) (tJoin ts) := pe_joined h
theorem c_strI : CallR X (.type "str") rStrI := call_str_int
end
section
variable {K : PySem.W.Frag} {σ : L2.St} {H : Hp} {Q : VK} {D : Ends} {ta tv : TE} {f : Str} {v y : V}
theorem fld (h : ta σ H (kFld K f Q)) : tFld K ta f σ H Q := h
theorem kfld {a C dx : Addr} {fs : List (Str × V)} (ha : H a = some (.ins C dx fs)) (hc : Cls K C ∧ NoAttr K C f) (hl : fs.lookup f = some v) (h : Q v H) : kFld K f Q (.ref a) H := ⟨a, C, dx, fs, v, rfl, ha, hc.1, hc.2, hl, h⟩
theorem sfld (h : tv σ H fun y H1 => ta σ H1 (kSF K f y σ D.nx)) : sFld K ta tv f D σ H := h
theorem sqfld {u : TS} (h : tv σ H fun y H1 => ta σ H1 (kSF K f y σ (u D))) : tSeq (sFld K ta tv f) u D σ H := h
theorem ksf {R : L2.St → Hp → Prop} {a C dx : Addr} {fs : List (Str × V)} (ha : H a = some (.ins C dx fs)) (hc : Cls K C ∧ NoAttr K C f) (hl : fs.length < 1000) (h : R σ (upd H a (.ins C dx (putF f y fs)))) : kSF K f y σ R (.ref a) H := ⟨a, C, dx, fs, rfl, ha, hc.1, hc.2, hl, h⟩
theorem dyn {ι : Type} {C : ι → Addr} {m : Str} {sp : ι → Sp} (h : ta σ H (kDyn C m sp Q)) : tDyn0 C m sp ta σ H Q := h
theorem mk {C : Addr} {sp : Sp} {dvs : List V} {E : XK} {t : TA} (h : t σ H (kMk C sp dvs E Q)) : tMake C sp dvs E t σ H Q := h
theorem join {ts : List TE} (h : tJs ts Str.empty σ H fun out H1 => Q (.str out) H1) : tJoin ts σ H Q := h
theorem jcons {t : TE} {ts : List TE} {acc : Str} {R : Str → Hp → Prop} (h : t σ H (kJ ts acc σ R)) : tJs (t :: ts) acc σ H R := h
theorem jnil {acc : Str} {R : Str → Hp → Prop} (h : R acc H) : tJs [] acc σ H R := h
theorem kj {ts : List TE} {acc y : Str} {R : Str → Hp → Prop} (hl : (acc ++ y).length ≤ sizeLine) (h : tJs ts (acc ++ y) σ H R) : kJ ts acc σ R (.str y) H := ⟨y, rfl, hl, h⟩
theorem fmt (h : ta σ H (kFmt Q)) : tFmt ta σ H Q := h
theorem kfs {y : Str} (hl : y.length ≤ sizeLine) (h : Q (.str y) H) : kFmt Q (.str y) H := .inl ⟨y, rfl, hl, h⟩
theorem kfi {i : Int} (hl : i.natAbs.log2 < 1920) (h : Q (.str (toString i)) H) : kFmt Q (.int i) H := .inr ⟨i, rfl, hl, h⟩
theorem stri {i : Int} (hl : i.natAbs.log2 < 1920) (h : Q (.str (toString i)) H) : rStrI [.int i] H Q := ⟨i, rfl, hl, h⟩
theorem adds {a b : Str} (hl : a.length + b.length ≤ sizeLine) (h : Q (.str (a ++ b)) H) : QB.rAddStr (.str a) (.str b) H Q := ⟨a, b, rfl, rfl, hl, h⟩
theorem ixs {z : Str} {i : Int} {c : Nat} (hz : z.length ≤ sizeLine) (ha : atI z.cps.toList i = some c) (h : Q (.str ⟨#[c]⟩) H) : rIxS (.str z) (.int i) H Q := ⟨z, i, c, rfl, rfl, hz, ha, h⟩
theorem isiO {x : V} {t : Value} {C : Addr} {b : Bool} (ht : TyX K H x t) (hk : PySem.W.kitOne K t (.ref C) = some b) (h : Q (.bl b) H) : rIsi K [x, .ref C] H Q := ⟨x, .ref C, t, .ref C, b, rfl, .own C, ht, hk, h⟩
theorem qs {a b : Str} (q : Q (.str b) H) (e : b = a) : Q (.str a) H := e ▸ q
theorem qb {a b : Bool} (q : Q (.bl b) H) (e : b = a) : Q (.bl a) H := e ▸ q
variable {g : TG} {tt : TT} {te : TE} {vs : List Nat}
theorem kc_rngW {j : Int} (b1 : 0 ≤ j) (b2 : j < 16777216) (Pv : Addr → Nat → Hp → List V → Prop) (h0 : ∀ D, H D = none → Pv D 0 (upd H D (.lst [])) [])
    (hl : ∀ D i H' acc, Pv D i H' acc → H' D = some (.lst acc) ∧ acc.length ≤ i)
    (hs : ∀ D (i : Nat) H' acc, (i : Int) < j → Pv D i H' acc → ∀ (N : VK) (N0 : Hp → Prop), (∀ y H4, H4 D = some (.lst acc) → Pv D (i + 1) (upd H4 D (.lst (acc ++ [y]))) (acc ++ [y]) → N y H4) → (∀ H3, Pv D (i + 1) H3 acc → N0 H3) →
      g (.int (i : Int)) (wipe σ vs) H' fun σ2 H2 => wipe σ2 vs = wipe σ vs ∧ tt σ2 H2 fun b H3 => if b = true then te σ2 H3 N else N0 H3)
    (hd : ∀ D H' acc, H D = none → Pv D j.toNat H' acc → Q (.ref D) H') : QB.kcRng1 g tt te vs σ Q [.int j] H := by
  have hn : (QB.rngV j.toNat).length = j.toNat := by simp [QB.rngV]
  refine ⟨j, rfl, by omega, by omega, QB.lcw (xs := QB.rngV j.toNat) (by rw [hn]; show j.toNat < 2 ^ 24; omega) Pv h0 (fun D i H' acc hi p => (QB.rng_go (H := H')).1 i H' hi (fun _ _ e => e)) (fun D H' acc p => (QB.rng_go (H := H')).2 H' (fun _ _ e => e)) hl (fun D i x H' acc hx p N N0 h1 h2 => ?_) (by rw [hn]; exact hd)⟩
  have hi : i < j.toNat := by rw [← hn]; exact (List.getElem?_eq_some_iff.mp hx).1
  have e : x = .int (i : Int) := by
    simp [QB.rngV, hi] at hx
    exact hx.symm
  subst e
  exact hs D i H' acc (by omega) p N N0 h1 h2
end
/-! ### what is new -/
def nw (H H' : Hp) : Hp := fun b => match H b with | none => H' b | some _ => none
theorem nw_some {H H' : Hp} {b : Addr} {o : HO} (h : nw H H' b = some o) : H b = none ∧ H' b = some o := by
  unfold nw at h
  cases e : H b with
  | none => rw [e] at h; exact ⟨rfl, h⟩
  | some u => rw [e] at h; cases h
theorem nw_mk {H H' : Hp} {b : Addr} {o : HO} (h1 : H b = none) (h2 : H' b = some o) : nw H H' b = some o := by
  unfold nw
  rw [h1]
  exact h2
theorem nw_sub {H H' : Hp} : Same (nw H H') H' := fun b o h => (nw_some h).2
theorem nw_none {H H' : Hp} {b : Addr} {u : HO} (h : H b = some u) : nw H H' b = none := by
  unfold nw
  rw [h]
/-- later: all but p is kept -/
theorem nw_fr {p : Addr} {H H1 H2 : Hp} {u : HO} (hp : H p = some u) (f : QB.Fr p H1 H2) : Same (nw H H1) (nw H H2) := fun b o h => by
  obtain ⟨h1, h2⟩ := nw_some h
  refine nw_mk h1 (f b o (fun e => ?_) h2)
  subst e
  rw [hp] at h1
  cases h1
/-- what is new since a later heap -/
theorem nw_lt {p : Addr} {H H1 H2 : Hp} {u : HO} (hp : H1 p = some u) (f : QB.Fr p H H1) : Same (nw H1 H2) (nw H H2) := fun b o h => by
  obtain ⟨h1, h2⟩ := nw_some h
  refine nw_mk ?_ h2
  cases e : H b with
  | none => rfl
  | some w =>
    have n : b ≠ p := fun e2 => by subst e2; rw [hp] at h1; cases h1
    rw [f b w n e] at h1
    cases h1
end QC

set_option Elab.async false
set_option linter.all false
set_option maxRecDepth 100000
set_option maxHeartbeats 4000000
/-! Own layer: promises of defs that are called where no repr is under way (guards known to be empty); repr of lists and tuples. -/
namespace QG
open PySem PySem.Spec PyProof.Rows L2
/-- FnOk where no repr is under way -/
structure FnG (P : Program) (w : World) (K : PySem.W.Frag) (mg : Str → Option Value) (base : Heap) (k : Nat) (f : Addr) (fd : FuncData) (ps : List Str) (sp : Sp) : Prop where
  len : ∀ vs H Q E, sp vs H Q E → vs.length = ps.length
  run : ∀ (A : Around) (outer : List Env) (s : Shared) (H : Hp) (args : Args) (us : List Value) (vs : List V) (Q : VK) (E : XK), A.guards = some [] → Room k A → Env0 P w K mg base A outer s H → BindsTo s fd args (ps.zip us) → Vals vs us → sp vs H Q E →
    codeAny (model P w) A (.call (.ref f) args) (CR CX0 outer P w H s Q E) s
theorem deeper_guards {A : Around} {env : Env} (h : A.guards = some []) : (A.deeper env).guards = some [] := h
section
variable {P : Program} {w : World} {K : PySem.W.Frag} {mg : Str → Option Value} {base : Heap}
/-- by its body -/
theorem fnG {x qual : Str} {st : Stmt} {f : Addr} {fd : FuncData} {N ps : List Str} {k : Nat} {sp : Sp} (F : C8.Fun K x qual st f fd) (S : FnScope N ps (C8.fnScope st)) (len : ∀ vs H Q E, sp vs H Q E → vs.length = ps.length)
    (hbody : ∀ (cdv : Value) (A : Around) (outer : List Env) (s : Shared) (H : Hp) (vs : List V) (Q : VK) (E : XK), (A.deeper (envOfC qual (C8.fnScope st) s.heap.objs.size f cdv)).guards = some [] → Room k (A.deeper (envOfC qual (C8.fnScope st) s.heap.objs.size f cdv)) → sp vs H Q E →
      ∃ t, PSs (cxOf CX0 P w K mg base N qual (C8.fnScope st) f cdv A outer s H E).nox (C8.fnBody st) t ∧ t { nx := fun _ H' => Q .non H', rt := Q } (start N vs) H) : FnG P w K mg base (k + 1) f fd ps sp := by
  obtain ⟨oc, od, dV, kV, doc, pm, an, cdv, ct, osl, rfl, lk, hcd⟩ := F.ex
  refine ⟨len, fun A outer s H args us vs Q E hg hr e0 hb r hsp => ?_⟩
  have low : ∀ b o, base.get? b = some o → s.heap.get? b = some o := fun b o e => (e0.bs b o e).1
  have KX : K.In s.heap := e0.mod.kin.keeps low
  refine codeAny_call_function hr.depth (KX _ _ lk) rfl S.co S.gen rfl (PySem.W.codeRec_of KX hcd) (hb _ _ _ _ ?_)
  refine wpAny_newFunctionEnv_cells S.kind (fun y hy => ?_) fun env he s1 x => ?_
  · rcases S.par y.1 (List.of_mem_zip (show (y.1, y.2) ∈ _ from hy)).1 with q | q
    · exact .inl q
    · exact .inr ⟨q, PySem.W.cellsFrom_some _ _ _ (.inl q)⟩
  · subst he
    refine ⟨(e0.mod.nolimit.keeps low).keeps x.toInCall.keep, codeAny_func ?_⟩
    obtain ⟨t, ht, hq⟩ := hbody cdv A outer s H vs Q E (deeper_guards hg) (hr.deeper _) hsp
    have I := inv_start (CX := CX0) (E := E) S hr.hd e0 (len _ _ _ _ hsp) r x
    refine wpAny_mono (ht.nox.run [] s1 (start N vs) H _ I hq) (fun fl s' hs => ?_) fun e s' hs => hs
    cases fl with
    | ret u =>
      obtain ⟨v, σ', H', J, rv, q⟩ := hs
      exact ⟨v, H', J.os, J.bare, J.base, J.hok, rv, q⟩
    | next =>
      obtain ⟨σ', H', J, q⟩ := hs
      exact ⟨.non, H', J.os, J.bare, J.base, J.hok, rfl, q⟩
    | brk =>
      obtain ⟨_, _, _, q⟩ := hs
      exact q.elim
    | cont =>
      obtain ⟨_, _, _, q⟩ := hs
      exact q.elim
/-- a def of the module -/
structure CalG (P : Program) (w : World) (K : PySem.W.Frag) (mg : Str → Option Value) (base : Heap) (k : Nat) (x : Str) (sp : Sp) : Prop where
  ex : ∃ (f : Addr) (fd : FuncData) (ps : List Str), FnG P w K mg base k f fd ps sp ∧ mg x = some (.ref f) ∧ PySem.W.keepIn K (.ref f) = true ∧ Binds K fd ps []
theorem calG_of {x : Str} {st : Stmt} {N ps : List Str} {k : Nat} {sp : Sp} (d : QB.Dd K mg x st ps) (S : FnScope N ps (C8.fnScope st)) (len : ∀ vs H Q E, sp vs H Q E → vs.length = ps.length)
    (hbody : ∀ (f : Addr) (cdv : Value) (A : Around) (outer : List Env) (s : Shared) (H : Hp) (vs : List V) (Q : VK) (E : XK), (A.deeper (envOfC x (C8.fnScope st) s.heap.objs.size f cdv)).guards = some [] → Room k (A.deeper (envOfC x (C8.fnScope st) s.heap.objs.size f cdv)) → sp vs H Q E →
      ∃ t, PSs (cxOf CX0 P w K mg base N x (C8.fnScope st) f cdv A outer s H E).nox (C8.fnBody st) t ∧ t { nx := fun _ H' => Q .non H', rt := Q } (start N vs) H) : CalG P w K mg base (k + 1) x sp := by
  obtain ⟨f, fd, F, b, _⟩ := d.ex
  exact ⟨f, fd, ps, fnG F.fn S len (hbody f), F.mgf, F.kp, b⟩
end
section
variable {X : Cx} {k j : Nat} {x : Str} {sp : Sp} {p pos : Pos} {e : Expr} {es : List Expr} {t : TA}
theorem run_fnG {pins : List (Addr × Obj)} {σ : L2.St} {H : Hp} {s : Shared} {Q : VK} {us : List Value} {vs : List V} {f : Addr} {fd : FuncData} {ps : List Str} (F : FnG X.prog X.w X.K X.mg X.base k f fd ps sp) (hG : X.A.guards = some []) (hr : Room k X.A) (hb : Binds X.K fd ps [])
    (I : Inv X pins σ H s) (r : Vals vs us) (h : sp vs H Q C8.E0) : wpAny (model X.prog X.w) X.A (call (.ref f) us) (EP X pins σ Q) X.xe s := by
  have hl : us.length = ps.length := by rw [← r.length]; exact F.len _ _ _ _ h
  have hb2 := hb s us I.kIn (by rw [List.append_nil]; exact hl)
  rw [List.append_nil] at hb2
  refine wpAny_call (codeAny_mono (F.run X.A X.stack s H ⟨us, []⟩ us vs Q C8.E0 hG hr I.env0 hb2 r h) fun r s' hq => ?_)
  cases r with
  | error e => exact False.elim hq
  | ok fl =>
    cases fl with
    | ret u => exact I.after hq
    | next => exact False.elim hq
    | brk => exact False.elim hq
    | cont => exact False.elim hq
theorem pe_cG (c : CalG X.prog X.w X.K X.mg X.base k x sp) (hG : X.A.guards = some []) (hr : Room j X.A) (hk : k ≤ j) (hg : Gl X x) (ha : PA X (e :: es) t)
    (hdb : (x == ("__debug__" : Str)) = false := by decide) (he : starEach (e :: es) X.env = (false, eval e X.env) :: starEach es X.env := by rfl) (hpl : (backTo pos (starEach es X.env)).any (·.1) = false := by rfl) :
    PE X (.Call (.Name x p) (e :: es) [] pos) (tCall sp [] C8.E0 t) := by
  obtain ⟨f, fd, ps, F, hm, kp, b⟩ := c.ex
  refine ⟨fun pins s σ H Q I h => ?_⟩
  refine wpAny_Call_Name_kw (ld_glob I hg hm ?_ hdb)
  refine PySem.W.callWith_K (h₀ := X.base) I.ok.mod.kin kp (thn (ha.run pos pins s σ H _ I h) fun us s1 ⟨vs, H1, I1, r, q⟩ => ⟨I1.kIn, ?_⟩) he hpl
  have q2 : sp vs H1 Q C8.E0 := by
    have q1 : sp (vs ++ []) H1 Q C8.E0 := q
    rwa [List.append_nil] at q1
  exact run_fnG F hG (hr.mono hk) b I1 r q2
/-- repr of data: lists and tuples of ints, texts, .. -/
def rRepr (K : PySem.W.Frag) : List V → Hp → VK → Prop := fun xs H Q => ∃ (a : Addr) (d : PyData), xs = [.ref a] ∧ Dp K H (.ref a) d ∧ d.showable = true ∧ d.hasDict = false ∧ d.depth ≤ 63 ∧ d.shown.length ≤ sizeLine ∧ Q (.str d.shown) H
theorem c_repr (hG : X.A.guards = some []) (hr : Room j X.A) : CallR X (.builtin "repr") (rRepr X.K) := by
  intro pins s σ H xs us Q I r h
  obtain ⟨a, d, rfl, hd, h1, h2, h3, h4, q⟩ := h
  obtain ⟨u, rfl, ru⟩ := vals1 r
  obtain rfl : u = Value.ref a := ru
  obtain ⟨as, R⟩ := Dp.reads I d _ _ hd rfl
  exact repr_of_reads' R h1 (fun e => by rw [h2] at e; cases e) hG (by have := hr.un; omega) (fun _ _ e => e) (fun h' u tk hk => ⟨.str d.shown, H, I.kept hk, ⟨u, rfl⟩, q⟩) h4
end
/-! ### the end: the law's call -/
theorem law_callG {P : Program} {w : World} {K : PySem.W.Frag} {mg mb : Str → Option Value} {k : Nat} {fa a : Addr} {fd : FuncData} {x : Str} {sp : Sp} {s₁ : Shared} {vs : List Value} {ns : List Int}
    (KX : K.In s₁.heap) (hns : s₁.heap.Ns mainGlobals mg) (hb : s₁.heap.Ns builtinsNs mb) (hbb : ∀ x : Str, x ≠ "__name__" → mb x = bootBuiltins x) (hlim : s₁.heap.NoLimit) (hg : s₁.gens = #[])
    (ha : s₁.heap.get? a = some { cls := .type "list", data := .seq vs.toArray }) (hi : IntsAre vs ns) (hl : ns.length ≤ sizeLine) (hr : Room k callerA)
    (F : ∀ base : Heap, K.In base → base.Ns mainGlobals mg → FnG P w K mg base k fa fd [x] sp) (hbind : ∀ (s : Shared) (u : Value), BindsTo s fd ⟨[u], []⟩ [(x, u)])
    (hsp : ∀ H : Hp, Only H → SqL K H a (ns.map V.int) → sp [.ref a] H (fun v _ => v = .bl true) fun _ _ _ => False) :
    codeAny (model P w) callerA (.call (.ref fa) ⟨[.ref a], []⟩) (fun r s' => r = .ok (.ret (.bool true)) ∧ OldK s₁.heap s'.heap ∧ s'.os = s₁.os ∧ AllBare s'.gens) s₁ := by
  have rv := vals_ints hi
  obtain ⟨H, hO, hS, hok, hA, hK⟩ : ∃ H : Hp, Only H ∧ SqL K H a (ns.map V.int) ∧ HOk P w H s₁.heap ∧ (∀ b u, H b = some u → b = a) ∧ (∀ u, H a = some u → K.lookup a = none) := by
    cases hk : K.lookup a with
    | some o =>
      have e := KX a o hk
      rw [ha] at e
      cases e
      exact ⟨fun _ => none, fun _ => .inl rfl, .inr ⟨_, vs.toArray, _, hk, rfl, rfl, rfl, by rw [List.size_toArray, hi.length]; exact hl, by simpa using rv⟩, (fun b u z => nomatch z), (fun b u z => nomatch z), (fun u z => nomatch z)⟩
    | none =>
      have one : ∀ b u, upd (fun _ => none) a (HO.frz { cls := .type "list", data := .seq vs.toArray } (.lst (ns.map V.int))) b = some u → b = a ∧ u = HO.frz { cls := .type "list", data := .seq vs.toArray } (.lst (ns.map V.int)) := fun b u z => by
        by_cases e : b = a
        · subst e; rw [upd_same] at z; cases z; exact ⟨rfl, rfl⟩
        · rw [upd_ne e] at z; cases z
      refine ⟨upd (fun _ => none) a (.frz { cls := .type "list", data := .seq vs.toArray } (.lst (ns.map V.int))), fun b => ?_, .inl (.inr ⟨{ cls := .type "list", data := .seq vs.toArray }, upd_same⟩), fun b u z => ?_, fun b u z => (one b u z).1, fun _ _ => rfl⟩
      · by_cases e : b = a
        · subst e; exact .inr ⟨_, _, upd_same⟩
        · exact .inl (upd_ne e)
      · obtain ⟨rfl, rfl⟩ := one b u z
        exact ⟨ha, by rw [List.length_map]; exact hl, vs, _, rv, ha⟩
  have at_ : ∀ {b : Addr} {o : Obj}, s₁.heap.get? b = some o → H b = none → (hidT s₁.heap H).get? b = some o := fun e n => hidT_get e n
  have nsK : ∀ {b : Addr} {m : Str → Option Value}, s₁.heap.Ns b m → (hidT s₁.heap H).Ns b m := fun {b m} ⟨o, es, ep, e, d, r⟩ => ⟨o, es, ep, at_ e (by
    cases z : H b with
    | none => rfl
    | some u =>
      obtain rfl := hA b u z
      rw [ha] at e
      cases e
      cases (show Data.seq vs.toArray _ = Data.dict es ep from d)), d, r⟩
  have hKb : K.In (hidT s₁.heap H) := fun b o e => at_ (KX b o e) (by
    cases z : H b with
    | none => rfl
    | some u =>
      obtain rfl := hA b u z
      rw [hK u z] at e
      cases e)
  have hM : Mod K mg (hidT s₁.heap H) := ⟨hKb, nsK hns, ⟨mb, nsK hb, hbb⟩, let ⟨mc, h1, h2⟩ := hlim; ⟨mc, nsK h1, h2⟩⟩
  have e0 : Env0 P w K mg (hidT s₁.heap H) callerA [] s₁ H := ⟨rfl, hM, fun b o e => of_hidT e, Nat.le_of_eq (hidT_size _ _), trivial, fun b z => absurd (show b ∈ ([] : List Addr) from z) (by simp), hok, .of_eq hg⟩
  refine codeAny_mono ((F _ hKb (nsK hns)).run callerA [] s₁ H ⟨[.ref a], []⟩ [.ref a] [.ref a] _ _ rfl hr e0 (hbind s₁ (.ref a)) (.cons rfl .nil) (hsp H hO hS)) fun r s' h => ?_
  match r, h with
  | .error e, h => exact False.elim h
  | .ok .next, h => exact False.elim h
  | .ok .brk, h => exact False.elim h
  | .ok .cont, h => exact False.elim h
  | .ok (.ret u), ⟨v, H', os, bare, un, hok', r', q⟩ =>
    obtain rfl : v = .bl true := q
    obtain rfl : u = Value.bool true := r'
    refine ⟨rfl, OldK.of_keep fun b o e => ?_, os, bare⟩
    cases z : H b with
    | none => exact un.keep b o e z (fun y => absurd (show b ∈ ([] : List Addr) from y) (by simp)) (by simp)
    | some u =>
      rcases hO b with y | ⟨ob, xs, y⟩
      · rw [z] at y; cases y
      · have e1 := (hok b _ y).1
        rw [e] at e1
        cases e1
        exact (hok' b _ (un.frzs b _ _ y)).1
theorem walk_ofG {l : PySem.W.OpenLaw} {n k : Nat} {q : Program} {loose : List Str} {XP : (Str → Option Value) → Heap → Prop} {YP : World → Heap → Prop} {d : DefRec} {K : Params → PySem.W.Frag} {sp : World → Sp} {x : Str}
    (hn : l.most = some n) (hn2 : n ≤ sizeLine) (hdf : d.params.defaults = []) (hr : Room k callerA)
    (hY : ∀ (w : World) (h : Heap), YP w h → (K w.params).In h)
    (F : ∀ (w : World) (mg : Str → Option Value) (fa : Addr) (h : Heap), (K w.params).In h → h.Ns mainGlobals mg → mg d.name = some (.ref fa) →
      ∃ fd : FuncData, (∀ (s : Shared) (u : Value), BindsTo s fd ⟨[u], []⟩ [(x, u)]) ∧
        ∀ base : Heap, (K w.params).In base → base.Ns mainGlobals mg → FnG l.prog w (K w.params) mg base k fa fd [x] (sp w))
    (hsp : ∀ (w : World) (H : Hp) (a : Addr) (ns : List Int), ns.length ≤ n → Only H → SqL (K w.params) H a (ns.map V.int) → sp w [.ref a] H (fun v _ => v = .bl true) fun _ _ _ => False) :
    PySem.W.WalkO q loose XP YP l.row.toRowW d [] (fun f vs => PySem.call f vs) := by
  refine Att.attach_call hn hdf fun w s₀ s₁ mg mb fa o pm cd doc a vs ns G Y ho hd hcd hmg hobj hints hlen hg => ?_
  obtain ⟨fd, hb, hF⟩ := F w mg fa _ (hY w _ Y) G.T.g hmg
  exact law_callG (hY w _ Y) G.T.g G.T.b G.T.builtins G.T.nolimit hg hobj hints (Nat.le_trans hlen hn2) hr hF hb (fun H hO hS => hsp w H a ns hlen hO hS)
end QG

set_option Elab.async false
set_option linter.all false
set_option maxRecDepth 100000
set_option maxHeartbeats 4000000
/-! Own rules: enumerate, targets that are tuples, join, insert, pop at a place, copies of dicts, xs[::-1], a, b = x, y with cells. -/
namespace QE
open PySem PySem.Spec PyProof.Rows L2
def rJoin (K : PySem.W.Frag) : V → List V → Hp → VK → Prop := fun x xs H Q => ∃ a p, ∃ ys : List Str, x = .str a ∧ xs = [.ref p] ∧ (SqL K H p (ys.map V.str) ∨ SqT K H p (ys.map V.str)) ∧ (ys.map (·.length)).sum + ys.length * a.length ≤ 16777216 ∧ Q (.str (Txt.join a ys)) H
def tStrJ (K : PySem.W.Frag) (to te : TE) : TE := tM1 (rJoin K) to te
def kJn (K : PySem.W.Frag) (te : TE) (σ : L2.St) (Q : VK) : VK := fun x H1 => (∃ a, x = .str a) ∧ te σ H1 fun y H2 => rJoin K x [y] H2 Q
def rDcp : List V → Hp → VK → Prop := fun xs H Q => ∃ (a : Addr) (kvs : List (Key × V)), xs = [.ref a] ∧ Rd H a (.dK kvs) ∧ ∀ p, H p = none → Q (.ref p) (upd H p (.dK kvs))
def rIns : V → List V → Hp → VK → Prop := fun x vs H Q => ∃ (l : Addr) (xs : List V) (i : Int) (y : V), x = .ref l ∧ vs = [.int i, y] ∧ H l = some (.lst xs) ∧ xs.length < sizeLine ∧ 0 ≤ i ∧ i < 2 ^ 63 ∧ Q .non (upd H l (.lst (xs.take i.toNat ++ [y] ++ xs.drop i.toNat)))
def kRev (K : PySem.W.Frag) (Q : VK) : VK := fun x H1 => ∃ a xs, x = .ref a ∧ SqL K H1 a xs ∧ ∀ p, H1 p = none → Q (.ref p) (upd H1 p (.lst xs.reverse))
section
variable {X : Cx} {o e : Expr} {to te : TE}
theorem pe_strJ {apos pos : Pos} (ho : PE X o to) (he : PE X e te) (hs : starEach [e] X.env = [(false, eval e X.env)] := by rfl) (hbase : attributeBase o "join" X.env (eval o X.env) = eval o X.env := by rfl) (hline : (apos.endLine == pos.line) = true := by rfl) :
    PE X (.Call (.Attribute o "join" apos) [e] [] pos) (tStrJ X.K to te) := L2.pe_join ho he hs hbase hline
theorem c_dcp : CallR X (.type "dict") rDcp := call_dictD
theorem m_ins : MtR X "list.insert" rIns := mt_insert
end
section
variable {K : PySem.W.Frag} {σ : L2.St} {H : Hp} {Q : VK} {D : Ends} {ta to te : TE} {g : TG} {tb : TS}
theorem strj (h : to σ H (kJn K te σ Q)) : tStrJ K to te σ H Q := h
theorem kjn {a : Str} (h : te σ H fun y H2 => rJoin K (.str a) [y] H2 Q) : kJn K te σ Q (.str a) H := ⟨⟨a, rfl⟩, h⟩
theorem joinL {a : Str} {p : Addr} {ys : List Str} (hp : SqL K H p (ys.map V.str)) (hz : (ys.map (·.length)).sum + ys.length * a.length ≤ 16777216) (h : Q (.str (Txt.join a ys)) H) : rJoin K (.str a) [.ref p] H Q := ⟨a, p, ys, rfl, rfl, .inl hp, hz, h⟩
theorem joinT {a : Str} {p : Addr} {ys : List Str} (hp : SqT K H p (ys.map V.str)) (hz : (ys.map (·.length)).sum + ys.length * a.length ≤ 16777216) (h : Q (.str (Txt.join a ys)) H) : rJoin K (.str a) [.ref p] H Q := ⟨a, p, ys, rfl, rfl, .inr hp, hz, h⟩
theorem dcp {a : Addr} {kvs : List (Key × V)} (ha : H a = some (.dK kvs)) (h : ∀ p, H p = none → Q (.ref p) (upd H p (.dK kvs))) : rDcp [.ref a] H Q := ⟨a, kvs, rfl, .inl ha, h⟩
theorem ins {l : Addr} {xs : List V} {i : Int} {y : V} (hl : H l = some (.lst xs)) (hz : xs.length < sizeLine) (h0 : 0 ≤ i) (h1 : i < 2 ^ 63) (h : Q .non (upd H l (.lst (xs.take i.toNat ++ [y] ++ xs.drop i.toNat)))) : rIns (.ref l) [.int i, y] H Q := ⟨l, xs, i, y, rfl, rfl, hl, hz, h0, h1, h⟩
theorem rev (h : te σ H (kRev K Q)) : tRevL K te σ H Q := h
theorem krev {a : Addr} {xs : List V} (hp : SqL K H a xs) (h : ∀ p, H p = none → Q (.ref p) (upd H p (.lst xs.reverse))) : kRev K Q (.ref a) H := ⟨a, xs, rfl, hp, h⟩
/-! targets -/
theorem gtup {n : Nat} {t : TGs} {a : Addr} {xs : List V} {QG : L2.St → Hp → Prop} (hp : SqT K H a xs) (hn : xs.length = n) (h : t xs σ H QG) : gTup K n t (.ref a) σ H QG := ⟨a, xs, rfl, hp, hn, h⟩
theorem gcons {t : TG} {u : TGs} {v : V} {r : List V} {QG : L2.St → Hp → Prop} (h : t v σ H fun σ' H' => u r σ' H' QG) : gCons t u (v :: r) σ H QG := ⟨v, r, rfl, h⟩
theorem gnil {QG : L2.St → Hp → Prop} (h : QG σ H) : gNil [] σ H QG := ⟨rfl, h⟩
theorem seqA2 {u : TS} (h : te σ H fun x H1 => g x σ H1 (u D)) : tSeq (tAsg te g) u D σ H := h
def kPar (σ : L2.St) (i j : Nat) (R : L2.St → Hp → Prop) : List V → Hp → Prop := fun vs H1 => ∃ v w, vs = [v, w] ∧ R ((σ.set i (some v)).set j (some w)) H1
theorem spar {u : TS} {i j : Nat} {tl : TA} (h : tl σ H (kPar σ i j (u D))) : tSeq (tPar i j tl) u D σ H := h
theorem kpar {i j : Nat} {R : L2.St → Hp → Prop} {v w : V} (h : R ((σ.set i (some v)).set j (some w)) H) : kPar σ i j R [v, w] H := ⟨v, w, rfl, h⟩
theorem tifR {c : TT} {ta tb : TE} (P : V → Hp → Prop) (hQ : ∀ x H', P x H' → Q x H') (k : ∀ Q' : VK, (∀ x H', P x H' → Q' x H') → tIf c ta tb σ H Q') : tIf c ta tb σ H Q := k Q hQ
/-! enumerate -/
def kEnum (K : PySem.W.Frag) (g : TG) (tb : TS) (D : Ends) (σ : L2.St) : List V → Hp → Prop := fun vs H1 => ∃ a xs, vs = [.ref a] ∧ SqL K H1 a xs ∧ QB.ForW (Ite K a) g tb D σ H1
theorem f_enum {ta : TA} (h : ta σ H (kEnum K g tb D σ)) : tFor (iEnum K ta) g tb D σ H := h
theorem fs_enum {ta : TA} {u : TS} (h : ta σ H (kEnum K g tb { D with nx := u D } σ)) : tSeq (tFor (iEnum K ta) g tb) u D σ H := h
theorem k_enum {a : Addr} {xs : List V} (Pv : Nat → L2.St → Hp → Prop) (h0 : Pv 0 σ H) (hl : ∀ i σ H, Pv i σ H → SqL K H a xs)
    (hs : ∀ (i : Nat) x T σ H, xs[i]? = some x → Pv i σ H → H T = none → ∀ N B : L2.St → Hp → Prop, (∀ σ H, Pv (i + 1) σ H → N σ H) → (∀ σ H, D.nx σ H → B σ H) → g (.ref T) σ (upd H T (.tup [.int (i : Nat), x])) fun σ2 H2 => tb ⟨N, D.rt, B, N⟩ σ2 H2)
    (hd : ∀ σ H, Pv xs.length σ H → D.nx σ H) : kEnum K g tb D σ [.ref a] H := by
  refine ⟨a, xs, rfl, hl 0 σ H h0, fun i m σ H => m = xs.length - i ∧ i ≤ xs.length ∧ Pv i σ H, ⟨xs.length, by simp, Nat.zero_le _, h0⟩, ?_⟩
  rintro i m σ H ⟨rfl, hi, hp⟩
  have hq := hl i σ H hp
  by_cases hlt : i < xs.length
  · refine .inr ⟨⟨xs, xs[i], hq, by simp [hlt]⟩, fun σ' H' => Pv (i + 1) σ' H', fun σ' H' p' => ⟨xs.length - (i + 1), by omega, rfl, hlt, p'⟩, ?_⟩
    rintro v H' ⟨T, x, rfl, hT, rfl, hx⟩
    exact hs i x T σ H (hx xs hq) hp hT _ _ (fun _ _ q => q) (fun _ _ q => q)
  · have e : i = xs.length := by omega
    subst e
    exact .inl ⟨⟨xs, hq, Nat.le_refl _⟩, hd σ H hp⟩
variable {tt : TT} {vs : List Nat}
def kcEnum (K : PySem.W.Frag) (g : TG) (tt : TT) (te : TE) (vs : List Nat) (σ : L2.St) (Q : VK) : List V → Hp → Prop := fun ws H1 => ∃ a xs, ws = [.ref a] ∧ SqL K H1 a xs ∧ QB.LcW (Ite K a) g tt te vs σ H1 Q
theorem c_enum {ta : TA} (h : ta σ H (kcEnum K g tt te vs σ Q)) : tLc (iEnum K ta) g tt te vs σ H Q := h
/-- by places; what stood stays -/
theorem kc_enum {a : Addr} {xs : List V} (hp : SqL K H a xs) (hsz : xs.length < sizeLine) (R : Nat → List V) (r0 : R 0 = [])
    (hs : ∀ (i : Nat) x T H', xs[i]? = some x → Same H H' → H' T = none → ∀ (N : VK) (N0 : Hp → Prop), (∀ y H4, Same (upd H' T (.tup [.int (i : Nat), x])) H4 → R (i + 1) = R i ++ [y] → N y H4) → (∀ H3, Same (upd H' T (.tup [.int (i : Nat), x])) H3 → R (i + 1) = R i → N0 H3) →
      g (.ref T) (wipe σ vs) (upd H' T (.tup [.int (i : Nat), x])) fun σ2 H2 => wipe σ2 vs = wipe σ vs ∧ tt σ2 H2 fun b H3 => if b = true then te σ2 H3 N else N0 H3)
    (hd : ∀ D H', H D = none → Same H H' → H' D = some (.lst (R xs.length)) → Q (.ref D) H') : kcEnum K g tt te vs σ Q [.ref a] H := by
  refine ⟨a, xs, rfl, hp, fun D hD => ⟨fun i m H' => m = xs.length - i ∧ i ≤ xs.length ∧ Same H H' ∧ H' D = some (.lst (R i)) ∧ (R i).length ≤ i, ⟨xs.length, by simp, Nat.zero_le _, QB.same_new hD, by rw [r0]; exact upd_same, by rw [r0]; simp⟩, ?_⟩⟩
  rintro i m H' ⟨rfl, hi, sm, hl, hn⟩
  have hq := sm.seq hp
  by_cases hlt : i < xs.length
  · refine .inr ⟨⟨xs, xs[i], hq, by simp [hlt]⟩, fun H2 => Same H H2 ∧ H2 D = some (.lst (R (i + 1))) ∧ (R (i + 1)).length ≤ i + 1, fun H2 p' => ⟨xs.length - (i + 1), by omega, rfl, hlt, p'⟩, ?_⟩
    rintro v H2 ⟨T, x, rfl, hT, rfl, hx⟩
    have sT : Same H' (upd H' T (.tup [.int (i : Nat), x])) := QB.same_new hT
    refine hs i x T H' (hx xs hq) sm hT _ _ (fun y H4 s4 e => ?_) (fun H3 s3 e => ?_)
    · refine ⟨R i, s4 _ _ (sT _ _ hl), ?_, QB.same_mut ((sm.trans sT).trans s4) hD, by rw [upd_same, e], by rw [e]; simp; omega⟩
      have : (R i).length ≤ xs.length := by omega
      omega
    · exact ⟨(sm.trans sT).trans s3, by rw [e]; exact s3 _ _ (sT _ _ hl), by rw [e]; omega⟩
  · have e : i = xs.length := by omega
    subst e
    exact .inl ⟨⟨xs, hq, Nat.le_refl _⟩, hd D H' hD sm hl⟩
theorem kc_lstW {a : Addr} {xs : List V} (hp : SqL K H a xs) (hsz : xs.length < sizeLine) (Pv : Addr → Nat → Hp → List V → Prop) (h0 : ∀ D, H D = none → Pv D 0 (upd H D (.lst [])) [])
    (hq : ∀ D i H' acc, Pv D i H' acc → SqL K H' a xs) (hl : ∀ D i H' acc, Pv D i H' acc → H' D = some (.lst acc) ∧ acc.length ≤ i)
    (hs : ∀ D (i : Nat) x H' acc, xs[i]? = some x → Pv D i H' acc → ∀ (N : VK) (N0 : Hp → Prop), (∀ y H4, H4 D = some (.lst acc) → Pv D (i + 1) (upd H4 D (.lst (acc ++ [y]))) (acc ++ [y]) → N y H4) → (∀ H3, Pv D (i + 1) H3 acc → N0 H3) →
      g x (wipe σ vs) H' fun σ2 H2 => wipe σ2 vs = wipe σ vs ∧ tt σ2 H2 fun b H3 => if b = true then te σ2 H3 N else N0 H3)
    (hd : ∀ D H' acc, H D = none → Pv D xs.length H' acc → Q (.ref D) H') : QB.kcLst K g tt te vs σ Q (.ref a) H :=
  ⟨a, rfl, ⟨xs, hp⟩, QB.lcw hsz Pv h0 (fun D i H' acc hi p => (QB.lst_go (hq D i H' acc p)).1 i H' hi (fun _ _ e => e)) (fun D H' acc p => (QB.lst_go (hq D _ H' acc p)).2 H' (fun _ _ e => e)) hl hs hd⟩
end
end QE

set_option Elab.async false
set_option linter.all false
set_option maxRecDepth 100000
set_option maxHeartbeats 4000000
/-! Own layer: trees. A value of the heap is read as a tree; defs are read as functions over trees; what a def alone holds may be changed. -/
namespace QT
open PySem PySem.Spec PyProof.Rows L2 QB
/-- a value as a tree -/
inductive T where
  | non | bl (b : Bool) | int (i : Int) | str (x : Str) | lst (xs : List T) | tup (xs : List T) | dct (kvs : List (Key × T)) | obj (c : Nat) (fs : List (Str × T)) | cls (c : Nat) | ty (n : String)
abbrev Oset := Addr → Prop
open Classical in
noncomputable def hide (H : Hp) (O : Oset) : Hp := fun a => if O a then none else H a
def Oset.add (O : Oset) (p : Addr) : Oset := fun a => a = p ∨ O a
def Oset.del (O : Oset) (p : Addr) : Oset := fun a => a ≠ p ∧ O a
section
variable {H H' H1 H2 : Hp} {O O' O1 O2 : Oset} {a b p : Addr} {o : HO}
theorem hide_some : hide H O a = some o ↔ ¬ O a ∧ H a = some o := by
  unfold hide
  by_cases h : O a <;> simp [h]
theorem hide_of (h : ¬ O a) (e : H a = some o) : hide H O a = some o := hide_some.mpr ⟨h, e⟩
theorem hide_sub : Same (hide H O) H := fun b u e => (hide_some.mp e).2
theorem hide_mono (h : ∀ p, O' p → O p) : Same (hide H O) (hide H O') := fun b u e => hide_of (fun x => (hide_some.mp e).1 (h b x)) (hide_some.mp e).2
theorem hide_upd (h : O p) : hide (upd H p o) O = hide H O := by
  funext b
  unfold hide
  by_cases hb : O b
  · simp [hb]
  · have : b ≠ p := fun e => hb (e ▸ h)
    simp [hb, upd_ne this]
theorem hide_new (h : H p = none) : Same (hide H O) (hide (upd H p o) (O.add p)) := fun b u e => by
  obtain ⟨h1, h2⟩ := hide_some.mp e
  have : b ≠ p := ne_of_none h2 h
  exact hide_of (fun x => x.elim this h1) (by rw [upd_ne this]; exact h2)
theorem hide_newv (h : H p = none) : Same (hide H O) (hide (upd H p o) O) := fun b u e => by
  obtain ⟨h1, h2⟩ := hide_some.mp e
  have : b ≠ p := ne_of_none h2 h
  exact hide_of h1 (by rw [upd_ne this]; exact h2)
end
/-! ### locks -/
def c1 : HO → HO
  | .frz _ u => u
  | o => o
def dic : HO → Prop
  | .dK _ => True
  | .dT _ => True
  | .set _ _ => True
  | _ => False
def Lk (o o' : HO) : Prop := o' = o ∨ (c1 o = c1 o' ∧ dic (c1 o))
def Le (H H' : Hp) : Prop := ∀ a o, H a = some o → ∃ o', H' a = some o' ∧ Lk o o'
theorem Le.of {H H' : Hp} (s : Same H H') : Le H H' := fun a o e => ⟨o, s a o e, .inl rfl⟩
theorem c1_of {u o : HO} (h : c1 o = u) (n : ∀ x y, u ≠ .frz x y) : o = u ∨ ∃ ob, o = .frz ob u := by
  cases o <;> simp [c1] at h <;> first | exact .inl h | exact .inr ⟨_, by rw [h]⟩
theorem Le.rd {H H' : Hp} {a : Addr} {u : HO} (l : Le H H') (n : ∀ x y, u ≠ .frz x y) (h : Rd H a u) : Rd H' a u := by
  rcases h with h | ⟨ob, h⟩
  · obtain ⟨o', e, rfl | ⟨k, _⟩⟩ := l a _ h
    · exact .inl e
    · have hu : c1 u = u := by cases u <;> first | rfl | exact absurd rfl (n _ _)
      rw [hu] at k
      rcases c1_of k.symm n with rfl | ⟨ob, rfl⟩
      · exact .inl e
      · exact .inr ⟨ob, e⟩
  · obtain ⟨o', e, rfl | ⟨k, _⟩⟩ := l a _ h
    · exact .inr ⟨ob, e⟩
    · rcases c1_of (show c1 o' = u from k.symm) n with rfl | ⟨ob, rfl⟩
      · exact .inl e
      · exact .inr ⟨ob, e⟩
theorem Le.sqL {K : PySem.W.Frag} {H H' : Hp} {a : Addr} {xs : List V} (l : Le H H') (h : SqL K H a xs) : SqL K H' a xs := by
  rcases h with h | h
  · exact .inl (l.rd (fun _ _ => by simp) h)
  · exact .inr h
theorem Le.sqT {K : PySem.W.Frag} {H H' : Hp} {a : Addr} {xs : List V} (l : Le H H') (h : SqT K H a xs) : SqT K H' a xs := by
  rcases h with h | h
  · exact .inl (l.rd (fun _ _ => by simp) h)
  · exact .inr h
theorem Le.ins {H H' : Hp} {a C dx : Addr} {fs : List (Str × V)} (l : Le H H') (h : H a = some (.ins C dx fs)) : H' a = some (.ins C dx fs) := by
  obtain ⟨o', e, rfl | ⟨_, k⟩⟩ := l a _ h
  · exact e
  · exact k.elim
/-! ### a tree in the heap -/
mutual
inductive Rp (K : PySem.W.Frag) (A : Nat → Addr) (H : Hp) : V → T → Prop
  | non : Rp K A H .non .non
  | bl (b : Bool) : Rp K A H (.bl b) (.bl b)
  | int (i : Int) : Rp K A H (.int i) (.int i)
  | str (x : Str) : Rp K A H (.str x) (.str x)
  | cls (c : Nat) : Rp K A H (.ref (A c)) (.cls c)
  | ty (n : String) : Rp K A H (.ty n) (.ty n)
  | lst {p : Addr} {vs : List V} {ts : List T} : SqL K H p vs → RpL K A H vs ts → Rp K A H (.ref p) (.lst ts)
  | tup {p : Addr} {vs : List V} {ts : List T} : SqT K H p vs → RpL K A H vs ts → Rp K A H (.ref p) (.tup ts)
  | dct {p : Addr} {vs : List (Key × V)} {ts : List (Key × T)} : Rd H p (.dK vs) → RpK K A H vs ts → Rp K A H (.ref p) (.dct ts)
  | obj {p dx : Addr} {c : Nat} {vs : List (Str × V)} {ts : List (Str × T)} : H p = some (.ins (A c) dx vs) → RpF K A H vs ts → Rp K A H (.ref p) (.obj c ts)
inductive RpL (K : PySem.W.Frag) (A : Nat → Addr) (H : Hp) : List V → List T → Prop
  | nil : RpL K A H [] []
  | cons {v : V} {t : T} {vs : List V} {ts : List T} : Rp K A H v t → RpL K A H vs ts → RpL K A H (v :: vs) (t :: ts)
inductive RpK (K : PySem.W.Frag) (A : Nat → Addr) (H : Hp) : List (Key × V) → List (Key × T) → Prop
  | nil : RpK K A H [] []
  | cons {k : Key} {v : V} {t : T} {vs : List (Key × V)} {ts : List (Key × T)} : Rp K A H v t → RpK K A H vs ts → RpK K A H ((k, v) :: vs) ((k, t) :: ts)
inductive RpF (K : PySem.W.Frag) (A : Nat → Addr) (H : Hp) : List (Str × V) → List (Str × T) → Prop
  | nil : RpF K A H [] []
  | cons {k : Str} {v : V} {t : T} {vs : List (Str × V)} {ts : List (Str × T)} : Rp K A H v t → RpF K A H vs ts → RpF K A H ((k, v) :: vs) ((k, t) :: ts)
end
section
variable {K : PySem.W.Frag} {A : Nat → Addr} {H H' : Hp}
mutual
theorem Rp.mono (s : Le H H') : ∀ {v : V} {t : T}, Rp K A H v t → Rp K A H' v t
  | _, _, .non => .non
  | _, _, .bl b => .bl b
  | _, _, .int i => .int i
  | _, _, .str x => .str x
  | _, _, .cls c => .cls c
  | _, _, .ty n => .ty n
  | _, _, .lst h a => .lst (s.sqL h) (RpL.mono s a)
  | _, _, .tup h a => .tup (s.sqT h) (RpL.mono s a)
  | _, _, .dct h a => .dct (s.rd (fun _ _ => by simp) h) (RpK.mono s a)
  | _, _, .obj h a => .obj (s.ins h) (RpF.mono s a)
theorem RpL.mono (s : Le H H') : ∀ {vs : List V} {ts : List T}, RpL K A H vs ts → RpL K A H' vs ts
  | _, _, .nil => .nil
  | _, _, .cons h t => .cons (Rp.mono s h) (RpL.mono s t)
theorem RpK.mono (s : Le H H') : ∀ {vs : List (Key × V)} {ts : List (Key × T)}, RpK K A H vs ts → RpK K A H' vs ts
  | _, _, .nil => .nil
  | _, _, .cons h t => .cons (Rp.mono s h) (RpK.mono s t)
theorem RpF.mono (s : Le H H') : ∀ {vs : List (Str × V)} {ts : List (Str × T)}, RpF K A H vs ts → RpF K A H' vs ts
  | _, _, .nil => .nil
  | _, _, .cons h t => .cons (Rp.mono s h) (RpF.mono s t)
end
theorem RpL.len : ∀ {vs : List V} {ts : List T}, RpL K A H vs ts → vs.length = ts.length
  | _, _, .nil => rfl
  | _, _, .cons _ t => by simp [RpL.len t]
theorem RpL.get : ∀ {vs : List V} {ts : List T} {i : Nat} {t : T}, RpL K A H vs ts → ts[i]? = some t → ∃ v, vs[i]? = some v ∧ Rp K A H v t
  | _, _, _, _, .nil, h => by simp at h
  | _, _, 0, _, .cons a b, h => by simp at h; subst h; exact ⟨_, rfl, a⟩
  | _, _, i + 1, _, .cons a b, h => by simp at h; simpa using RpL.get b h
theorem RpL.app : ∀ {vs ws : List V} {ts us : List T}, RpL K A H vs ts → RpL K A H ws us → RpL K A H (vs ++ ws) (ts ++ us)
  | _, _, _, _, .nil, h => h
  | _, _, _, _, .cons a b, h => .cons a (RpL.app b h)
theorem RpL.snoc {vs : List V} {ts : List T} {v : V} {t : T} (h : RpL K A H vs ts) (x : Rp K A H v t) : RpL K A H (vs ++ [v]) (ts ++ [t]) := h.app (.cons x .nil)
theorem RpL.take : ∀ {vs : List V} {ts : List T} (n : Nat), RpL K A H vs ts → RpL K A H (vs.take n) (ts.take n)
  | _, _, 0, _ => .nil
  | _, _, _ + 1, .nil => .nil
  | _, _, n + 1, .cons a b => .cons a (RpL.take n b)
theorem RpL.drop : ∀ {vs : List V} {ts : List T} (n : Nat), RpL K A H vs ts → RpL K A H (vs.drop n) (ts.drop n)
  | _, _, 0, h => h
  | _, _, _ + 1, .nil => .nil
  | _, _, n + 1, .cons a b => RpL.drop n b
theorem RpL.set {v : V} {t : T} (x : Rp K A H v t) : ∀ {vs : List V} {ts : List T} (n : Nat), RpL K A H vs ts → RpL K A H (vs.set n v) (ts.set n t)
  | _, _, _, .nil => .nil
  | _, _, 0, .cons _ b => .cons x b
  | _, _, n + 1, .cons a b => .cons a (RpL.set x n b)
theorem RpL.rev : ∀ {vs : List V} {ts : List T}, RpL K A H vs ts → RpL K A H vs.reverse ts.reverse
  | _, _, .nil => .nil
  | _, _, .cons a b => by simpa using (RpL.rev b).snoc a
theorem RpL.strs : ∀ {vs : List V} {xs : List Str}, RpL K A H vs (xs.map T.str) → vs = xs.map V.str
  | _, [], .nil => rfl
  | _, _ :: _, .cons (.str x) b => by simp [RpL.strs b]
theorem RpL.ints : ∀ {vs : List V} {xs : List Int}, RpL K A H vs (xs.map T.int) → vs = xs.map V.int
  | _, [], .nil => rfl
  | _, _ :: _, .cons (.int x) b => by simp [RpL.ints b]
theorem RpL.ofInts : ∀ (xs : List Int), RpL K A H (xs.map V.int) (xs.map T.int)
  | [] => .nil
  | x :: r => .cons (.int x) (RpL.ofInts r)
theorem RpL.ofStrs : ∀ (xs : List Str), RpL K A H (xs.map V.str) (xs.map T.str)
  | [] => .nil
  | x :: r => .cons (.str x) (RpL.ofStrs r)
theorem RpF.look : ∀ {vs : List (Str × V)} {ts : List (Str × T)} {f : Str} {t : T}, RpF K A H vs ts → ts.lookup f = some t → ∃ v, vs.lookup f = some v ∧ Rp K A H v t
  | _, _, _, _, .nil, h => by simp at h
  | _, _, f, t, .cons (k := k) a b, h => by
    rw [List.lookup_cons] at h ⊢
    cases e : f == k with
    | true => rw [e] at h; cases h; exact ⟨_, rfl, a⟩
    | false => rw [e] at h; exact RpF.look b h
theorem RpF.none : ∀ {vs : List (Str × V)} {ts : List (Str × T)} {f : Str}, RpF K A H vs ts → ts.lookup f = Option.none → vs.lookup f = Option.none
  | _, _, _, .nil, h => rfl
  | _, _, f, .cons (k := k) a b, h => by
    rw [List.lookup_cons] at h ⊢
    cases e : f == k with
    | true => rw [e] at h; cases h
    | false => rw [e] at h; exact RpF.none b h
def putT (f : Str) (t : T) : List (Str × T) → List (Str × T)
  | [] => [(f, t)]
  | (g, u) :: r => if g = f then (g, t) :: r else (g, u) :: putT f t r
theorem RpF.len : ∀ {vs : List (Str × V)} {ts : List (Str × T)}, RpF K A H vs ts → vs.length = ts.length
  | _, _, .nil => rfl
  | _, _, .cons _ t => by simp [RpF.len t]
end
/-- what stands at p, which is held -/
def Own1 (K : PySem.W.Frag) (A : Nat → Addr) (H Hh : Hp) (p : Addr) : T → Prop
  | .lst ts => ∃ vs, H p = some (.lst vs) ∧ RpL K A Hh vs ts
  | .dct ts => ∃ vs, H p = some (.dK vs) ∧ RpK K A Hh vs ts
  | .obj c ts => ∃ dx vs, H p = some (.ins (A c) dx vs) ∧ RpF K A Hh vs ts
  | _ => False
theorem Own1.some {K : PySem.W.Frag} {A : Nat → Addr} {H Hh : Hp} {p : Addr} {t : T} (h : Own1 K A H Hh p t) : H p ≠ none := by
  cases t <;> first | exact h.elim | (obtain ⟨_, h, _⟩ := h; rw [h]; simp) | (obtain ⟨_, _, h, _⟩ := h; rw [h]; simp)
theorem Own1.mono {K : PySem.W.Frag} {A : Nat → Addr} {H H' Hh Hh' : Hp} {p : Addr} {t : T} (h : Own1 K A H Hh p t) (e : H' p = H p) (l : Le Hh Hh') : Own1 K A H' Hh' p t := by
  cases t <;> first | exact h.elim | skip
  · obtain ⟨vs, h, r⟩ := h; exact ⟨vs, e.trans h, r.mono l⟩
  · obtain ⟨vs, h, r⟩ := h; exact ⟨vs, e.trans h, r.mono l⟩
  · obtain ⟨dx, vs, h, r⟩ := h; exact ⟨dx, vs, e.trans h, r.mono l⟩
theorem Own1.rp {K : PySem.W.Frag} {A : Nat → Addr} {H Hh : Hp} {p : Addr} {t : T} {O : Oset} (h : Own1 K A H Hh p t) (n : ¬ O p) (l : Le Hh (hide H O)) : Rp K A (hide H O) (.ref p) t := by
  cases t <;> first | exact h.elim | skip
  · obtain ⟨vs, h, r⟩ := h; exact .lst (.inl (.inl (hide_of n h))) (r.mono l)
  · obtain ⟨vs, h, r⟩ := h; exact .dct (.inl (hide_of n h)) (r.mono l)
  · obtain ⟨dx, vs, h, r⟩ := h; exact .obj (hide_of n h) (r.mono l)
/-! ### slots -/
inductive Sl where
  | no | val (t : T) | own (t : T) | io (t : T)
abbrev Rho := List Sl
def hold (ρ : Rho) (i : Nat) : Prop := ∃ t, ρ[i]? = some (.own t) ∨ ρ[i]? = some (.io t)
structure Fx where
  H0 : Hp
  O0 : Oset
  I : Oset
  σ0 : L2.St
structure Rel (K : PySem.W.Frag) (A : Nat → Addr) (G : Fx) (σ : L2.St) (H : Hp) (ρ : Rho) (O : Oset) : Prop where
  len : σ.length = ρ.length
  val : ∀ (i : Nat) (t : T), ρ[i]? = some (Sl.val t) → ∃ v, σ[i]? = some (some v) ∧ Rp K A (hide H O) v t
  own : ∀ (i : Nat) (t : T), ρ[i]? = some (Sl.own t) → ∃ p, σ[i]? = some (some (V.ref p)) ∧ O p ∧ ¬ G.O0 p ∧ Own1 K A H (hide H O) p t
  io : ∀ (i : Nat) (t : T), ρ[i]? = some (Sl.io t) → ∃ p, σ[i]? = some (some (V.ref p)) ∧ G.I p ∧ G.σ0[i]? = some (some (V.ref p)) ∧ Own1 K A H (hide H O) p t
  inj : ∀ (i j : Nat) (p : Addr), hold ρ i → hold ρ j → σ[i]? = some (some (V.ref p)) → σ[j]? = some (some (V.ref p)) → i = j
  dom : ∀ p, O p → H p ≠ none
  sub : ∀ p, G.O0 p → O p
  isub : ∀ p, G.I p → G.O0 p
  fr : ∀ p, G.O0 p → ¬ G.I p → H p = G.H0 p
  new : ∀ p, O p → ¬ G.O0 p → G.H0 p = none
  live : ∀ a, G.H0 a ≠ none → H a ≠ none
section
variable {K : PySem.W.Frag} {A : Nat → Addr} {G : Fx} {σ : L2.St} {H H' : Hp} {ρ ρ' : Rho} {O O' : Oset} {i : Nat} {p : Addr} {t t' : T} {v : V} {o : HO}
theorem Rel.held (r : Rel K A G σ H ρ O) (h : hold ρ i) : ∃ p t, σ[i]? = some (some (V.ref p)) ∧ O p ∧ Own1 K A H (hide H O) p t ∧ (ρ[i]? = some (Sl.own t) ∨ ρ[i]? = some (Sl.io t)) := by
  obtain ⟨t, h | h⟩ := h
  · obtain ⟨p, h1, h2, _, h3⟩ := r.own i t h; exact ⟨p, t, h1, h2, h3, .inl h⟩
  · obtain ⟨p, h1, h2, _, h3⟩ := r.io i t h; exact ⟨p, t, h1, r.sub p (r.isub p h2), h3, .inr h⟩
/-- the heap grows; what is held stays -/
theorem Rel.grow (r : Rel K A G σ H ρ O) (s : Le (hide H O) (hide H' O)) (k : ∀ p, O p → H' p = H p) (lv : ∀ a, H a ≠ none → H' a ≠ none) : Rel K A G σ H' ρ O where
  len := r.len
  val := fun i t e => let ⟨v, h1, h2⟩ := r.val i t e; ⟨v, h1, h2.mono s⟩
  own := fun i t e => let ⟨p, h1, h2, h3, h4⟩ := r.own i t e; ⟨p, h1, h2, h3, h4.mono (k p h2) s⟩
  io := fun i t e => let ⟨p, h1, h2, h3, h4⟩ := r.io i t e; ⟨p, h1, h2, h3, h4.mono (k p (r.sub p (r.isub p h2))) s⟩
  inj := r.inj
  dom := fun p e => lv p (r.dom p e)
  sub := r.sub
  isub := r.isub
  fr := fun p e n => (k p (r.sub p e)).trans (r.fr p e n)
  new := r.new
  live := fun a e => lv a (r.live a e)
theorem Rel.fresh (r : Rel K A G σ H ρ O) (h : H p = none) : ¬ O p ∧ ¬ G.O0 p ∧ G.H0 p = none := by
  have n : ¬ O p := fun e => r.dom p e h
  refine ⟨n, fun e => n (r.sub p e), ?_⟩
  cases e : G.H0 p with
  | none => rfl
  | some u => exact absurd h (r.live p (by rw [e]; simp))
theorem lv_upd (h : ∀ a, H a ≠ none → H' a ≠ none) : ∀ a, H a ≠ none → upd H' p o a ≠ none := fun a e => by
  by_cases x : a = p
  · subst x; rw [upd_same]; simp
  · rw [upd_ne x]; exact h a e
theorem lv_refl : ∀ a, H a ≠ none → H a ≠ none := fun _ e => e
/-- a new object -/
theorem Rel.newv (r : Rel K A G σ H ρ O) (h : H p = none) : Rel K A G σ (upd H p o) ρ O :=
  r.grow (Le.of (hide_newv h)) (fun q e => upd_ne (fun x => by subst x; exact r.dom q e h)) (lv_upd lv_refl)
/-- more is hidden -/
theorem Rel.add (r : Rel K A G σ H ρ O) (s : ∀ (i : Nat) (t : T), ρ[i]? = some (Sl.val t) → ∃ v, σ[i]? = some (some v) ∧ Rp K A (hide H (O.add p)) v t) (s2 : ∀ (i : Nat) (q : Addr) (t : T), (ρ[i]? = some (Sl.own t) ∨ ρ[i]? = some (Sl.io t)) → σ[i]? = some (some (V.ref q)) → Own1 K A H (hide H (O.add p)) q t) (hd : H p ≠ none) (n0 : ¬ G.O0 p) (h0 : G.H0 p = none) : Rel K A G σ H ρ (O.add p) where
  len := r.len
  val := s
  own := fun i t e => let ⟨q, h1, h2, h3, h4⟩ := r.own i t e; ⟨q, h1, .inr h2, h3, s2 i q t (.inl e) h1⟩
  io := fun i t e => let ⟨q, h1, h2, h3, h4⟩ := r.io i t e; ⟨q, h1, h2, h3, s2 i q t (.inr e) h1⟩
  inj := r.inj
  dom := fun q e => e.elim (fun x => by subst x; exact hd) (r.dom q)
  sub := fun q e => .inr (r.sub q e)
  isub := r.isub
  fr := r.fr
  new := fun q e n => e.elim (fun x => by subst x; exact h0) (fun x => r.new q x n)
  live := r.live
/-- a new object that is hidden -/
theorem Rel.newh (r : Rel K A G σ H ρ O) (h : H p = none) : Rel K A G σ (upd H p o) ρ (O.add p) := by
  obtain ⟨n, n0, h0⟩ := r.fresh h
  have r' := r.newv (o := o) h
  have s : Le (hide H O) (hide (upd H p o) (O.add p)) := Le.of (hide_new h)
  refine r'.add (fun i t e => ?_) (fun i q t e hq => ?_) (by rw [upd_same]; simp) n0 h0
  · obtain ⟨v, h1, h2⟩ := r.val i t e; exact ⟨v, h1, h2.mono s⟩
  · obtain ⟨q', t', h1, h2, h3, h4⟩ := r.held ⟨t, e⟩
    rw [hq] at h1; cases h1
    have et : t' = t := by rcases e with e | e <;> rcases h4 with h4 | h4 <;> rw [e] at h4 <;> cases h4 <;> rfl
    subst et
    exact h3.mono (upd_ne (fun x => by subst x; exact n h2)) s
/-- less is hidden: p, which no slot holds -/
theorem Rel.less (r : Rel K A G σ H ρ (O.add p)) (r0 : ∀ (i : Nat) (t : T), ρ[i]? = some (Sl.own t) → σ[i]? ≠ some (some (V.ref p))) (n0 : ¬ G.O0 p) : Rel K A G σ H ρ O where
  len := r.len
  val := fun i t e => let ⟨v, h1, h2⟩ := r.val i t e; ⟨v, h1, h2.mono (Le.of (hide_mono fun _ e => .inr e))⟩
  own := fun i t e => let ⟨q, h1, h2, h3, h4⟩ := r.own i t e; ⟨q, h1, h2.resolve_left (fun x => r0 i t e (by rw [h1, x])), h3, h4.mono rfl (Le.of (hide_mono fun _ e => .inr e))⟩
  io := fun i t e => let ⟨q, h1, h2, h3, h4⟩ := r.io i t e; ⟨q, h1, h2, h3, h4.mono rfl (Le.of (hide_mono fun _ e => .inr e))⟩
  inj := r.inj
  dom := fun q e => r.dom q (.inr e)
  sub := fun q e => (r.sub q e).resolve_left (fun x => n0 (x ▸ e))
  isub := r.isub
  fr := r.fr
  new := fun q e => r.new q (.inr e)
  live := r.live
end
end QT

set_option Elab.async false
set_option linter.all false
set_option maxRecDepth 100000
set_option maxHeartbeats 4000000
namespace QT
open PySem PySem.Spec PyProof.Rows L2 QB
theorem set_get {α : Type} {l : List α} {i j : Nat} {a s : α} (h : (l.set i a)[j]? = some s) : (j = i ∧ s = a) ∨ (j ≠ i ∧ l[j]? = some s) := by
  rw [List.getElem?_set] at h
  by_cases e : i = j
  · subst e
    rw [if_pos rfl] at h
    split at h
    · cases h; exact .inl ⟨rfl, rfl⟩
    · cases h
  · rw [if_neg e] at h
    exact .inr ⟨fun x => e x.symm, h⟩
theorem set_ne {α : Type} {l : List α} {i j : Nat} {a : α} (h : j ≠ i) : (l.set i a)[j]? = l[j]? := List.getElem?_set_ne (fun e => h e.symm)
theorem set_eq {α : Type} {l : List α} {i : Nat} {a : α} (h : i < l.length) : (l.set i a)[i]? = some a := by simp [h]
def Sl.with : Sl → T → Sl
  | .own _, t => .own t
  | .io _, t => .io t
  | s, _ => s
section
variable {K : PySem.W.Frag} {A : Nat → Addr} {G : Fx} {σ : L2.St} {H H' : Hp} {ρ ρ' : Rho} {O O' : Oset} {i : Nat} {p : Addr} {t t' : T} {v : V} {o : HO}
theorem hold_set {s : Sl} {j : Nat} (h : hold (ρ.set i s) j) : (j = i ∧ ∃ t, s = .own t ∨ s = .io t) ∨ (j ≠ i ∧ hold ρ j) := by
  obtain ⟨t, h | h⟩ := h
  · rcases set_get h with ⟨rfl, rfl⟩ | ⟨n, h⟩
    · exact .inl ⟨rfl, t, .inl rfl⟩
    · exact .inr ⟨n, t, .inl h⟩
  · rcases set_get h with ⟨rfl, rfl⟩ | ⟨n, h⟩
    · exact .inl ⟨rfl, t, .inr rfl⟩
    · exact .inr ⟨n, t, .inr h⟩
/-- what slot i holds is changed -/
theorem Rel.mut {s : Sl} (r : Rel K A G σ H ρ O) (hs : ρ[i]? = some s) (hh : s = .own t ∨ s = .io t) (hi : σ[i]? = some (some (V.ref p))) (h : Own1 K A (upd H p o) (hide H O) p t') : Rel K A G σ (upd H p o) (ρ.set i (s.with t')) O := by
  have hol : hold ρ i := ⟨t, by rcases hh with rfl | rfl; exact .inl hs; exact .inr hs⟩
  obtain ⟨p', _, h1, hO, _, _⟩ := r.held hol
  rw [hi] at h1; cases h1
  have eh := hide_upd (H := H) (o := o) hO
  have hol' : ∀ j, hold (ρ.set i (s.with t')) j → hold ρ j := fun j h => by
    rcases hold_set h with ⟨rfl, _⟩ | ⟨_, h⟩
    · exact hol
    · exact h
  have ne : ∀ j q, j ≠ i → hold ρ j → σ[j]? = some (some (V.ref q)) → q ≠ p := fun j q n hj e x => by subst x; exact n (r.inj j i q hj hol e hi)
  refine ⟨by rw [List.length_set]; exact r.len, fun j u e => ?_, fun j u e => ?_, fun j u e => ?_, fun j k q h1 h2 => r.inj j k q (hol' j h1) (hol' k h2), fun q e => lv_upd lv_refl q (r.dom q e), r.sub, r.isub, fun q e n => ?_, r.new, fun a e => lv_upd lv_refl a (r.live a e)⟩
  · rw [eh]
    rcases set_get e with ⟨rfl, e'⟩ | ⟨_, e⟩
    · rcases hh with rfl | rfl <;> cases e'
    · exact r.val j u e
  · rw [eh]
    rcases set_get e with ⟨rfl, e'⟩ | ⟨n, e⟩
    · rcases hh with rfl | rfl <;> cases e'
      obtain ⟨q, h1, h2, h3, _⟩ := r.own j t hs
      rw [hi] at h1; cases h1
      exact ⟨p, hi, hO, h3, h⟩
    · obtain ⟨q, h1, h2, h3, h4⟩ := r.own j u e
      exact ⟨q, h1, h2, h3, h4.mono (upd_ne (ne j q n ⟨u, .inl e⟩ h1)) (Le.of (Same.refl _))⟩
  · rw [eh]
    rcases set_get e with ⟨rfl, e'⟩ | ⟨n, e⟩
    · rcases hh with rfl | rfl <;> cases e'
      obtain ⟨q, h1, h2, h3, _⟩ := r.io j t hs
      rw [hi] at h1; cases h1
      exact ⟨p, hi, h2, h3, h⟩
    · obtain ⟨q, h1, h2, h3, h4⟩ := r.io j u e
      exact ⟨q, h1, h2, h3, h4.mono (upd_ne (ne j q n ⟨u, .inr e⟩ h1)) (Le.of (Same.refl _))⟩
  · have : q ≠ p := fun x => by
      subst x
      rcases hh with rfl | rfl
      · obtain ⟨q', h1, _, h3, _⟩ := r.own i t hs
        rw [hi] at h1; cases h1
        exact h3 e
      · obtain ⟨q', h1, h2, _⟩ := r.io i t hs
        rw [hi] at h1; cases h1
        exact n h2
    rw [upd_ne this]; exact r.fr q e n
/-- what slot i held is let go -/
theorem Rel.freeze (r : Rel K A G σ H ρ O) (hs : ρ[i]? = some (Sl.own t)) (hi : σ[i]? = some (some (V.ref p))) : Rel K A G σ H (ρ.set i (.val t)) (O.del p) := by
  have hol : hold ρ i := ⟨t, .inl hs⟩
  obtain ⟨p', h1, hO, h0, hw⟩ := r.own i t hs
  rw [hi] at h1; cases h1
  have lt : i < ρ.length := (List.getElem?_eq_some_iff.mp hs).1
  have s : Le (hide H O) (hide H (O.del p)) := Le.of (hide_mono fun _ e => e.2)
  have hol' : ∀ j, hold (ρ.set i (.val t)) j → j ≠ i ∧ hold ρ j := fun j h => by
    rcases hold_set h with ⟨_, _, h | h⟩ | h
    · cases h
    · cases h
    · exact h
  have ne : ∀ j q, j ≠ i → hold ρ j → σ[j]? = some (some (V.ref q)) → q ≠ p := fun j q n hj e x => by subst x; exact n (r.inj j i q hj hol e hi)
  refine ⟨by rw [List.length_set]; exact r.len, fun j u e => ?_, fun j u e => ?_, fun j u e => ?_, fun j k q h1 h2 => r.inj j k q (hol' j h1).2 (hol' k h2).2, fun q e => r.dom q e.2, fun q e => ⟨fun x => h0 (x ▸ e), r.sub q e⟩, r.isub, r.fr, fun q e => r.new q e.2, r.live⟩
  · rcases set_get e with ⟨rfl, e'⟩ | ⟨_, e⟩
    · cases e'
      exact ⟨_, hi, hw.rp (fun x => x.1 rfl) s⟩
    · obtain ⟨v, h1, h2⟩ := r.val j u e; exact ⟨v, h1, h2.mono s⟩
  · rcases set_get e with ⟨rfl, e'⟩ | ⟨n, e⟩
    · cases e'
    · obtain ⟨q, h1, h2, h3, h4⟩ := r.own j u e
      exact ⟨q, h1, ⟨ne j q n ⟨u, .inl e⟩ h1, h2⟩, h3, h4.mono rfl s⟩
  · rcases set_get e with ⟨rfl, e'⟩ | ⟨n, e⟩
    · cases e'
    · obtain ⟨q, h1, h2, h3, h4⟩ := r.io j u e
      exact ⟨q, h1, h2, h3, h4.mono rfl s⟩
theorem Rel.put (r : Rel K A G σ H ρ O) (hv : Rp K A (hide H O) v t) : Rel K A G (σ.set i (some v)) H (ρ.set i (.val t)) O := by
  have hol' : ∀ j, hold (ρ.set i (.val t)) j → j ≠ i ∧ hold ρ j := fun j h => by
    rcases hold_set h with ⟨_, _, h | h⟩ | h
    · cases h
    · cases h
    · exact h
  refine ⟨by rw [List.length_set, List.length_set]; exact r.len, fun j u e => ?_, fun j u e => ?_, fun j u e => ?_, fun j k q h1 h2 e1 e2 => ?_, r.dom, r.sub, r.isub, r.fr, r.new, r.live⟩
  · rcases set_get e with ⟨rfl, e'⟩ | ⟨n, e⟩
    · cases e'
      have lt : j < ρ.length := by have := (List.getElem?_eq_some_iff.mp e).1; rwa [List.length_set] at this
      exact ⟨v, set_eq (by rw [r.len]; exact lt), hv⟩
    · rw [set_ne n]; exact r.val j u e
  · rcases set_get e with ⟨rfl, e'⟩ | ⟨n, e⟩
    · cases e'
    · rw [set_ne n]; exact r.own j u e
  · rcases set_get e with ⟨rfl, e'⟩ | ⟨n, e⟩
    · cases e'
    · rw [set_ne n]; exact r.io j u e
  · rw [set_ne (hol' j h1).1] at e1
    rw [set_ne (hol' k h2).1] at e2
    exact r.inj j k q (hol' j h1).2 (hol' k h2).2 e1 e2
def unheld (σ : L2.St) (ρ : Rho) (p : Addr) : Prop := ∀ i, hold ρ i → σ[i]? ≠ some (some (V.ref p))
theorem Rel.putOwn (r : Rel K A G σ H ρ O) (hO : O p) (n0 : ¬ G.O0 p) (un : unheld σ ρ p) (hw : Own1 K A H (hide H O) p t) : Rel K A G (σ.set i (some (.ref p))) H (ρ.set i (.own t)) O := by
  have nh : ∀ j q, hold ρ j → σ[j]? = some (some (V.ref q)) → q ≠ p := fun j q h e x => un j h (x ▸ e)
  refine ⟨by rw [List.length_set, List.length_set]; exact r.len, fun j u e => ?_, fun j u e => ?_, fun j u e => ?_, fun j k q h1 h2 e1 e2 => ?_, r.dom, r.sub, r.isub, r.fr, r.new, r.live⟩
  · rcases set_get e with ⟨rfl, e'⟩ | ⟨n, e⟩
    · cases e'
    · rw [set_ne n]; exact r.val j u e
  · rcases set_get e with ⟨rfl, e'⟩ | ⟨n, e⟩
    · cases e'
      have lt : j < ρ.length := by have := (List.getElem?_eq_some_iff.mp e).1; rwa [List.length_set] at this
      exact ⟨p, set_eq (by rw [r.len]; exact lt), hO, n0, hw⟩
    · rw [set_ne n]; exact r.own j u e
  · rcases set_get e with ⟨rfl, e'⟩ | ⟨n, e⟩
    · cases e'
    · rw [set_ne n]; exact r.io j u e
  · rcases hold_set h1 with ⟨a1, _⟩ | ⟨a1, b1⟩ <;> rcases hold_set h2 with ⟨a2, _⟩ | ⟨a2, b2⟩
    · rw [a1, a2]
    · have lt : i < σ.length := by
        have := (List.getElem?_eq_some_iff.mp e1).1
        rw [List.length_set, a1] at this; exact this
      rw [a1, set_eq lt] at e1; cases e1
      rw [set_ne a2] at e2
      exact absurd rfl (nh k p b2 e2)
    · have lt : i < σ.length := by
        have := (List.getElem?_eq_some_iff.mp e2).1
        rw [List.length_set, a2] at this; exact this
      rw [a2, set_eq lt] at e2; cases e2
      rw [set_ne a1] at e1
      exact absurd rfl (nh j p b1 e1)
    · rw [set_ne a1] at e1
      rw [set_ne a2] at e2
      exact r.inj j k q b1 b2 e1 e2
theorem Rel.kill (r : Rel K A G σ H ρ O) : Rel K A G σ H (ρ.set i .no) O := by
  have hol' : ∀ j, hold (ρ.set i .no) j → j ≠ i ∧ hold ρ j := fun j h => by
    rcases hold_set h with ⟨_, _, h | h⟩ | h
    · cases h
    · cases h
    · exact h
  refine ⟨by rw [List.length_set]; exact r.len, fun j u e => ?_, fun j u e => ?_, fun j u e => ?_, fun j k q h1 h2 => r.inj j k q (hol' j h1).2 (hol' k h2).2, r.dom, r.sub, r.isub, r.fr, r.new, r.live⟩
  · rcases set_get e with ⟨rfl, e'⟩ | ⟨n, e⟩
    · cases e'
    · exact r.val j u e
  · rcases set_get e with ⟨rfl, e'⟩ | ⟨n, e⟩
    · cases e'
    · exact r.own j u e
  · rcases set_get e with ⟨rfl, e'⟩ | ⟨n, e⟩
    · cases e'
    · exact r.io j u e
theorem hide_same (s : Same H H') : Same (hide H O) (hide H' O) := fun b u e => hide_of (hide_some.mp e).1 (s b u (hide_some.mp e).2)
theorem lv_same (s : Same H H') : ∀ a, H a ≠ none → H' a ≠ none := fun a e => by
  cases h : H a with
  | none => exact absurd h e
  | some u => rw [s a u h]; simp
theorem Rel.kept (r : Rel K A G σ H ρ O) (s : Same H H') : ∀ p, O p → H' p = H p := fun p e => by
  cases h : H p with
  | none => exact absurd h (r.dom p e)
  | some u => exact s p u h
theorem Rel.same (r : Rel K A G σ H ρ O) (s : Same H H') : Rel K A G σ H' ρ O := r.grow (Le.of (hide_same s)) (r.kept s) (lv_same s)
theorem hide_sameAdd (s : Same H H') (h : H p = none) : Same (hide H O) (hide H' (O.add p)) := fun b u e => by
  obtain ⟨h1, h2⟩ := hide_some.mp e
  exact hide_of (fun x => x.elim (ne_of_none h2 h) h1) (s b u h2)
/-- things are new, p among them is hidden -/
theorem Rel.sameAdd (r : Rel K A G σ H ρ O) (s : Same H H') (h : H p = none) (h' : H' p ≠ none) : Rel K A G σ H' ρ (O.add p) := by
  obtain ⟨n, n0, h0⟩ := r.fresh h
  have r' := r.same s
  have l : Le (hide H O) (hide H' (O.add p)) := Le.of (hide_sameAdd s h)
  refine r'.add (fun i t e => ?_) (fun i q t e hq => ?_) h' n0 h0
  · obtain ⟨v, h1, h2⟩ := r.val i t e; exact ⟨v, h1, h2.mono l⟩
  · obtain ⟨q', t', h1, h2, h3, h4⟩ := r.held ⟨t, e⟩
    rw [hq] at h1; cases h1
    have et : t' = t := by rcases e with e | e <;> rcases h4 with h4 | h4 <;> rw [e] at h4 <;> cases h4 <;> rfl
    subst et
    exact h3.mono (r.kept s q h2) l
end
/-! ### judgements -/
inductive Opd where
  | val (t : T) | own (t : T) | slot (i : Nat) | ot (xs : List (Bool × T))
abbrev EF := Rho → Option (Opd × Rho)
abbrev AF := Rho → Option (List Opd × Rho)
abbrev BF := Rho → Option (Bool × Rho)
structure Post (K : PySem.W.Frag) (A : Nat → Addr) (G : Fx) (σ : L2.St) (H : Hp) (ρ : Rho) (O : Oset) (H' : Hp) (ρ' : Rho) (O' : Oset) : Prop where
  rel : Rel K A G σ H' ρ' O'
  le : Same (hide H O) (hide H' O')
  sub : ∀ p, O' p → O p ∨ H p = none
  keep : ∀ p, O p → unheld σ ρ p → O' p ∧ H' p = H p
  hs : ∀ i, hold ρ' i → hold ρ i
  lv : ∀ a, H a ≠ none → H' a ≠ none
/-- a thing that was made since Hs and is held by nobody -/
structure Tmp (K : PySem.W.Frag) (A : Nat → Addr) (σ : L2.St) (Hs H : Hp) (ρ : Rho) (O : Oset) (p : Addr) (t : T) : Prop where
  new : Hs p = none
  hid : O p
  un : unheld σ ρ p
  own : Own1 K A H (hide H O) p t
def Cm (K : PySem.W.Frag) (A : Nat → Addr) (σ : L2.St) (Hs H : Hp) (ρ : Rho) (O : Oset) : V → Bool × T → Prop
  | v, (false, t) => Rp K A (hide H O) v t
  | v, (true, t) => ∃ p, v = .ref p ∧ Tmp K A σ Hs H ρ O p t
def cmA : List V → List (Bool × T) → List Addr
  | .ref p :: vs, (true, _) :: xs => p :: cmA vs xs
  | _ :: vs, _ :: xs => cmA vs xs
  | _, _ => []
/-- a value and what is known of it -/
def Rl (K : PySem.W.Frag) (A : Nat → Addr) (σ : L2.St) (Hs H : Hp) (ρ : Rho) (O : Oset) : V → Opd → Prop
  | v, .val t => Rp K A (hide H O) v t
  | v, .slot i => σ[i]? = some (some v)
  | v, .own t => ∃ p, v = .ref p ∧ Tmp K A σ Hs H ρ O p t
  | v, .ot xs => ∃ p vs, v = .ref p ∧ Hs p = none ∧ hide H O p = some (.tup vs) ∧ Paired (Cm K A σ Hs H ρ O) vs xs ∧ (cmA vs xs).Nodup
def EV (K : PySem.W.Frag) (A : Nat → Addr) (te : TE) (f : EF) : Prop := ∀ (G : Fx) (σ : L2.St) (H : Hp) (ρ : Rho) (O : Oset), Rel K A G σ H ρ O → ∀ o ρ', f ρ = some (o, ρ') → ∀ Q : VK, (∀ v H' O', Post K A G σ H ρ O H' ρ' O' → Rl K A σ H H' ρ' O' v o → Q v H') → te σ H Q
def TV (K : PySem.W.Frag) (A : Nat → Addr) (tt : TT) (f : BF) : Prop := ∀ (G : Fx) (σ : L2.St) (H : Hp) (ρ : Rho) (O : Oset), Rel K A G σ H ρ O → ∀ b ρ', f ρ = some (b, ρ') → ∀ Q : Bool → Hp → Prop, (∀ H' O', Post K A G σ H ρ O H' ρ' O' → Q b H') → tt σ H Q
/-- the addresses of what is new and held by nobody -/
def owA : List V → List Opd → List Addr
  | .ref p :: vs, .own _ :: os => p :: owA vs os
  | _ :: vs, _ :: os => owA vs os
  | _, _ => []
def AV (K : PySem.W.Frag) (A : Nat → Addr) (ta : TA) (f : AF) : Prop := ∀ (G : Fx) (σ : L2.St) (H : Hp) (ρ : Rho) (O : Oset), Rel K A G σ H ρ O → ∀ os ρ', f ρ = some (os, ρ') → ∀ Q : List V → Hp → Prop, (∀ vs H' O', Post K A G σ H ρ O H' ρ' O' → Paired (Rl K A σ H H' ρ' O') vs os → (owA vs os).Nodup → Q vs H') → ta σ H Q
section
variable {K : PySem.W.Frag} {A : Nat → Addr} {G : Fx} {σ : L2.St} {Hs Hr H H' H2 : Hp} {ρ ρ' ρ2 : Rho} {O O' O2 : Oset} {i : Nat} {p : Addr} {t t' : T} {v : V} {o : HO}
theorem Post.refl (r : Rel K A G σ H ρ O) : Post K A G σ H ρ O H ρ O := ⟨r, Same.refl _, fun _ e => .inl e, fun _ e _ => ⟨e, rfl⟩, fun _ e => e, fun _ e => e⟩
theorem Post.trans (a : Post K A G σ H ρ O H' ρ' O') (b : Post K A G σ H' ρ' O' H2 ρ2 O2) : Post K A G σ H ρ O H2 ρ2 O2 :=
  ⟨b.rel, a.le.trans b.le, fun p e => (b.sub p e).elim (a.sub p) (fun h => .inr (by
    cases e2 : H p with
    | none => rfl
    | some u => exact absurd h (a.lv p (by rw [e2]; simp)))), fun p e n => by
    obtain ⟨h1, h2⟩ := a.keep p e n
    obtain ⟨h3, h4⟩ := b.keep p h1 (fun i h => n i (a.hs i h))
    exact ⟨h3, h4.trans h2⟩, fun i h => a.hs i (b.hs i h), fun x e => b.lv x (a.lv x e)⟩
theorem Post.same (r : Rel K A G σ H ρ O) (s : Same H H') : Post K A G σ H ρ O H' ρ O := ⟨r.same s, hide_same s, fun _ e => .inl e, fun p e _ => ⟨e, r.kept s p e⟩, fun _ e => e, lv_same s⟩
theorem Post.sameAdd (r : Rel K A G σ H ρ O) (s : Same H H') (h : H p = none) (h' : H' p ≠ none) : Post K A G σ H ρ O H' ρ (O.add p) :=
  ⟨r.sameAdd s h h', hide_sameAdd s h, fun q e => e.elim (fun x => .inr (x ▸ h)) .inl, fun q e _ => ⟨.inr e, r.kept s q e⟩, fun _ e => e, lv_same s⟩
theorem nn_back (lv : ∀ a, Hr a ≠ none → Hs a ≠ none) (h : Hs p = none) : Hr p = none := by
  cases e : Hr p with
  | none => rfl
  | some u => exact absurd h (lv p (by rw [e]; simp))
theorem unheld.up (h : unheld σ ρ p) (hs : ∀ i, hold ρ' i → hold ρ i) : unheld σ ρ' p := fun i x => h i (hs i x)
theorem Tmp.up (h : Tmp K A σ Hs H ρ O p t) (P : Post K A G σ H ρ O H' ρ' O') : Tmp K A σ Hs H' ρ' O' p t :=
  let ⟨h1, h2⟩ := P.keep p h.hid h.un
  ⟨h.new, h1, h.un.up P.hs, h.own.mono h2 (Le.of P.le)⟩
theorem Tmp.back (h : Tmp K A σ Hs H ρ O p t) (lv : ∀ a, Hr a ≠ none → Hs a ≠ none) : Tmp K A σ Hr H ρ O p t := ⟨nn_back lv h.new, h.hid, h.un, h.own⟩
theorem Cm.up {x : Bool × T} (h : Cm K A σ Hs H ρ O v x) (P : Post K A G σ H ρ O H' ρ' O') : Cm K A σ Hs H' ρ' O' v x := by
  obtain ⟨b, t⟩ := x
  cases b with
  | false => exact Rp.mono (Le.of P.le) h
  | true => obtain ⟨p, e, h⟩ := h; exact ⟨p, e, h.up P⟩
theorem Cm.back {x : Bool × T} (h : Cm K A σ Hs H ρ O v x) (lv : ∀ a, Hr a ≠ none → Hs a ≠ none) : Cm K A σ Hr H ρ O v x := by
  obtain ⟨b, t⟩ := x
  cases b with
  | false => exact h
  | true => obtain ⟨p, e, h⟩ := h; exact ⟨p, e, h.back lv⟩
theorem paired_map {α β : Type} {R S : α → β → Prop} (f : ∀ a b, R a b → S a b) : ∀ {xs : List α} {ys : List β}, Paired R xs ys → Paired S xs ys
  | _, _, .nil => .nil
  | _, _, .cons a b => .cons (f _ _ a) (paired_map f b)
theorem Rl.up {x : Opd} (h : Rl K A σ Hs H ρ O v x) (P : Post K A G σ H ρ O H' ρ' O') : Rl K A σ Hs H' ρ' O' v x := by
  cases x with
  | val t => exact Rp.mono (Le.of P.le) h
  | slot i => exact h
  | own t => obtain ⟨p, e, h⟩ := h; exact ⟨p, e, h.up P⟩
  | ot xs => obtain ⟨p, vs, e, hn, hp, h, nd⟩ := h; exact ⟨p, vs, e, hn, P.le _ _ hp, paired_map (fun a b r => Cm.up r P) h, nd⟩
theorem Rl.back {x : Opd} (h : Rl K A σ Hs H ρ O v x) (lv : ∀ a, Hr a ≠ none → Hs a ≠ none) : Rl K A σ Hr H ρ O v x := by
  cases x with
  | val t => exact h
  | slot i => exact h
  | own t => obtain ⟨p, e, h⟩ := h; exact ⟨p, e, h.back lv⟩
  | ot xs => obtain ⟨p, vs, e, hn, hp, h, nd⟩ := h; exact ⟨p, vs, e, nn_back lv hn, hp, paired_map (fun a b r => Cm.back r lv) h, nd⟩
/-! ### release -/
def Oset.dels (O : Oset) (l : List Addr) : Oset := fun a => O a ∧ ¬ a ∈ l
theorem Post.rls {l : List Addr} (r0 : Rel K A G σ H ρ O) (P : Post K A G σ H ρ O H' ρ' O') (hl : ∀ q ∈ l, H q = none ∧ unheld σ ρ' q) : Post K A G σ H ρ O H' ρ' (O'.dels l) := by
  have s : Same (hide H' O') (hide H' (O'.dels l)) := hide_mono fun _ e => e.1
  have l' := Le.of s
  have r := P.rel
  have n0 : ∀ q ∈ l, ¬ O q ∧ ¬ G.O0 q := fun q h => let ⟨a, b, _⟩ := r0.fresh (hl q h).1; ⟨a, b⟩
  refine ⟨⟨r.len, fun i t e => ?_, fun i t e => ?_, fun i t e => ?_, r.inj, fun q e => r.dom q e.1, fun q e => ⟨r.sub q e, fun x => (n0 q x).2 e⟩, r.isub, r.fr, fun q e => r.new q e.1, r.live⟩, P.le.trans s, fun q e => P.sub q e.1, fun q e u => ?_, P.hs, P.lv⟩
  · obtain ⟨v, h1, h2⟩ := r.val i t e; exact ⟨v, h1, h2.mono l'⟩
  · obtain ⟨q, h1, h2, h3, h4⟩ := r.own i t e; exact ⟨q, h1, ⟨h2, fun x => (hl q x).2 i ⟨t, .inl e⟩ h1⟩, h3, h4.mono rfl l'⟩
  · obtain ⟨q, h1, h2, h3, h4⟩ := r.io i t e; exact ⟨q, h1, h2, h3, h4.mono rfl l'⟩
  · obtain ⟨h1, h2⟩ := P.keep q e u
    exact ⟨⟨h1, fun x => (n0 q x).1 e⟩, h2⟩
def Opd.fz : Opd → Opd
  | .own t => .val t
  | .ot xs => .val (.tup (xs.map (·.2)))
  | o => o
/-- all that is released for a value -/
def relA (H : Hp) : List V → List Opd → List Addr
  | .ref p :: vs, .own _ :: os => p :: relA H vs os
  | .ref p :: vs, .ot xs :: os => (match H p with | some (.tup ws) => cmA ws xs | _ => []) ++ relA H vs os
  | _ :: vs, _ :: os => relA H vs os
  | _, _ => []
theorem cm_in : ∀ {vs : List V} {xs : List (Bool × T)} {q : Addr}, Paired (Cm K A σ Hs H ρ O) vs xs → q ∈ cmA vs xs → ∃ t, Tmp K A σ Hs H ρ O q t
  | _, _, _, .nil, h => by simp [cmA] at h
  | v :: vs, (true, t) :: xs, q, .cons ⟨p, e, a⟩ b, h => by
    subst e
    simp only [cmA, List.mem_cons] at h
    rcases h with rfl | h
    · exact ⟨t, a⟩
    · exact cm_in b h
  | v :: vs, (false, t) :: xs, q, .cons a b, h => by
    have : cmA (v :: vs) ((false, t) :: xs) = cmA vs xs := by cases v <;> rfl
    rw [this] at h
    exact cm_in b h
theorem rel_in : ∀ {vs : List V} {os : List Opd} {q : Addr}, Paired (Rl K A σ Hs H ρ O) vs os → q ∈ relA H vs os → ∃ t, Tmp K A σ Hs H ρ O q t
  | _, _, _, .nil, h => by simp [relA] at h
  | v :: vs, .own t :: os, q, .cons ⟨p, e, a⟩ b, h => by
    subst e
    simp only [relA, List.mem_cons] at h
    rcases h with rfl | h
    · exact ⟨t, a⟩
    · exact rel_in b h
  | v :: vs, .ot xs :: os, q, .cons ⟨p, ws, e, _, hp, a, nd⟩ b, h => by
    subst e
    have hp' := (hide_some.mp hp).2
    simp only [relA, hp', List.mem_append] at h
    rcases h with h | h
    · exact cm_in a h
    · exact rel_in b h
  | v :: vs, .val t :: os, q, .cons a b, h => by
    have : relA H (v :: vs) (.val t :: os) = relA H vs os := by cases v <;> rfl
    rw [this] at h
    exact rel_in b h
  | v :: vs, .slot i :: os, q, .cons a b, h => by
    have : relA H (v :: vs) (.slot i :: os) = relA H vs os := by cases v <;> rfl
    rw [this] at h
    exact rel_in b h
theorem cm_rls {l : List Addr} : ∀ {vs : List V} {xs : List (Bool × T)}, Paired (Cm K A σ Hs H ρ O) vs xs → (∀ q ∈ cmA vs xs, q ∈ l) → RpL K A (hide H (O.dels l)) vs (xs.map (·.2))
  | _, _, .nil, _ => .nil
  | v :: vs, (true, t) :: xs, .cons ⟨p, e, a⟩ b, h => by
    subst e
    exact .cons (a.own.rp (fun x => x.2 (h p (by simp [cmA]))) (Le.of (hide_mono fun _ e => e.1))) (cm_rls b fun q hq => h q (by simp [cmA, hq]))
  | v :: vs, (false, t) :: xs, .cons a b, h => by
    have : cmA (v :: vs) ((false, t) :: xs) = cmA vs xs := by cases v <;> rfl
    rw [this] at h
    exact .cons (Rp.mono (Le.of (hide_mono fun _ e => e.1)) a) (cm_rls b h)
/-- what lasts: a tree, or a slot -/
def Rv (K : PySem.W.Frag) (A : Nat → Addr) (σ : L2.St) (H : Hp) (O : Oset) : V → Opd → Prop
  | v, .val t => Rp K A (hide H O) v t
  | v, .slot i => σ[i]? = some (some v)
  | _, _ => False
theorem rl_rls {l : List Addr} : ∀ {vs : List V} {os : List Opd}, Paired (Rl K A σ Hs H ρ O) vs os → (∀ q ∈ relA H vs os, q ∈ l) → Paired (Rv K A σ H (O.dels l)) vs (os.map Opd.fz)
  | _, _, .nil, _ => .nil
  | v :: vs, .own t :: os, .cons ⟨p, e, a⟩ b, h => by
    subst e
    exact .cons (a.own.rp (fun x => x.2 (h p (by simp [relA]))) (Le.of (hide_mono fun _ e => e.1))) (rl_rls b fun q hq => h q (by simp [relA, hq]))
  | v :: vs, .ot xs :: os, .cons ⟨p, ws, e, hn, hp, a, nd⟩ b, h => by
    subst e
    have hp' := (hide_some.mp hp).2
    simp only [relA, hp', List.mem_append] at h
    exact .cons (show Rp K A (hide H (O.dels l)) (.ref p) (.tup (xs.map (·.2))) from .tup (.inl (.inl (hide_mono (fun _ e => e.1) _ _ hp))) (cm_rls a fun q hq => h q (.inl hq))) (rl_rls b fun q hq => h q (.inr hq))
  | v :: vs, .val t :: os, .cons a b, h => by
    have : relA H (v :: vs) (.val t :: os) = relA H vs os := by cases v <;> rfl
    rw [this] at h
    exact .cons (Rp.mono (Le.of (hide_mono fun _ e => e.1)) a) (rl_rls b h)
  | v :: vs, .slot i :: os, .cons a b, h => by
    have : relA H (v :: vs) (.slot i :: os) = relA H vs os := by cases v <;> rfl
    rw [this] at h
    exact .cons a (rl_rls b h)
theorem release {vs : List V} {os : List Opd} (r0 : Rel K A G σ H ρ O) (P : Post K A G σ H ρ O H' ρ' O') (h : Paired (Rl K A σ H H' ρ' O') vs os) : ∃ O2, Post K A G σ H ρ O H' ρ' O2 ∧ Paired (Rv K A σ H' O2) vs (os.map Opd.fz) := by
  refine ⟨O'.dels (relA H' vs os), P.rls r0 fun q hq => ?_, rl_rls h fun q hq => hq⟩
  obtain ⟨t, x⟩ := rel_in h hq
  exact ⟨x.new, x.un⟩
theorem Rv.up {x : Opd} (h : Rv K A σ H O v x) (l : Same (hide H O) (hide H' O')) : Rv K A σ H' O' v x := by
  cases x with
  | val t => exact Rp.mono (Le.of l) h
  | slot i => exact h
  | own t => exact h.elim
  | ot xs => exact h.elim
def Opd.tree (ρ : Rho) : Opd → Option T
  | .val t => some t
  | .own t => some t
  | .ot xs => some (.tup (xs.map (·.2)))
  | .slot i => match ρ[i]? with
    | some (.val t) => some t
    | some (.own t) => some t
    | some (.io t) => some t
    | _ => none
theorem tree_fz (x : Opd) : x.fz.tree ρ = x.tree ρ := by cases x <;> rfl
/-- what may be looked at -/
def Top (K : PySem.W.Frag) (A : Nat → Addr) (H : Hp) (O : Oset) (v : V) (t : T) : Prop := Rp K A (hide H O) v t ∨ ∃ p, v = .ref p ∧ Own1 K A H (hide H O) p t
theorem Rv.top {x : Opd} (r : Rel K A G σ H ρ O) (h : Rv K A σ H O v x) (e : x.tree ρ = some t) : Top K A H O v t := by
  cases x with
  | val u => cases e; exact .inl h
  | own u => exact h.elim
  | ot u => exact h.elim
  | slot i =>
    have h : σ[i]? = some (some v) := h
    unfold Opd.tree at e
    dsimp only at e
    split at e
    · rename_i u hs
      cases e
      obtain ⟨w, h1, h2⟩ := r.val i _ hs
      rw [h] at h1; cases h1
      exact .inl h2
    · rename_i u hs
      cases e
      obtain ⟨q, h1, _, _, h2⟩ := r.own i _ hs
      rw [h] at h1; cases h1
      exact .inr ⟨q, rfl, h2⟩
    · rename_i u hs
      cases e
      obtain ⟨q, h1, _, _, h2⟩ := r.io i _ hs
      rw [h] at h1; cases h1
      exact .inr ⟨q, rfl, h2⟩
    · cases e
theorem hide_le : Le (hide H O) H := Le.of hide_sub
theorem Top.int {n : Int} (h : Top K A H O v (.int n)) : v = .int n := by
  rcases h with h | ⟨p, rfl, h⟩
  · cases h; rfl
  · exact h.elim
theorem Top.str {x : Str} (h : Top K A H O v (.str x)) : v = .str x := by
  rcases h with h | ⟨p, rfl, h⟩
  · cases h; rfl
  · exact h.elim
theorem Top.bl {x : Bool} (h : Top K A H O v (.bl x)) : v = .bl x := by
  rcases h with h | ⟨p, rfl, h⟩
  · cases h; rfl
  · exact h.elim
theorem Top.non (h : Top K A H O v .non) : v = .non := by
  rcases h with h | ⟨p, rfl, h⟩
  · cases h; rfl
  · exact h.elim
theorem Top.lst {ts : List T} (h : Top K A H O v (.lst ts)) : ∃ p vs, v = .ref p ∧ SqL K H p vs ∧ RpL K A (hide H O) vs ts := by
  rcases h with h | ⟨p, rfl, vs, h, r⟩
  · cases h with | lst h r => exact ⟨_, _, rfl, hide_le.sqL h, r⟩
  · exact ⟨p, vs, rfl, SqL.of h, r⟩
theorem Top.tup {ts : List T} (h : Top K A H O v (.tup ts)) : ∃ p vs, v = .ref p ∧ SqT K H p vs ∧ RpL K A (hide H O) vs ts := by
  rcases h with h | ⟨p, rfl, h⟩
  · cases h with | tup h r => exact ⟨_, _, rfl, hide_le.sqT h, r⟩
  · exact h.elim
theorem Top.dct {ts : List (Key × T)} (h : Top K A H O v (.dct ts)) : ∃ p vs, v = .ref p ∧ Rd H p (.dK vs) ∧ RpK K A (hide H O) vs ts := by
  rcases h with h | ⟨p, rfl, vs, h, r⟩
  · cases h with | dct h r => exact ⟨_, _, rfl, hide_le.rd (fun _ _ => by simp) h, r⟩
  · exact ⟨p, vs, rfl, .inl h, r⟩
theorem Top.obj {c : Nat} {ts : List (Str × T)} (h : Top K A H O v (.obj c ts)) : ∃ p dx vs, v = .ref p ∧ H p = some (.ins (A c) dx vs) ∧ RpF K A (hide H O) vs ts := by
  rcases h with h | ⟨p, rfl, dx, vs, h, r⟩
  · cases h with | obj h r => exact ⟨_, _, _, rfl, hide_le.ins h, r⟩
  · exact ⟨p, dx, vs, rfl, h, r⟩
abbrev Tops (K : PySem.W.Frag) (A : Nat → Addr) (H : Hp) (O : Oset) : List V → List T → Prop := Paired (Top K A H O)
def trees (ρ : Rho) : List Opd → Option (List T)
  | [] => some []
  | o :: r => do
    let t ← o.tree ρ
    let ts ← trees ρ r
    pure (t :: ts)
theorem tops_of (r : Rel K A G σ H ρ O) : ∀ {vs : List V} {os : List Opd} {ts : List T}, Paired (Rv K A σ H O) vs os → trees ρ os = some ts → Tops K A H O vs ts
  | _, _, _, .nil, e => by cases e; exact .nil
  | _, _, _, .cons (b := x) a b, e => by
    simp only [trees, Option.bind_eq_bind, Option.bind_eq_some_iff] at e
    obtain ⟨t, h1, ts, h2, h3⟩ := e
    cases h3
    exact .cons (a.top r h1) (tops_of r b h2)
theorem trees_fz : ∀ os : List Opd, trees ρ (os.map Opd.fz) = trees ρ os
  | [] => rfl
  | o :: r => by simp only [List.map_cons, trees, tree_fz, trees_fz r]
/-! ### sharing: a value that goes into another one -/
def share (o : Opd) (ρ : Rho) : Option (T × Rho) := match o with
  | .val t => some (t, ρ)
  | .own t => some (t, ρ)
  | .ot xs => some (.tup (xs.map (·.2)), ρ)
  | .slot i => match ρ[i]? with
    | some (.val t) => some (t, ρ)
    | some (.own t) => some (t, ρ.set i (.val t))
    | _ => none
theorem share_ok {x : Opd} (r : Rel K A G σ H ρ O) (h : Rv K A σ H O v x) (e : share x ρ = some (t, ρ')) : ∃ O', Post K A G σ H ρ O H ρ' O' ∧ Rp K A (hide H O') v t := by
  cases x with
  | val u => cases e; exact ⟨O, .refl r, h⟩
  | own u => exact h.elim
  | ot u => exact h.elim
  | slot i =>
    have h : σ[i]? = some (some v) := h
    unfold share at e
    dsimp only at e
    split at e
    · rename_i u hs
      cases e
      obtain ⟨w, h1, h2⟩ := r.val i _ hs
      rw [h] at h1; cases h1
      exact ⟨O, .refl r, h2⟩
    · rename_i u hs
      cases e
      obtain ⟨q, h1, hO, h0, h2⟩ := r.own i _ hs
      rw [h] at h1; cases h1
      have s : Same (hide H O) (hide H (O.del q)) := hide_mono fun _ e => e.2
      refine ⟨O.del q, ⟨r.freeze hs h, s, fun _ e => .inl e.2, fun p' e n => ⟨⟨fun x => ?_, e⟩, rfl⟩, fun j hj => ?_, fun _ e => e⟩, h2.rp (fun x => x.1 rfl) (Le.of s)⟩
      · subst x; exact n i ⟨_, .inl hs⟩ h
      · rcases hold_set hj with ⟨_, _, hx | hx⟩ | hx
        · cases hx
        · cases hx
        · exact hx.2
    · cases e
def shareL : List Opd → Rho → Option (List T × Rho)
  | [], ρ => some ([], ρ)
  | o :: r, ρ => do
    let (t, ρ1) ← share o ρ
    let (ts, ρ2) ← shareL r ρ1
    pure (t :: ts, ρ2)
theorem shareL_ok : ∀ {vs : List V} {os : List Opd} {ts : List T} {ρ ρ' : Rho} {O : Oset}, Rel K A G σ H ρ O → Paired (Rv K A σ H O) vs os → shareL os ρ = some (ts, ρ') → ∃ O', Post K A G σ H ρ O H ρ' O' ∧ RpL K A (hide H O') vs ts
  | _, _, _, _, _, O, r, .nil, e => by cases e; exact ⟨O, .refl r, .nil⟩
  | _, _, _, ρ, _, O, r, .cons a b, e => by
    simp only [shareL, Option.bind_eq_bind, Option.bind_eq_some_iff] at e
    obtain ⟨⟨t, ρ1⟩, h1, ⟨ts, ρ2⟩, h2, h3⟩ := e
    cases h3
    obtain ⟨O1, p1, x1⟩ := share_ok r a h1
    obtain ⟨O2, p2, x2⟩ := shareL_ok p1.rel (paired_map (fun a b r => Rv.up r p1.le) b) h2
    exact ⟨O2, p1.trans p2, .cons (x1.mono (Le.of p2.le)) x2⟩
theorem share_fz (x : Opd) : share x.fz ρ = share x ρ := by cases x <;> rfl
theorem shareL_fz : ∀ (os : List Opd) (ρ : Rho), shareL (os.map Opd.fz) ρ = shareL os ρ
  | [], _ => rfl
  | o :: r, ρ => by
    simp only [List.map_cons, shareL, share_fz, Option.bind_eq_bind]
    congr 1
    funext x
    rw [shareL_fz r]
end
end QT

set_option Elab.async false
set_option linter.all false
set_option maxRecDepth 100000
set_option maxHeartbeats 4000000
namespace QT
open PySem PySem.Spec PyProof.Rows L2 QB
/-! ### what is made by values alone: builtins, operators -/
def NewR (K : PySem.W.Frag) (A : Nat → Addr) (H : Hp) (O : Oset) (H' : Hp) (v : V) : Opd → Prop
  | .val t => Rp K A (hide H' O) v t
  | .own t => ∃ p, v = .ref p ∧ H p = none ∧ Own1 K A H' (hide H' (O.add p)) p t
  | .slot _ => False
  | .ot _ => False
def Bv (K : PySem.W.Frag) (A : Nat → Addr) (r : List V → Hp → VK → Prop) (f : List T → Option Opd) : Prop := ∀ (H : Hp) (O : Oset) (vs : List V) (ts : List T) (o : Opd), (∀ p, O p → H p ≠ none) → Tops K A H O vs ts → f ts = some o → ∀ Q : VK, (∀ v H', Same H H' → NewR K A H O H' v o → Q v H') → r vs H Q
def l2 (r : R2) : List V → Hp → VK → Prop
  | [x, y] => r x y
  | _ => fun _ _ => False
def l1 (r : V → Hp → VK → Prop) : List V → Hp → VK → Prop
  | [x] => r x
  | _ => fun _ _ => False
abbrev B2 (K : PySem.W.Frag) (A : Nat → Addr) (r : R2) (f : List T → Option Opd) : Prop := Bv K A (l2 r) f
abbrev B1 (K : PySem.W.Frag) (A : Nat → Addr) (r : V → Hp → VK → Prop) (f : List T → Option Opd) : Prop := Bv K A (l1 r) f
section
variable {K : PySem.W.Frag} {A : Nat → Addr} {G : Fx} {σ : L2.St} {H H' H2 : Hp} {ρ ρ' ρ2 : Rho} {O O' O2 : Oset} {i : Nat} {p : Addr} {t t' : T} {v : V} {x : Opd}
theorem Rel.unh (r : Rel K A G σ H ρ O) (h : H p = none) : unheld σ ρ p := fun i hi e => by
  obtain ⟨q, t, h1, h2, _⟩ := r.held hi
  rw [e] at h1; cases h1
  exact r.dom p h2 h
theorem NewR.post (r : Rel K A G σ H ρ O) (s : Same H H') (h : NewR K A H O H' v x) : ∃ O', Post K A G σ H ρ O H' ρ O' ∧ Rl K A σ H H' ρ O' v x := by
  cases x with
  | val t => exact ⟨O, .same r s, h⟩
  | slot i => exact h.elim
  | ot i => exact h.elim
  | own t =>
    obtain ⟨p, rfl, hn, hw⟩ := h
    exact ⟨O.add p, .sameAdd r s hn hw.some, p, rfl, hn, .inl rfl, r.unh hn, hw⟩
/-! ### arguments -/
def aN : AF := fun ρ => some ([], ρ)
def aC (e : EF) (r : AF) : AF := fun ρ => do
  let (o, ρ1) ← e ρ
  let (os, ρ2) ← r ρ1
  pure (o :: os, ρ2)
theorem av_nil : AV K A tNil aN := fun G σ H ρ O r os ρ' e Q q => by
  cases e
  exact q [] H O (.refl r) .nil .nil
theorem ow_in {Hs : Hp} : ∀ {vs : List V} {os : List Opd} {q : Addr}, Paired (Rl K A σ Hs H ρ O) vs os → q ∈ owA vs os → ∃ t, Tmp K A σ Hs H ρ O q t
  | _, _, _, .nil, h => by simp [owA] at h
  | v :: vs, .own t :: os, q, .cons ⟨p, e, a⟩ b, h => by
    subst e
    simp only [owA, List.mem_cons] at h
    rcases h with rfl | h
    · exact ⟨t, a⟩
    · exact ow_in b h
  | v :: vs, .ot xs :: os, q, .cons a b, h => by
    have : owA (v :: vs) (.ot xs :: os) = owA vs os := by cases v <;> rfl
    rw [this] at h
    exact ow_in b h
  | v :: vs, .val t :: os, q, .cons a b, h => by
    have : owA (v :: vs) (.val t :: os) = owA vs os := by cases v <;> rfl
    rw [this] at h
    exact ow_in b h
  | v :: vs, .slot i :: os, q, .cons a b, h => by
    have : owA (v :: vs) (.slot i :: os) = owA vs os := by cases v <;> rfl
    rw [this] at h
    exact ow_in b h
theorem av_cons {te : TE} {tr : TA} {e : EF} {r : AF} (he : EV K A te e) (hr : AV K A tr r) : AV K A (tCons te tr) (aC e r) := fun G σ H ρ O rl os ρ' ee Q q => by
  simp only [aC, Option.bind_eq_bind, Option.bind_eq_some_iff] at ee
  obtain ⟨⟨o, ρ1⟩, h1, ⟨os1, ρ2⟩, h2, h3⟩ := ee
  cases h3
  refine he G σ H ρ O rl o ρ1 h1 _ fun v H1 O1 p1 s1 => ?_
  refine hr G σ H1 ρ1 O1 p1.rel os1 ρ2 h2 _ fun vs H2 O2 p2 s2 nd => ?_
  refine q _ _ O2 (p1.trans p2) (.cons (s1.up p2) (paired_map (fun a b r => Rl.back r p1.lv) s2)) ?_
  cases o with
  | val t => have : owA (v :: vs) (.val t :: os1) = owA vs os1 := by cases v <;> rfl
             rw [this]; exact nd
  | slot t => have : owA (v :: vs) (.slot t :: os1) = owA vs os1 := by cases v <;> rfl
              rw [this]; exact nd
  | ot t => have : owA (v :: vs) (.ot t :: os1) = owA vs os1 := by cases v <;> rfl
            rw [this]; exact nd
  | own t =>
    obtain ⟨p, rfl, tm⟩ := s1
    simp only [owA, List.nodup_cons]
    refine ⟨fun hp => ?_, nd⟩
    obtain ⟨u, tu⟩ := ow_in s2 hp
    exact p1.rel.dom p tm.hid tu.new
def eB (f : List T → Option Opd) (a : AF) : EF := fun ρ => do
  let (os, ρ1) ← a ρ
  let ts ← trees ρ1 os
  let o ← f ts
  pure (o, ρ1)
theorem ev_cb {r : List V → Hp → VK → Prop} {f : List T → Option Opd} {tl : TA} {a : AF} (ha : AV K A tl a) (hb : Bv K A r f) : EV K A (tCB r tl) (eB f a) := fun G σ H ρ O rl o ρ' e Q q => by
  simp only [eB, Option.bind_eq_bind, Option.bind_eq_some_iff] at e
  obtain ⟨⟨os, ρ1⟩, h1, ts, h2, o', h3, h4⟩ := e
  cases h4
  refine ha G σ H ρ O rl os ρ1 h1 _ fun vs H1 O1 p1 s1 nd => ?_
  obtain ⟨O2, p2, s2⟩ := release rl p1 s1
  refine hb H1 O2 vs ts _ p2.rel.dom (tops_of p2.rel s2 (by rw [trees_fz]; exact h2)) h3 _ fun v H2 s2 n2 => ?_
  obtain ⟨O3, p3, r3⟩ := n2.post p2.rel s2
  exact q v H2 O3 (p2.trans p3) (r3.back p2.lv)
theorem ev_op {r : R2} {f : List T → Option Opd} {ta tb : TE} {a b : EF} (ha : EV K A ta a) (hb : EV K A tb b) (h : B2 K A r f) : EV K A (tOp r ta tb) (eB f (aC a (aC b aN))) := ev_cb (r := l2 r) (av_cons ha (av_cons hb av_nil)) h
theorem ev_un {r : V → Hp → VK → Prop} {f : List T → Option Opd} {ta : TE} {a : EF} (ha : EV K A ta a) (h : B1 K A r f) : EV K A (tUn r ta) (eB f (aC a aN)) := ev_cb (r := l1 r) (av_cons ha av_nil) h
/-! ### names, constants -/
def eVar (i : Nat) : EF := fun ρ => match ρ[i]? with
  | some (.val _) => some (.slot i, ρ)
  | some (.own _) => some (.slot i, ρ)
  | some (.io _) => some (.slot i, ρ)
  | _ => none
theorem ev_var {i : Nat} : EV K A (tVar i) (eVar i) := fun G σ H ρ O rl o ρ' e Q q => by
  unfold eVar at e
  have key : ∀ w, σ[i]? = some (some w) → some (Opd.slot i, ρ) = some (o, ρ') → tVar i σ H Q := fun w h e => by
    cases e
    exact ⟨w, h, q w H O (.refl rl) h⟩
  split at e
  · rename_i u hs; obtain ⟨w, h1, _⟩ := rl.val i u hs; exact key w h1 e
  · rename_i u hs; obtain ⟨w, h1, _⟩ := rl.own i u hs; exact key _ h1 e
  · rename_i u hs; obtain ⟨w, h1, _⟩ := rl.io i u hs; exact key _ h1 e
  · cases e
def eC (t : T) : EF := fun ρ => some (.val t, ρ)
theorem ev_c {v : V} {t : T} (h : ∀ H, Rp K A H v t) : EV K A (tC v) (eC t) := fun G σ H ρ O rl o ρ' e Q q => by
  cases e
  exact q v H O (.refl rl) (h _)
theorem ev_int {n : Int} : EV K A (tC (.int n)) (eC (.int n)) := ev_c fun _ => .int n
theorem ev_str {x : Str} : EV K A (tC (.str x)) (eC (.str x)) := ev_c fun _ => .str x
theorem ev_bl {b : Bool} : EV K A (tC (.bl b)) (eC (.bl b)) := ev_c fun _ => .bl b
theorem ev_non : EV K A (tC .non) (eC .non) := ev_c fun _ => .non
/-! ### tests -/
def bE (e : EF) : BF := fun ρ => do
  let (o, ρ1) ← e ρ
  let t ← o.tree ρ1
  match t with
  | .bl b => pure (b, ρ1)
  | _ => none
theorem tv_b {te : TE} {e : EF} (he : EV K A te e) : TV K A (tB te) (bE e) := fun G σ H ρ O rl b ρ' ee Q q => by
  simp only [bE, Option.bind_eq_bind, Option.bind_eq_some_iff] at ee
  obtain ⟨⟨o, ρ1⟩, h1, t, h2, h3⟩ := ee
  refine he G σ H ρ O rl o ρ1 h1 _ fun v H1 O0 p0 s0 => ?_
  obtain ⟨O1, p1, s1⟩ := release (vs := [v]) (os := [o]) rl p0 (.cons s0 .nil)
  have tp : Top K A H1 O1 v t := (match s1 with | .cons s1 _ => s1.top p1.rel (by rw [tree_fz]; exact h2))
  split at h3
  · cases h3
    exact ⟨_, tp.bl, q H1 O1 p1⟩
  · cases h3
theorem tv_test {te : TE} {e : EF} (he : EV K A te e) : TV K A (tTest te) (bE e) := tv_b he
def bAnd (a b : BF) : BF := fun ρ => do
  let (x, ρ1) ← a ρ
  if x then b ρ1 else pure (false, ρ1)
def bOr (a b : BF) : BF := fun ρ => do
  let (x, ρ1) ← a ρ
  if x then pure (true, ρ1) else b ρ1
def bNot (a : BF) : BF := fun ρ => do
  let (x, ρ1) ← a ρ
  pure (!x, ρ1)
def bYes : BF := fun ρ => some (true, ρ)
theorem tv_and {t u : TT} {a b : BF} (ha : TV K A t a) (hb : TV K A u b) : TV K A (tAnd t u) (bAnd a b) := fun G σ H ρ O rl x ρ' e Q q => by
  simp only [bAnd, Option.bind_eq_bind, Option.bind_eq_some_iff] at e
  obtain ⟨⟨y, ρ1⟩, h1, h2⟩ := e
  refine ha G σ H ρ O rl y ρ1 h1 _ fun H1 O1 p1 => ?_
  cases y with
  | true => rw [if_pos rfl] at h2 ⊢; exact hb G σ H1 ρ1 O1 p1.rel x ρ' h2 _ fun H2 O2 p2 => q H2 O2 (p1.trans p2)
  | false => dsimp only at h2; rw [if_neg Bool.false_ne_true] at h2 ⊢; cases h2; exact q H1 O1 p1
theorem tv_or {t u : TT} {a b : BF} (ha : TV K A t a) (hb : TV K A u b) : TV K A (tOr t u) (bOr a b) := fun G σ H ρ O rl x ρ' e Q q => by
  simp only [bOr, Option.bind_eq_bind, Option.bind_eq_some_iff] at e
  obtain ⟨⟨y, ρ1⟩, h1, h2⟩ := e
  refine ha G σ H ρ O rl y ρ1 h1 _ fun H1 O1 p1 => ?_
  cases y with
  | true => rw [if_pos rfl] at h2 ⊢; cases h2; exact q H1 O1 p1
  | false => dsimp only at h2; rw [if_neg Bool.false_ne_true] at h2 ⊢; exact hb G σ H1 ρ1 O1 p1.rel x ρ' h2 _ fun H2 O2 p2 => q H2 O2 (p1.trans p2)
theorem tv_not {t : TT} {a : BF} (ha : TV K A t a) : TV K A (tNot t) (bNot a) := fun G σ H ρ O rl x ρ' e Q q => by
  simp only [bNot, Option.bind_eq_bind, Option.bind_eq_some_iff] at e
  obtain ⟨⟨y, ρ1⟩, h1, h2⟩ := e
  cases h2
  exact ha G σ H ρ O rl y ρ1 h1 _ fun H1 O1 p1 => q H1 O1 p1
theorem tv_yes : TV K A tYes bYes := fun G σ H ρ O rl x ρ' e Q q => by
  cases e
  exact q H O (.refl rl)
/-- truth of a value -/
def T.truth : T → Option Bool
  | .non => some false
  | .bl b => some b
  | .int i => some (i != 0)
  | .str x => if x.length ≤ sizeLine then some ((x.length : Int) != 0) else none
  | .lst xs => some (!xs.isEmpty)
  | .tup xs => some (!xs.isEmpty)
  | _ => none
def bT (e : EF) : BF := fun ρ => do
  let (o, ρ1) ← e ρ
  let t ← o.tree ρ1
  let b ← t.truth
  pure (b, ρ1)
theorem RpL.emp {vs : List V} {ts : List T} (h : RpL K A H vs ts) : vs.isEmpty = ts.isEmpty := by cases h <;> rfl
theorem tv_tru {te : TE} {e : EF} (he : EV K A te e) : TV K A (tTruth K te) (bT e) := fun G σ H ρ O rl b ρ' ee Q q => by
  simp only [bT, Option.bind_eq_bind, Option.bind_eq_some_iff] at ee
  obtain ⟨⟨o, ρ1⟩, h1, t, h2, b', h3, h4⟩ := ee
  cases h4
  refine he G σ H ρ O rl o ρ1 h1 _ fun v H1 O0 p0 s0 => ?_
  obtain ⟨O1, p1, s1⟩ := release (vs := [v]) (os := [o]) rl p0 (.cons s0 .nil)
  have tp : Top K A H1 O1 v t := (match s1 with | .cons s1 _ => s1.top p1.rel (by rw [tree_fz]; exact h2))
  refine ⟨b, ?_, q H1 O1 p1⟩
  cases t <;> simp only [T.truth, Option.some.injEq, reduceCtorEq] at h3
  · rw [tp.non]; exact h3.symm
  · rw [tp.bl]; exact h3.symm
  · rw [tp.int]; exact h3.symm
  · rw [tp.str]
    split at h3
    · rename_i hl; cases h3; exact ⟨hl, rfl⟩
    · cases h3
  · obtain ⟨p, vs, rfl, h, r⟩ := tp.lst; exact .inl ⟨vs, h, by rw [r.emp]; exact h3.symm⟩
  · obtain ⟨p, vs, rfl, h, r⟩ := tp.tup; exact .inr (.inl ⟨vs, h, by rw [r.emp]; exact h3.symm⟩)
/-! ### values by tests -/
def eIf (c : BF) (a b : EF) : EF := fun ρ => do
  let (x, ρ1) ← c ρ
  if x then a ρ1 else b ρ1
theorem ev_if {c : TT} {ta tb : TE} {f : BF} {a b : EF} (hc : TV K A c f) (ha : EV K A ta a) (hb : EV K A tb b) : EV K A (tIf c ta tb) (eIf f a b) := fun G σ H ρ O rl o ρ' e Q q => by
  simp only [eIf, Option.bind_eq_bind, Option.bind_eq_some_iff] at e
  obtain ⟨⟨y, ρ1⟩, h1, h2⟩ := e
  refine hc G σ H ρ O rl y ρ1 h1 _ fun H1 O1 p1 => ?_
  cases y with
  | true => rw [if_pos rfl] at h2 ⊢; exact ha G σ H1 ρ1 O1 p1.rel o ρ' h2 _ fun v H2 O2 p2 r2 => q v H2 O2 (p1.trans p2) (r2.back p1.lv)
  | false => dsimp only at h2; rw [if_neg Bool.false_ne_true] at h2 ⊢; exact hb G σ H1 ρ1 O1 p1.rel o ρ' h2 _ fun v H2 O2 p2 r2 => q v H2 O2 (p1.trans p2) (r2.back p1.lv)
def eAnd (a b : EF) : EF := fun ρ => do
  let (x, ρ1) ← bE a ρ
  if x then b ρ1 else pure (.val (.bl false), ρ1)
def eOr (a b : EF) : EF := fun ρ => do
  let (x, ρ1) ← bE a ρ
  if x then pure (.val (.bl true), ρ1) else b ρ1
def eNot (a : EF) : EF := fun ρ => do
  let (x, ρ1) ← bE a ρ
  pure (.val (.bl (!x)), ρ1)
theorem ev_and {ta tb : TE} {a b : EF} (ha : EV K A ta a) (hb : EV K A tb b) : EV K A (tAndV ta tb) (eAnd a b) := fun G σ H ρ O rl o ρ' e Q q => by
  simp only [eAnd, Option.bind_eq_bind, Option.bind_eq_some_iff] at e
  obtain ⟨⟨y, ρ1⟩, h1, h2⟩ := e
  refine tv_b ha G σ H ρ O rl y ρ1 h1 _ fun H1 O1 p1 => ?_
  cases y with
  | true => rw [if_pos rfl] at h2 ⊢; exact hb G σ H1 ρ1 O1 p1.rel o ρ' h2 _ fun v H2 O2 p2 r2 => q v H2 O2 (p1.trans p2) (r2.back p1.lv)
  | false => dsimp only at h2; rw [if_neg Bool.false_ne_true] at h2 ⊢; cases h2; exact q _ H1 O1 p1 (Rp.bl _)
theorem ev_or {ta tb : TE} {a b : EF} (ha : EV K A ta a) (hb : EV K A tb b) : EV K A (tOrV ta tb) (eOr a b) := fun G σ H ρ O rl o ρ' e Q q => by
  simp only [eOr, Option.bind_eq_bind, Option.bind_eq_some_iff] at e
  obtain ⟨⟨y, ρ1⟩, h1, h2⟩ := e
  refine tv_b ha G σ H ρ O rl y ρ1 h1 _ fun H1 O1 p1 => ?_
  cases y with
  | true => rw [if_pos rfl] at h2 ⊢; cases h2; exact q _ H1 O1 p1 (Rp.bl _)
  | false => dsimp only at h2; rw [if_neg Bool.false_ne_true] at h2 ⊢; exact hb G σ H1 ρ1 O1 p1.rel o ρ' h2 _ fun v H2 O2 p2 r2 => q v H2 O2 (p1.trans p2) (r2.back p1.lv)
theorem ev_not {ta : TE} {a : EF} (ha : EV K A ta a) : EV K A (tNotV ta) (eNot a) := fun G σ H ρ O rl o ρ' e Q q => by
  simp only [eNot, Option.bind_eq_bind, Option.bind_eq_some_iff] at e
  obtain ⟨⟨y, ρ1⟩, h1, h2⟩ := e
  cases h2
  exact tv_b ha G σ H ρ O rl y ρ1 h1 _ fun H1 O1 p1 => q _ H1 O1 p1 (Rp.bl _)
/-! ### displays -/
/-- what of the arguments is new and held by nobody stays so -/
def ocm : List Opd → Rho → Option (List (Bool × T) × Rho)
  | [], ρ => some ([], ρ)
  | .own t :: r, ρ => do
    let (xs, ρ2) ← ocm r ρ
    pure ((true, t) :: xs, ρ2)
  | .ot _ :: _, _ => none
  | o :: r, ρ => do
    let (t, ρ1) ← share o ρ
    let (xs, ρ2) ← ocm r ρ1
    pure ((false, t) :: xs, ρ2)
def eTup (a : AF) : EF := fun ρ => do
  let (os, ρ1) ← a ρ
  let (ts, ρ2) ← shareL os ρ1
  if ts.length ≤ sizeLine then pure (.val (.tup ts), ρ2) else none
def eLst (a : AF) : EF := fun ρ => do
  let (os, ρ1) ← a ρ
  let (ts, ρ2) ← shareL os ρ1
  if ts.length ≤ sizeLine then pure (.own (.lst ts), ρ2) else none
theorem ev_tup {tl : TA} {a : AF} (ha : AV K A tl a) : EV K A (tTup tl) (eTup a) := fun G σ H ρ O rl o ρ' e Q q => by
  simp only [eTup, Option.bind_eq_bind, Option.bind_eq_some_iff] at e
  obtain ⟨⟨os, ρ1⟩, h1, ⟨ts, ρ2⟩, h2, h3⟩ := e
  refine ha G σ H ρ O rl os ρ1 h1 _ fun vs H1 O0 p0 s0 nd => ?_
  obtain ⟨O1, p1, s1⟩ := release rl p0 s0
  obtain ⟨O2, p2, r2⟩ := shareL_ok p1.rel s1 (by rw [shareL_fz]; exact h2)
  dsimp only at h3
  split at h3
  · rename_i hl
    cases h3
    refine ⟨by rw [r2.len]; exact hl, fun p hp => ?_⟩
    have sm : Same H1 (upd H1 p (.tup vs)) := same_new hp
    obtain ⟨O3, p3, r3⟩ := NewR.post (x := .val (.tup ts)) p2.rel sm (show Rp K A (hide (upd H1 p (.tup vs)) O2) (.ref p) (.tup ts) from
      .tup (.inl (.inl (hide_of (p2.rel.fresh hp).1 upd_same))) (r2.mono (Le.of (hide_newv hp))))
    exact q _ _ O3 ((p1.trans p2).trans p3) (r3.back (p1.trans p2).lv)
  · cases h3
theorem ev_lst {tl : TA} {a : AF} (ha : AV K A tl a) : EV K A (tLst tl) (eLst a) := fun G σ H ρ O rl o ρ' e Q q => by
  simp only [eLst, Option.bind_eq_bind, Option.bind_eq_some_iff] at e
  obtain ⟨⟨os, ρ1⟩, h1, ⟨ts, ρ2⟩, h2, h3⟩ := e
  refine ha G σ H ρ O rl os ρ1 h1 _ fun vs H1 O0 p0 s0 nd => ?_
  obtain ⟨O1, p1, s1⟩ := release rl p0 s0
  obtain ⟨O2, p2, r2⟩ := shareL_ok p1.rel s1 (by rw [shareL_fz]; exact h2)
  dsimp only at h3
  split at h3
  · rename_i hl
    cases h3
    refine ⟨by rw [r2.len]; exact hl, fun p hp => ?_⟩
    have sm : Same H1 (upd H1 p (.lst vs)) := same_new hp
    obtain ⟨O3, p3, r3⟩ := NewR.post (x := .own (.lst ts)) p2.rel sm ⟨p, rfl, hp, vs, upd_same, r2.mono (Le.of (hide_new hp))⟩
    exact q _ _ O3 ((p1.trans p2).trans p3) (r3.back (p1.trans p2).lv)
  · cases h3
end
end QT

set_option Elab.async false
set_option linter.all false
set_option maxRecDepth 100000
set_option maxHeartbeats 4000000
namespace QT
open PySem PySem.Spec PyProof.Rows L2 QB
section
variable {K : PySem.W.Frag} {A : Nat → Addr} {G : Fx} {σ : L2.St} {H H' H2 : Hp} {ρ ρ' ρ2 : Rho} {O O' O2 : Oset} {i : Nat} {p : Addr} {t t' : T} {v : V} {x : Opd}
theorem ocm_ok {Hs : Hp} : ∀ {vs : List V} {os : List Opd} {xs : List (Bool × T)} {ρ ρ' : Rho} {O : Oset}, Rel K A G σ H ρ O → Paired (Rl K A σ Hs H ρ O) vs os → ocm os ρ = some (xs, ρ') → ∃ O', Post K A G σ H ρ O H ρ' O' ∧ Paired (Cm K A σ Hs H ρ' O') vs xs ∧ cmA vs xs = owA vs os
  | _, _, _, _, _, O, r, .nil, e => by cases e; exact ⟨O, .refl r, .nil, rfl⟩
  | v :: vs, .own t :: os, _, ρ, _, O, r, .cons ⟨p, e1, a⟩ b, e => by
    subst e1
    simp only [ocm, Option.bind_eq_bind, Option.bind_eq_some_iff] at e
    obtain ⟨⟨xs, ρ2⟩, h2, h3⟩ := e
    cases h3
    obtain ⟨O2, p2, x2, n2⟩ := ocm_ok r b h2
    exact ⟨O2, p2, .cons ⟨p, rfl, a.up p2⟩ x2, by simp only [cmA, owA, n2]⟩
  | v :: vs, .ot _ :: os, _, ρ, _, O, r, .cons a b, e => by cases e
  | v :: vs, .val t :: os, _, ρ, _, O, r, .cons a b, e => by
    simp only [ocm, Option.bind_eq_bind, Option.bind_eq_some_iff] at e
    obtain ⟨⟨t1, ρ1⟩, h1, ⟨xs, ρ2⟩, h2, h3⟩ := e
    cases h3
    obtain ⟨O1, p1, x1⟩ := share_ok (x := .val t) r a h1
    obtain ⟨O2, p2, x2, n2⟩ := ocm_ok p1.rel (paired_map (fun _ _ z => Rl.up z p1) b) h2
    refine ⟨O2, p1.trans p2, .cons (show Rp K A _ _ _ from x1.mono (Le.of p2.le)) x2, ?_⟩
    have e1 : cmA (v :: vs) ((false, t1) :: xs) = cmA vs xs := by cases v <;> rfl
    have e2 : owA (v :: vs) (.val t :: os) = owA vs os := by cases v <;> rfl
    rw [e1, e2, n2]
  | v :: vs, .slot t :: os, _, ρ, _, O, r, .cons a b, e => by
    simp only [ocm, Option.bind_eq_bind, Option.bind_eq_some_iff] at e
    obtain ⟨⟨t1, ρ1⟩, h1, ⟨xs, ρ2⟩, h2, h3⟩ := e
    cases h3
    obtain ⟨O1, p1, x1⟩ := share_ok (x := .slot t) r a h1
    obtain ⟨O2, p2, x2, n2⟩ := ocm_ok p1.rel (paired_map (fun _ _ z => Rl.up z p1) b) h2
    refine ⟨O2, p1.trans p2, .cons (show Rp K A _ _ _ from x1.mono (Le.of p2.le)) x2, ?_⟩
    have e1 : cmA (v :: vs) ((false, t1) :: xs) = cmA vs xs := by cases v <;> rfl
    have e2 : owA (v :: vs) (.slot t :: os) = owA vs os := by cases v <;> rfl
    rw [e1, e2, n2]
/-- a tuple of new things that may be changed later -/
def eOT (a : AF) : EF := fun ρ => do
  let (os, ρ1) ← a ρ
  let (xs, ρ2) ← ocm os ρ1
  if xs.length ≤ sizeLine then pure (.ot xs, ρ2) else none
theorem paired_len {α β : Type} {R : α → β → Prop} : ∀ {xs : List α} {ys : List β}, Paired R xs ys → xs.length = ys.length
  | _, _, .nil => rfl
  | _, _, .cons _ b => by simp [paired_len b]
theorem ev_ot {tl : TA} {a : AF} (ha : AV K A tl a) : EV K A (tTup tl) (eOT a) := fun G σ H ρ O rl o ρ' e Q q => by
  simp only [eOT, Option.bind_eq_bind, Option.bind_eq_some_iff] at e
  obtain ⟨⟨os, ρ1⟩, h1, ⟨xs, ρ2⟩, h2, h3⟩ := e
  refine ha G σ H ρ O rl os ρ1 h1 _ fun vs H1 O1 p1 s1 nd => ?_
  obtain ⟨O2, p2, r2, n2⟩ := ocm_ok p1.rel s1 h2
  dsimp only at h3
  split at h3
  · rename_i hl
    cases h3
    refine ⟨by rw [paired_len r2]; exact hl, fun p hp => ?_⟩
    have p3 : Post K A G σ H1 ρ' O2 (upd H1 p (.tup vs)) ρ' O2 := .same p2.rel (same_new hp)
    refine q _ _ O2 ((p1.trans p2).trans p3) ⟨p, vs, rfl, nn_back (p1.trans p2).lv hp, hide_of (p2.rel.fresh hp).1 upd_same, paired_map (fun _ _ z => Cm.up z p3) r2, by rw [n2]; exact nd⟩
  · cases h3
/-! ### statements -/
inductive Out where
  | fail | nx (ρ : Rho) | rt (o : Opd) (ρ : Rho) | bk (ρ : Rho) | ct (ρ : Rho)
abbrev SF := Rho → Out
structure Stp (K : PySem.W.Frag) (A : Nat → Addr) (G : Fx) (H : Hp) (O : Oset) (σ' : L2.St) (H' : Hp) (ρ' : Rho) (O' : Oset) : Prop where
  rel : Rel K A G σ' H' ρ' O'
  le : Same (hide H O) (hide H' O')
  lv : ∀ a, H a ≠ none → H' a ≠ none
/-- what is returned -/
def Own2 (K : PySem.W.Frag) (A : Nat → Addr) (Hs H : Hp) (O : Oset) (p : Addr) (t : T) : Prop := Hs p = none ∧ O p ∧ Own1 K A H (hide H O) p t
def Cr (K : PySem.W.Frag) (A : Nat → Addr) (Hs H : Hp) (O : Oset) : V → Bool × T → Prop
  | v, (false, t) => Rp K A (hide H O) v t
  | v, (true, t) => ∃ p, v = .ref p ∧ Own2 K A Hs H O p t
def RetR (K : PySem.W.Frag) (A : Nat → Addr) (Hs H : Hp) (O : Oset) (v : V) : Opd → Prop
  | .val t => Rp K A (hide H O) v t
  | .slot _ => False
  | .own t => ∃ p, v = .ref p ∧ Own2 K A Hs H O p t
  | .ot xs => ∃ p vs, v = .ref p ∧ Hs p = none ∧ hide H O p = some (.tup vs) ∧ Paired (Cr K A Hs H O) vs xs ∧ (cmA vs xs).Nodup
def EndsOK (K : PySem.W.Frag) (A : Nat → Addr) (D : Ends) (G : Fx) (H : Hp) (O : Oset) : Out → Prop
  | .fail => False
  | .nx ρ' => ∀ σ' H' O', Stp K A G H O σ' H' ρ' O' → D.nx σ' H'
  | .bk ρ' => ∀ σ' H' O', Stp K A G H O σ' H' ρ' O' → D.bk σ' H'
  | .ct ρ' => ∀ σ' H' O', Stp K A G H O σ' H' ρ' O' → D.ct σ' H'
  | .rt x ρ' => ∀ v σ' H' O', Stp K A G H O σ' H' ρ' O' → RetR K A G.H0 H' O' v x → D.rt v H'
def SV (K : PySem.W.Frag) (A : Nat → Addr) (ts : TS) (F : SF) : Prop := ∀ (G : Fx) (σ : L2.St) (H : Hp) (ρ : Rho) (O : Oset) (D : Ends), Rel K A G σ H ρ O → EndsOK K A D G H O (F ρ) → ts D σ H
theorem Stp.refl (r : Rel K A G σ H ρ O) : Stp K A G H O σ H ρ O := ⟨r, Same.refl _, fun _ e => e⟩
theorem Stp.pre {H1 : Hp} {O1 : Oset} {σ' : L2.St} (le : Same (hide H O) (hide H1 O1)) (lv : ∀ a, H a ≠ none → H1 a ≠ none) (b : Stp K A G H1 O1 σ' H2 ρ2 O2) : Stp K A G H O σ' H2 ρ2 O2 := ⟨b.rel, le.trans b.le, fun a e => b.lv a (lv a e)⟩
theorem EndsOK.up {D : Ends} {u : Out} {H1 : Hp} {O1 : Oset} (h : EndsOK K A D G H O u) (le : Same (hide H O) (hide H1 O1)) (lv : ∀ a, H a ≠ none → H1 a ≠ none) : EndsOK K A D G H1 O1 u := by
  cases u with
  | fail => exact h
  | nx ρ => exact fun σ' H' O' s => h σ' H' O' (s.pre le lv)
  | bk ρ => exact fun σ' H' O' s => h σ' H' O' (s.pre le lv)
  | ct ρ => exact fun σ' H' O' s => h σ' H' O' (s.pre le lv)
  | rt x ρ => exact fun v σ' H' O' s => h v σ' H' O' (s.pre le lv)
def sNext : SF := fun ρ => .nx ρ
def sBreak : SF := fun ρ => .bk ρ
def sCont : SF := fun ρ => .ct ρ
theorem sv_next : SV K A tNext sNext := fun G σ H ρ O D r e => e σ H O (.refl r)
theorem sv_break : SV K A tBreak sBreak := fun G σ H ρ O D r e => e σ H O (.refl r)
theorem sv_cont : SV K A tCont sCont := fun G σ H ρ O D r e => e σ H O (.refl r)
def sSeq (a b : SF) : SF := fun ρ => match a ρ with
  | .nx ρ1 => b ρ1
  | o => o
theorem sv_seq {t u : TS} {a b : SF} (ha : SV K A t a) (hb : SV K A u b) : SV K A (tSeq t u) (sSeq a b) := fun G σ H ρ O D r e => by
  refine ha G σ H ρ O _ r ?_
  unfold sSeq at e
  cases h : a ρ with
  | fail => rw [h] at e; exact e
  | nx ρ1 => rw [h] at e; exact fun σ' H' O' s => hb G σ' H' ρ1 O' D s.rel (e.up s.le s.lv)
  | bk ρ1 => rw [h] at e; exact e
  | ct ρ1 => rw [h] at e; exact e
  | rt x ρ1 => rw [h] at e; exact e
def sIf (c : BF) (a b : SF) : SF := fun ρ => match c ρ with
  | some (true, ρ1) => a ρ1
  | some (false, ρ1) => b ρ1
  | none => .fail
theorem sv_if {c : TT} {t u : TS} {f : BF} {a b : SF} (hc : TV K A c f) (ha : SV K A t a) (hb : SV K A u b) : SV K A (tIfS c t u) (sIf f a b) := fun G σ H ρ O D r e => by
  unfold sIf at e
  split at e
  · rename_i ρ1 h; exact hc G σ H ρ O r _ _ h _ fun H1 O1 p1 => by rw [if_pos rfl]; exact ha G σ H1 ρ1 O1 D p1.rel (e.up p1.le p1.lv)
  · rename_i ρ1 h; exact hc G σ H ρ O r _ _ h _ fun H1 O1 p1 => by rw [if_neg Bool.false_ne_true]; exact hb G σ H1 ρ1 O1 D p1.rel (e.up p1.le p1.lv)
  · exact e.elim
def sDrop (f : EF) : SF := fun ρ => match f ρ with
  | some (_, ρ1) => .nx ρ1
  | none => .fail
theorem sv_drop {te : TE} {f : EF} (he : EV K A te f) : SV K A (tDrop te) (sDrop f) := fun G σ H ρ O D r e => by
  unfold sDrop at e
  split at e
  · rename_i o ρ1 h; exact he G σ H ρ O r _ _ h _ fun v H1 O1 p1 _ => e σ H1 O1 ⟨p1.rel, p1.le, p1.lv⟩
  · exact e.elim
/-- a value goes into slot i -/
def put1 (i : Nat) (o : Opd) (ρ : Rho) : Option Rho := match o with
  | .own t => some (ρ.set i (.own t))
  | o => (share o ρ).map fun (t, ρ1) => ρ1.set i (.val t)
def sAsg (i : Nat) (f : EF) : SF := fun ρ => match f ρ with
  | some (o, ρ1) => (match put1 i o ρ1 with
    | some ρ2 => .nx ρ2
    | none => .fail)
  | none => .fail
theorem sv_asg {te : TE} {f : EF} (he : EV K A te f) : SV K A (tAsg te (gName i)) (sAsg i f) := fun G σ H ρ O D r e => by
  unfold sAsg at e
  split at e
  · rename_i o ρ1 h
    refine he G σ H ρ O r _ _ h _ fun v H1 O1 p1 s1 => ?_
    show D.nx (σ.set i (some v)) H1
    have key : o = o.fz ∨ True → ∀ t ρ2, share o ρ1 = some (t, ρ2) → (∃ ρ3, ρ3 = ρ2.set i (.val t) ∧ EndsOK K A D G H O (.nx ρ3)) → D.nx (σ.set i (some v)) H1 := fun _ t ρ2 hs ⟨ρ3, e3, hE⟩ => by
      obtain ⟨O2, p2, s2⟩ := release (vs := [v]) (os := [o]) r p1 (.cons s1 .nil)
      cases s2 with
      | cons s2 _ =>
        obtain ⟨O3, p3, x3⟩ := share_ok p2.rel s2 (by rw [share_fz]; exact hs)
        have p4 := p2.trans p3
        subst e3
        exact hE _ _ O3 ⟨p4.rel.put x3, p4.le, p4.lv⟩
    cases o with
    | own t =>
      obtain ⟨p, rfl, tm⟩ := s1
      exact e _ H1 O1 ⟨p1.rel.putOwn tm.hid (r.fresh tm.new).2.1 tm.un tm.own, p1.le, p1.lv⟩
    | val t =>
      exact key (.inr trivial) t ρ1 rfl ⟨_, rfl, e⟩
    | ot xs =>
      exact key (.inr trivial) _ ρ1 rfl ⟨_, rfl, e⟩
    | slot j =>
      cases hs : share (.slot j) ρ1 with
      | none => simp only [put1, hs, Option.map_none] at e; exact e.elim
      | some z =>
        obtain ⟨t, ρ2⟩ := z
        simp only [put1, hs, Option.map_some] at e
        exact key (.inr trivial) t ρ2 hs ⟨_, rfl, e⟩
  · exact e.elim
/-- return -/
def ret1 (o : Opd) (ρ : Rho) : Out := match o with
  | .slot i => (match ρ[i]? with
    | some (.val t) => .rt (.val t) ρ
    | some (.own t) => .rt (.own t) ρ
    | _ => .fail)
  | o => .rt o ρ
def sRet (f : EF) : SF := fun ρ => match f ρ with
  | some (o, ρ1) => ret1 o ρ1
  | none => .fail
theorem Tmp.ret {Hs : Hp} (h : Tmp K A σ H H' ρ' O' p t) (lv : ∀ a, Hs a ≠ none → H a ≠ none) : Own2 K A Hs H' O' p t := ⟨nn_back lv h.new, h.hid, h.own⟩
theorem sv_ret {te : TE} {f : EF} (he : EV K A te f) : SV K A (tRet te) (sRet f) := fun G σ H ρ O D r e => by
  unfold sRet at e
  split at e
  · rename_i o ρ1 h
    refine he G σ H ρ O r _ _ h _ fun v H1 O1 p1 s1 => ?_
    have st : Stp K A G H O σ H1 ρ1 O1 := ⟨p1.rel, p1.le, p1.lv⟩
    cases o with
    | val t => exact e v σ H1 O1 st s1
    | own t =>
      obtain ⟨p, rfl, tm⟩ := s1
      exact e _ σ H1 O1 st ⟨p, rfl, tm.ret r.live⟩
    | ot xs =>
      obtain ⟨p, vs, rfl, hn, hp, hc, nd⟩ := s1
      refine e _ σ H1 O1 st ⟨p, vs, rfl, nn_back r.live hn, hp, paired_map (fun a b z => ?_) hc, nd⟩
      obtain ⟨b, t⟩ := b
      cases b with
      | false => exact z
      | true => obtain ⟨q, eq, z⟩ := z; exact ⟨q, eq, z.ret r.live⟩
    | slot j =>
      have s1 : σ[j]? = some (some v) := s1
      unfold ret1 at e
      dsimp only at e
      split at e
      · rename_i t hs
        obtain ⟨w, h1, h2⟩ := p1.rel.val j t hs
        rw [s1] at h1; cases h1
        exact e v σ H1 O1 st h2
      · rename_i t hs
        obtain ⟨q, h1, h2, h3, h4⟩ := p1.rel.own j t hs
        rw [s1] at h1; cases h1
        exact e _ σ H1 O1 st ⟨q, rfl, p1.rel.new q h2 h3, h2, h4⟩
      · exact e.elim
  · exact e.elim
def sRetN : SF := fun ρ => .rt (.val .non) ρ
theorem sv_retN : SV K A tRetN sRetN := fun G σ H ρ O D r e => e .non σ H O (.refl r) .non
end
end QT

set_option Elab.async false
set_option linter.all false
set_option maxRecDepth 100000
set_option maxHeartbeats 4000000
namespace QT
open PySem PySem.Spec PyProof.Rows L2 QB
section
variable {K : PySem.W.Frag} {A : Nat → Addr} {G : Fx} {σ σ' : L2.St} {H H' H2 : Hp} {ρ ρ' ρ2 : Rho} {O O' O2 : Oset} {i : Nat} {p : Addr} {t t' : T} {v : V} {x : Opd}
/-! ### targets of values -/
def GV (K : PySem.W.Frag) (A : Nat → Addr) (is : List Nat) (g : TG) (s : T → Rho → Option Rho) : Prop := ∀ (G : Fx) (σ : L2.St) (H : Hp) (ρ : Rho) (O : Oset) (v : V) (t : T) (ρ' : Rho), Rel K A G σ H ρ O → Rp K A (hide H O) v t → s t ρ = some ρ' → ∀ Q : L2.St → Hp → Prop, (∀ σ', Rel K A G σ' H ρ' O → (∀ j, hold ρ' j → hold ρ j ∧ σ'[j]? = σ[j]?) → (∀ j, j ∉ is → σ'[j]? = σ[j]?) → σ'.length = σ.length → Q σ' H) → g v σ H Q
def GVs (K : PySem.W.Frag) (A : Nat → Addr) (is : List Nat) (g : TGs) (s : List T → Rho → Option Rho) : Prop := ∀ (G : Fx) (σ : L2.St) (H : Hp) (ρ : Rho) (O : Oset) (vs : List V) (ts : List T) (ρ' : Rho), Rel K A G σ H ρ O → RpL K A (hide H O) vs ts → s ts ρ = some ρ' → ∀ Q : L2.St → Hp → Prop, (∀ σ', Rel K A G σ' H ρ' O → (∀ j, hold ρ' j → hold ρ j ∧ σ'[j]? = σ[j]?) → (∀ j, j ∉ is → σ'[j]? = σ[j]?) → σ'.length = σ.length → Q σ' H) → g vs σ H Q
def pN (i : Nat) (t : T) (ρ : Rho) : Option Rho := some (ρ.set i (.val t))
def pT (n : Nat) (s : List T → Rho → Option Rho) : T → Rho → Option Rho
  | .tup ts, ρ => if ts.length = n then s ts ρ else none
  | _, _ => none
def pNil : List T → Rho → Option Rho
  | [], ρ => some ρ
  | _, _ => none
def pCons (a : T → Rho → Option Rho) (b : List T → Rho → Option Rho) : List T → Rho → Option Rho
  | t :: r, ρ => (a t ρ).bind fun ρ1 => b r ρ1
  | [], _ => none
theorem gv_name : GV K A [i] (gName i) (pN i) := fun G σ H ρ O v t ρ' r h e Q q => by
  cases e
  refine q _ (r.put h) (fun j hj => ?_) (fun j hj => set_ne (by simpa using hj)) (by rw [List.length_set])
  rcases hold_set hj with ⟨_, _, hx | hx⟩ | ⟨n, hx⟩
  · cases hx
  · cases hx
  · exact ⟨hx, set_ne n⟩
theorem gv_nil : GVs K A [] gNil pNil := fun G σ H ρ O vs ts ρ' r h e Q q => by
  cases h with
  | nil => cases e; exact ⟨rfl, q _ r (fun j h => ⟨h, rfl⟩) (fun _ _ => rfl) rfl⟩
  | cons _ _ => cases e
theorem gv_cons {g : TG} {u : TGs} {a : T → Rho → Option Rho} {b : List T → Rho → Option Rho} {i1 i2 : List Nat} (hg : GV K A i1 g a) (hu : GVs K A i2 u b) : GVs K A (i1 ++ i2) (gCons g u) (pCons a b) := fun G σ H ρ O vs ts ρ' r h e Q q => by
  cases h with
  | nil => cases e
  | cons h1 h2 =>
    simp only [pCons, Option.bind_eq_some_iff] at e
    obtain ⟨ρ1, e1, e2⟩ := e
    refine ⟨_, _, rfl, hg G σ H ρ O _ _ ρ1 r h1 e1 _ fun σ1 r1 k1 n1 l1 => ?_⟩
    exact hu G σ1 H ρ1 O _ _ ρ' r1 h2 e2 _ fun σ2 r2 k2 n2 l2 => q σ2 r2 (fun j hj => ⟨(k1 j (k2 j hj).1).1, (k2 j hj).2.trans (k1 j (k2 j hj).1).2⟩) (fun j hj => (n2 j fun x => hj (List.mem_append.mpr (.inr x))).trans (n1 j fun x => hj (List.mem_append.mpr (.inl x)))) (l2.trans l1)
theorem gv_tup {n : Nat} {u : TGs} {b : List T → Rho → Option Rho} {is : List Nat} (hu : GVs K A is u b) : GV K A is (gTup K n u) (pT n b) := fun G σ H ρ O v t ρ' r h e Q q => by
  cases h with
  | tup h1 h2 =>
    simp only [pT] at e
    split at e
    · rename_i hn
      exact ⟨_, _, rfl, hide_le.sqT h1, by rw [h2.len]; exact hn, hu G σ H ρ O _ _ ρ' r h2 e Q q⟩
    · cases e
  | _ => cases e
/-! ### what a for walks -/
structure IterOK (K : PySem.W.Frag) (A : Nat → Addr) (J : It) (ts : List T) (Iv : Hp → Oset → Prop) : Prop where
  up : ∀ H O H' O', Iv H O → Same (hide H O) (hide H' O') → Iv H' O'
  go : ∀ H O i t, Iv H O → (∀ p, O p → H p ≠ none) → ts[i]? = some t → J.go i H ∧ ∀ x H', J.yld i H x H' → Same H H' ∧ Rp K A (hide H' O) x t
  stop : ∀ H O, Iv H O → J.stop ts.length H
abbrev IF := Rho → Option (List T × Rho)
def IV (K : PySem.W.Frag) (A : Nat → Addr) (wi : TI) (f : IF) : Prop := ∀ (G : Fx) (σ : L2.St) (H : Hp) (ρ : Rho) (O : Oset), Rel K A G σ H ρ O → ∀ ts ρ', f ρ = some (ts, ρ') → ∀ R : It → Hp → Prop, (∀ J H' O' Iv, Post K A G σ H ρ O H' ρ' O' → IterOK K A J ts Iv → Iv H' O' → R J H') → wi σ H R
/-- the value is let go, and read -/
def opened (f : EF) : Rho → Option (T × Rho) := fun ρ => do
  let (o, ρ1) ← f ρ
  share o ρ1
theorem opened_ok {te : TE} {f : EF} (he : EV K A te f) (r : Rel K A G σ H ρ O) (e : opened f ρ = some (t, ρ')) (Q : VK) (q : ∀ v H' O', Post K A G σ H ρ O H' ρ' O' → Rp K A (hide H' O') v t → Q v H') : te σ H Q := by
  simp only [opened, Option.bind_eq_bind, Option.bind_eq_some_iff] at e
  obtain ⟨⟨o, ρ1⟩, h1, h2⟩ := e
  refine he G σ H ρ O r o ρ1 h1 _ fun v H1 O1 p1 s1 => ?_
  obtain ⟨O2, p2, s2⟩ := release (vs := [v]) (os := [o]) r p1 (.cons s1 .nil)
  cases s2 with
  | cons s2 _ =>
    obtain ⟨O3, p3, x3⟩ := share_ok p2.rel s2 (by rw [share_fz]; exact h2)
    exact q v H1 O3 (p2.trans p3) x3
def iL (f : EF) : IF := fun ρ => do
  let (t, ρ1) ← opened f ρ
  match t with
  | .lst ts => pure (ts, ρ1)
  | _ => none
def iT (f : EF) : IF := fun ρ => do
  let (t, ρ1) ← opened f ρ
  match t with
  | .tup ts => pure (ts, ρ1)
  | _ => none
theorem iv_lst {te : TE} {f : EF} (he : EV K A te f) : IV K A (iList K te) (iL f) := fun G σ H ρ O r ts ρ' e R q => by
  simp only [iL, Option.bind_eq_bind, Option.bind_eq_some_iff] at e
  obtain ⟨⟨t, ρ1⟩, h1, h2⟩ := e
  split at h2
  · rename_i us h3
    dsimp only at h3
    subst h3
    cases h2
    refine opened_ok he r h1 _ fun v H1 O1 p1 x1 => ?_
    cases x1 with
    | lst h r1 =>
      rename_i a vs
      refine ⟨a, rfl, ⟨vs, hide_le.sqL h⟩, q _ H1 O1 (fun H O => SqL K (hide H O) a vs ∧ RpL K A (hide H O) vs ts) p1 ⟨fun H O H' O' h l => ⟨(Le.of l).sqL h.1, h.2.mono (Le.of l)⟩, fun H O i t h d hi => ?_, fun H O h => ⟨vs, hide_le.sqL h.1, by rw [h.2.len]; exact Nat.le_refl _⟩⟩ ⟨h, r1⟩⟩
      obtain ⟨w, hw, rw⟩ := h.2.get hi
      refine ⟨⟨vs, w, hide_le.sqL h.1, hw⟩, fun x H' y => ?_⟩
      obtain ⟨rfl, y⟩ := y
      have := y vs (hide_le.sqL h.1)
      rw [hw] at this; cases this
      exact ⟨Same.refl _, rw⟩
  · cases h2
theorem iv_tup {te : TE} {f : EF} (he : EV K A te f) : IV K A (iTup K te) (iT f) := fun G σ H ρ O r ts ρ' e R q => by
  simp only [iT, Option.bind_eq_bind, Option.bind_eq_some_iff] at e
  obtain ⟨⟨t, ρ1⟩, h1, h2⟩ := e
  split at h2
  · rename_i us h3
    dsimp only at h3
    subst h3
    cases h2
    refine opened_ok he r h1 _ fun v H1 O1 p1 x1 => ?_
    cases x1 with
    | tup h r1 =>
      rename_i a vs
      refine ⟨a, rfl, ⟨vs, hide_le.sqT h⟩, q _ H1 O1 (fun H O => SqT K (hide H O) a vs ∧ RpL K A (hide H O) vs ts) p1 ⟨fun H O H' O' h l => ⟨(Le.of l).sqT h.1, h.2.mono (Le.of l)⟩, fun H O i t h d hi => ?_, fun H O h => ⟨vs, hide_le.sqT h.1, by rw [h.2.len]; exact Nat.le_refl _⟩⟩ ⟨h, r1⟩⟩
      obtain ⟨w, hw, rw⟩ := h.2.get hi
      refine ⟨⟨vs, w, hide_le.sqT h.1, hw⟩, fun x H' y => ?_⟩
      obtain ⟨rfl, y⟩ := y
      have := y vs (hide_le.sqT h.1)
      rw [hw] at this; cases this
      exact ⟨Same.refl _, rw⟩
  · cases h2
/-- lo, lo + 1, .. -/
def rngT (lo : Int) (n : Nat) : List T := (List.range n).map fun i : Nat => T.int (lo + (i : Int))
theorem rng_iter {lo : Int} {n : Nat} : IterOK K A (Itr lo n) (rngT lo n) (fun _ _ => True) := by
  have hl : (rngT lo n).length = n := by simp [rngT]
  refine ⟨fun _ _ _ _ _ _ => trivial, fun H O i t _ _ hi => ?_, fun H O _ => by rw [hl]; exact Nat.le_refl _⟩
  have h1 : i < n := by have := (List.getElem?_eq_some_iff.mp hi).1; rwa [hl] at this
  refine ⟨h1, fun x H' y => ?_⟩
  obtain ⟨rfl, rfl⟩ := y
  simp [rngT, h1] at hi
  subst hi
  exact ⟨Same.refl _, .int _⟩
def iR1 (a : AF) : IF := fun ρ => do
  let (os, ρ1) ← a ρ
  let ts ← trees ρ1 os
  match ts with
  | [.int j] => if -(2 ^ 62) ≤ j ∧ j < 2 ^ 62 then pure (rngT 0 j.toNat, ρ1) else none
  | _ => none
def iR2 (a : AF) : IF := fun ρ => do
  let (os, ρ1) ← a ρ
  let ts ← trees ρ1 os
  match ts with
  | [.int i, .int j] => if -(2 ^ 62) ≤ i ∧ i < 2 ^ 62 ∧ -(2 ^ 62) ≤ j ∧ j < 2 ^ 62 then pure (rngT i (j - i).toNat, ρ1) else none
  | _ => none
theorem iv_r1 {ta : TA} {a : AF} (ha : AV K A ta a) : IV K A (iRng1 ta) (iR1 a) := fun G σ H ρ O r ts ρ' e R q => by
  simp only [iR1, Option.bind_eq_bind, Option.bind_eq_some_iff] at e
  obtain ⟨⟨os, ρ1⟩, h1, us, h2, h3⟩ := e
  refine ha G σ H ρ O r os ρ1 h1 _ fun vs H1 O1 p1 s1 nd => ?_
  obtain ⟨O2, p2, s2⟩ := release r p1 s1
  have tp := tops_of p2.rel s2 (by rw [trees_fz]; exact h2)
  split at h3
  · rename_i j
    split at h3
    · rename_i hj
      cases h3
      match vs, tp with
      | [v], .cons a .nil => rw [a.int]; exact ⟨j, rfl, hj.1, hj.2, q _ H1 O2 _ p2 rng_iter trivial⟩
    · cases h3
  · cases h3
theorem iv_r2 {ta : TA} {a : AF} (ha : AV K A ta a) : IV K A (iRng2 ta) (iR2 a) := fun G σ H ρ O r ts ρ' e R q => by
  simp only [iR2, Option.bind_eq_bind, Option.bind_eq_some_iff] at e
  obtain ⟨⟨os, ρ1⟩, h1, us, h2, h3⟩ := e
  refine ha G σ H ρ O r os ρ1 h1 _ fun vs H1 O1 p1 s1 nd => ?_
  obtain ⟨O2, p2, s2⟩ := release r p1 s1
  have tp := tops_of p2.rel s2 (by rw [trees_fz]; exact h2)
  split at h3
  · rename_i i j
    split at h3
    · rename_i hj
      cases h3
      match vs, tp with
      | [v, w], .cons a (.cons b .nil) => rw [a.int, b.int]; exact ⟨i, j, rfl, hj, q _ H1 O2 _ p2 rng_iter trivial⟩
    · cases h3
  · cases h3
/-! ### for -/
def loopF (s : T → Rho → Option Rho) (b : SF) : List T → Rho → Out
  | [], ρ => .nx ρ
  | t :: r, ρ => match s t ρ with
    | none => .fail
    | some ρ1 => match b ρ1 with
      | .nx ρ2 => loopF s b r ρ2
      | .ct ρ2 => loopF s b r ρ2
      | .bk ρ2 => .nx ρ2
      | o => o
def sFor (f : IF) (s : T → Rho → Option Rho) (b : SF) : SF := fun ρ => match f ρ with
  | some (ts, ρ1) => loopF s b ts ρ1
  | none => .fail
theorem sv_for {wi : TI} {g : TG} {tb : TS} {f : IF} {s : T → Rho → Option Rho} {b : SF} (hi : IV K A wi f) {is : List Nat} (hg : GV K A is g s) (hb : SV K A tb b) : SV K A (tFor wi g tb) (sFor f s b) := fun G σ H ρ O D r e => by
  unfold sFor at e
  split at e
  · rename_i ts ρ1 h
    refine hi G σ H ρ O r ts ρ1 h _ fun J H1 O1 Iv p1 it iv => ?_
    refine ⟨fun i m σ H => m = ts.length - i ∧ i ≤ ts.length ∧ ∃ ρ O, Rel K A G σ H ρ O ∧ Iv H O ∧ EndsOK K A D G H O (loopF s b (ts.drop i) ρ), ⟨ts.length, by simp, Nat.zero_le _, ρ1, O1, p1.rel, iv, e.up p1.le p1.lv⟩, ?_⟩
    rintro i m σ2 H2 ⟨rfl, hi2, ρ2, O2, r2, iv2, e2⟩
    by_cases hlt : i < ts.length
    · have hx : ts[i]? = some ts[i] := by simp [hlt]
      have hd : ts.drop i = ts[i] :: ts.drop (i + 1) := (List.drop_eq_getElem_cons hlt)
      obtain ⟨g1, g2⟩ := it.go H2 O2 i _ iv2 r2.dom hx
      refine .inr ⟨g1, fun σ' H' => ∃ ρ O, Rel K A G σ' H' ρ O ∧ Iv H' O ∧ EndsOK K A D G H' O (loopF s b (ts.drop (i + 1)) ρ), fun σ' H' hN => ⟨ts.length - (i + 1), by omega, rfl, hlt, hN⟩, fun x H' y => ?_⟩
      obtain ⟨sm, rx⟩ := g2 x H' y
      rw [hd] at e2
      simp only [loopF] at e2
      split at e2
      · exact e2.elim
      · rename_i ρ3 hs
        refine hg G σ2 H' ρ2 O2 x _ ρ3 (r2.same sm) rx hs _ fun σ3 r3 k3 n3 l3 => ?_
        have l0 : Same (hide H2 O2) (hide H' O2) := hide_same sm
        have v0 := lv_same sm
        refine hb G σ3 H' ρ3 O2 _ r3 ?_
        cases hbo : b ρ3 with
        | fail => rw [hbo] at e2; exact e2.elim
        | nx ρ4 => rw [hbo] at e2; exact fun σ' H4 O4 st => ⟨ρ4, O4, st.rel, it.up _ _ _ _ iv2 (l0.trans st.le), e2.up (l0.trans st.le) fun a h => st.lv a (v0 a h)⟩
        | ct ρ4 => rw [hbo] at e2; exact fun σ' H4 O4 st => ⟨ρ4, O4, st.rel, it.up _ _ _ _ iv2 (l0.trans st.le), e2.up (l0.trans st.le) fun a h => st.lv a (v0 a h)⟩
        | bk ρ4 => rw [hbo] at e2; exact fun σ' H4 O4 st => e2 σ' H4 O4 (st.pre l0 v0)
        | rt x ρ4 => rw [hbo] at e2; exact fun w σ' H4 O4 st => e2 w σ' H4 O4 (st.pre l0 v0)
    · have ei : i = ts.length := by omega
      subst ei
      refine .inl ⟨it.stop H2 O2 iv2, ?_⟩
      rw [List.drop_length] at e2
      exact e2 σ2 H2 O2 (.refl r2)
  · exact e.elim
/-! ### while -/
def whileF (c : BF) (b : SF) : Nat → Rho → Out
  | 0, _ => .fail
  | n + 1, ρ => match c ρ with
    | none => .fail
    | some (false, ρ1) => .nx ρ1
    | some (true, ρ1) => match b ρ1 with
      | .nx ρ2 => whileF c b n ρ2
      | .ct ρ2 => whileF c b n ρ2
      | .bk ρ2 => .nx ρ2
      | o => o
def sWhile (fuel : Rho → Nat) (c : BF) (b : SF) : SF := fun ρ => whileF c b (fuel ρ) ρ
theorem sv_while {c : TT} {tb : TS} {f : BF} {b : SF} {fuel : Rho → Nat} (hc : TV K A c f) (hb : SV K A tb b) : SV K A (tWhile c tb) (sWhile fuel f b) := fun G σ H ρ O D r e => by
  refine ⟨fun m σ H => ∃ ρ O, Rel K A G σ H ρ O ∧ EndsOK K A D G H O (whileF f b m ρ), ⟨fuel ρ, ρ, O, r, e⟩, ?_⟩
  rintro m σ2 H2 ⟨ρ2, O2, r2, e2⟩
  cases m with
  | zero => exact e2.elim
  | succ m =>
    simp only [whileF] at e2
    split at e2
    · exact e2.elim
    · rename_i ρ3 h
      refine hc G σ2 H2 ρ2 O2 r2 _ _ h _ fun H3 O3 p3 => ?_
      rw [if_neg Bool.false_ne_true]
      exact e2 σ2 H3 O3 ⟨p3.rel, p3.le, p3.lv⟩
    · rename_i ρ3 h
      refine hc G σ2 H2 ρ2 O2 r2 _ _ h _ fun H3 O3 p3 => ?_
      rw [if_pos rfl]
      refine ⟨fun σ' H' => ∃ ρ O, Rel K A G σ' H' ρ O ∧ EndsOK K A D G H' O (whileF f b m ρ), fun σ' H' hN => ⟨m, Nat.lt_succ_self m, hN⟩, ?_⟩
      refine hb G σ2 H3 ρ3 O3 _ p3.rel ?_
      cases hbo : b ρ3 with
      | fail => rw [hbo] at e2; exact e2.elim
      | nx ρ4 => rw [hbo] at e2; exact fun σ' H4 O4 st => ⟨ρ4, O4, st.rel, e2.up (p3.le.trans st.le) fun a h => st.lv a (p3.lv a h)⟩
      | ct ρ4 => rw [hbo] at e2; exact fun σ' H4 O4 st => ⟨ρ4, O4, st.rel, e2.up (p3.le.trans st.le) fun a h => st.lv a (p3.lv a h)⟩
      | bk ρ4 => rw [hbo] at e2; exact fun σ' H4 O4 st => e2 σ' H4 O4 (st.pre p3.le p3.lv)
      | rt x ρ4 => rw [hbo] at e2; exact fun w σ' H4 O4 st => e2 w σ' H4 O4 (st.pre p3.le p3.lv)
end
end QT

set_option Elab.async false
set_option linter.all false
set_option maxRecDepth 100000
set_option maxHeartbeats 4000000
namespace QT
open PySem PySem.Spec PyProof.Rows L2 QB
section
variable {K : PySem.W.Frag} {A : Nat → Addr} {G : Fx} {σ σ' : L2.St} {H H' H2 : Hp} {ρ ρ' ρ2 : Rho} {O O' O2 : Oset} {i : Nat} {p : Addr} {t t' : T} {v : V} {x : Opd}
/-! ### slots forgotten -/
def wipeR (ρ : Rho) : List Nat → Rho
  | [] => ρ
  | v :: vs => (wipeR ρ vs).set v .no
theorem wipeR_get {s : Sl} {j : Nat} : ∀ {vs : List Nat}, (wipeR ρ vs)[j]? = some s → (j ∈ vs ∧ s = .no) ∨ (j ∉ vs ∧ ρ[j]? = some s)
  | [], h => .inr ⟨by simp, h⟩
  | v :: vs, h => by
    rcases set_get h with ⟨rfl, rfl⟩ | ⟨n, h⟩
    · exact .inl ⟨by simp, rfl⟩
    · rcases wipeR_get h with ⟨h1, h2⟩ | ⟨h1, h2⟩
      · exact .inl ⟨by simp [h1], h2⟩
      · exact .inr ⟨by simp [n, h1], h2⟩
theorem wipeR_len : ∀ vs : List Nat, (wipeR ρ vs).length = ρ.length
  | [] => rfl
  | v :: vs => by unfold wipeR; rw [List.length_set, wipeR_len vs]
theorem wipe_out {j : Nat} : ∀ {vs : List Nat}, j ∉ vs → (wipe σ vs)[j]? = σ[j]?
  | [], _ => rfl
  | v :: vs, h => by
    unfold wipe
    rw [set_ne (fun e => h (by simp [e]))]
    exact wipe_out (fun e => h (by simp [e]))
theorem hold_wipe {vs : List Nat} {j : Nat} (h : hold (wipeR ρ vs) j) : j ∉ vs ∧ hold ρ j := by
  obtain ⟨t, h | h⟩ := h
  · rcases wipeR_get h with ⟨_, e⟩ | ⟨h1, h2⟩
    · cases e
    · exact ⟨h1, t, .inl h2⟩
  · rcases wipeR_get h with ⟨_, e⟩ | ⟨h1, h2⟩
    · cases e
    · exact ⟨h1, t, .inr h2⟩
def wiped (ρ : Rho) (vs : List Nat) : Prop := ∀ j, hold ρ j → j ∉ vs
/-- the slots that ρ knows stand in both -/
theorem Rel.other (r : Rel K A G σ H ρ O) (hl : σ'.length = σ.length) (h : ∀ (j : Nat) (s : Sl), ρ[j]? = some s → s ≠ Sl.no → σ'[j]? = σ[j]?) : Rel K A G σ' H ρ O := by
  have hh : ∀ j, hold ρ j → σ'[j]? = σ[j]? := fun j ⟨t, e⟩ => by
    rcases e with e | e
    · exact h j _ e (by simp)
    · exact h j _ e (by simp)
  refine ⟨hl.trans r.len, fun j u e => ?_, fun j u e => ?_, fun j u e => ?_, fun j k q h1 h2 e1 e2 => ?_, r.dom, r.sub, r.isub, r.fr, r.new, r.live⟩
  · rw [h j _ e (by simp)]; exact r.val j u e
  · rw [h j _ e (by simp)]; exact r.own j u e
  · rw [h j _ e (by simp)]; exact r.io j u e
  · rw [hh j h1] at e1; rw [hh k h2] at e2; exact r.inj j k q h1 h2 e1 e2
theorem Rel.wipeS (r : Rel K A G σ H ρ O) : ∀ vs : List Nat, Rel K A G σ H (wipeR ρ vs) O
  | [] => r
  | v :: vs => (r.wipeS vs).kill
theorem Rel.wipe (r : Rel K A G σ H ρ O) (vs : List Nat) : Rel K A G (wipe σ vs) H (wipeR ρ vs) O :=
  (r.wipeS vs).other (wipe_length σ vs) fun j s e n => by
    rcases wipeR_get e with ⟨_, e⟩ | ⟨h, _⟩
    · exact absurd e n
    · exact wipe_out h
/-- what nobody holds is changed -/
theorem Rel.tmut {o : HO} (r : Rel K A G σ H ρ O) (hO : O p) (un : unheld σ ρ p) (n0 : ¬ G.O0 p) : Rel K A G σ (upd H p o) ρ O := by
  have eh := hide_upd (H := H) (o := o) hO
  have ne : ∀ j q, hold ρ j → σ[j]? = some (some (V.ref q)) → q ≠ p := fun j q hj e x => by subst x; exact un j hj e
  refine ⟨r.len, fun j u e => ?_, fun j u e => ?_, fun j u e => ?_, r.inj, fun q e => lv_upd lv_refl q (r.dom q e), r.sub, r.isub, fun q e n => ?_, r.new, fun a e => lv_upd lv_refl a (r.live a e)⟩
  · rw [eh]; exact r.val j u e
  · rw [eh]; obtain ⟨q, h1, h2, h3, h4⟩ := r.own j u e; exact ⟨q, h1, h2, h3, h4.mono (upd_ne (ne j q ⟨u, .inl e⟩ h1)) (Le.of (Same.refl _))⟩
  · rw [eh]; obtain ⟨q, h1, h2, h3, h4⟩ := r.io j u e; exact ⟨q, h1, h2, h3, h4.mono (upd_ne (ne j q ⟨u, .inr e⟩ h1)) (Le.of (Same.refl _))⟩
  · have nq : q ≠ p := fun x => by subst x; exact n0 e
    rw [upd_ne nq]; exact r.fr q e n
theorem wipe_eq {σ2 : L2.St} : ∀ {vs : List Nat}, (∀ j, j ∉ vs → σ2[j]? = σ[j]?) → σ2.length = σ.length → L2.wipe σ2 vs = L2.wipe σ vs := fun {vs} h hl => by
  apply List.ext_getElem?
  intro j
  by_cases hj : j ∈ vs
  · have key : ∀ (τ : L2.St) (ws : List Nat), j ∈ ws → (L2.wipe τ ws)[j]? = if j < τ.length then some none else none := fun τ ws => by
      induction ws with
      | nil => intro h; cases h
      | cons w ws ih =>
        intro hm
        unfold L2.wipe
        by_cases e : w = j
        · subst e
          rw [List.getElem?_set, if_pos rfl, wipe_length]
        · rw [set_ne (fun x => e x.symm)]
          exact ih ((List.mem_cons.mp hm).resolve_left fun x => e x.symm)
    rw [key _ _ hj, key _ _ hj, hl]
  · rw [wipe_out hj, wipe_out hj]; exact h j hj
/-! ### comprehensions -/
def compF (s : T → Rho → Option Rho) (tt : BF) (el : EF) (vs : List Nat) : List T → Rho → Option (List T × Rho)
  | [], ρ => some ([], ρ)
  | t :: r, ρ => (s t ρ).bind fun ρ1 => (tt ρ1).bind fun (b, ρ2) =>
    if b then (opened el ρ2).bind fun (u, ρ3) => (compF s tt el vs r (wipeR ρ3 vs)).bind fun (us, ρ4) => some (u :: us, ρ4)
    else compF s tt el vs r (wipeR ρ2 vs)
def eLc (it : IF) (s : T → Rho → Option Rho) (tt : BF) (el : EF) (vs : List Nat) : EF := fun ρ => do
  let (ts, ρ1) ← it ρ
  if ts.length < sizeLine then
    let (us, ρ2) ← compF s tt el vs ts (wipeR ρ1 vs)
    pure (.own (.lst us), ρ2)
  else none
/-- an iterator that also reads what stands at Ka, hidden and held by nobody -/
structure IterK (K : PySem.W.Frag) (A : Nat → Addr) (J : It) (ts : List T) (Iv : Hp → Oset → Prop) (Ka : Oset) : Prop where
  up : ∀ H O H' O', Iv H O → Same (hide H O) (hide H' O') → (∀ p, Ka p → O' p ∧ H' p = H p) → Iv H' O'
  go : ∀ H O i t, Iv H O → (∀ p, O p → H p ≠ none) → ts[i]? = some t → J.go i H ∧ ∀ x H', J.yld i H x H' → Same H H' ∧ Rp K A (hide H' O) x t
  stop : ∀ H O, Iv H O → J.stop ts.length H
theorem lc_at {g : TG} {tt : TT} {te : TE} {vs is : List Nat} {s : T → Rho → Option Rho} {bt : BF} {el : EF} (hg : GV K A is g s) (ht : TV K A tt bt) (he : EV K A te el) (hv : ∀ j ∈ is, j ∈ vs)
    {J : It} {ts us : List T} {Iv : Hp → Oset → Prop} {Ka : Oset} {H1 : Hp} {ρ1 ρe : Rho} {O1 : Oset} {Q : VK} (r1 : Rel K A G σ H1 ρ1 O1) (ok : IterK K A J ts Iv Ka) (iv : Iv H1 O1) (hK : ∀ p, Ka p → O1 p ∧ unheld σ ρ1 p) (hsz : ts.length < sizeLine)
    (h3 : compF s bt el vs ts (wipeR ρ1 vs) = some (us, ρe)) (q : ∀ v H' O', Post K A G σ H1 ρ1 O1 H' ρe O' → Rl K A σ H1 H' ρe O' v (.own (.lst us)) → Q v H') : LcW J g tt te vs σ H1 Q := by
    intro D hD
    obtain ⟨nO, n0, _⟩ := r1.fresh hD
    have pD : Post K A G σ H1 ρ1 O1 (upd H1 D (.lst [])) ρ1 (O1.add D) := .sameAdd r1 (same_new hD) hD (by rw [upd_same]; simp)
    have unD : unheld σ ρ1 D := r1.unh hD
    have wr : ∀ {ρ2 : Rho} (j : Nat) (s : Sl), (wipeR ρ2 vs)[j]? = some s → s ≠ Sl.no → j ∉ vs := fun j s e n => by
      rcases wipeR_get e with ⟨_, e⟩ | ⟨h, _⟩
      · exact absurd e n
      · exact h
    -- the state of a turn
    let In : Nat → Hp → Rho → Oset → Prop := fun i H2 ρ2 O2 =>
      Rel K A G (L2.wipe σ vs) H2 ρ2 O2 ∧ Same (hide H1 O1) (hide H2 O2) ∧ (∀ p, O2 p → O1 p ∨ H1 p = none) ∧ (∀ p, O1 p → unheld σ ρ1 p → O2 p ∧ H2 p = H1 p) ∧ (∀ j, hold ρ2 j → hold ρ1 j ∧ j ∉ vs) ∧ (∀ a, H1 a ≠ none → H2 a ≠ none) ∧ Iv H2 O2 ∧ O2 D ∧ (∀ (j : Nat) (s : Sl), ρ2[j]? = some s → s ≠ Sl.no → j ∉ vs)
    have out : ∀ {ρ2 : Rho} {p : Addr}, (∀ j, hold ρ2 j → hold ρ1 j ∧ j ∉ vs) → unheld σ ρ1 p → unheld (L2.wipe σ vs) ρ2 p := fun hs un j hj e => by
      obtain ⟨a, b⟩ := hs j hj
      rw [wipe_out b] at e
      exact un j a e
    refine ⟨fun i m H2 => m = ts.length - i ∧ i ≤ ts.length ∧ ∃ ρ2 O2 acc ds rest, In i H2 ρ2 O2 ∧ H2 D = some (.lst acc) ∧ RpL K A (hide H2 O2) acc ds ∧ acc.length ≤ i ∧ compF s bt el vs (ts.drop i) ρ2 = some (rest, ρe) ∧ ds ++ rest = us, ⟨ts.length, by simp, Nat.zero_le _, wipeR ρ1 vs, O1.add D, [], [], us, ⟨pD.rel.wipe vs, pD.le, pD.sub, pD.keep, fun j hj => ⟨(hold_wipe hj).2, (hold_wipe hj).1⟩, pD.lv, ok.up _ _ _ _ iv pD.le (fun p hp => pD.keep p (hK p hp).1 (hK p hp).2), .inl rfl, wr⟩, upd_same, .nil, Nat.le_refl _, h3, rfl⟩, ?_⟩
    rintro i m H2 ⟨rfl, hi2, ρ2, O2, acc, ds, rest, ⟨r2, le2, sub2, keep2, hs2, lv2, iv2, oD, wd2⟩, hD2, ra, la, hc, hr⟩
    have un2 : unheld (L2.wipe σ vs) ρ2 D := out hs2 unD
    by_cases hlt : i < ts.length
    · have hx : ts[i]? = some ts[i] := by simp [hlt]
      have hd : ts.drop i = ts[i] :: ts.drop (i + 1) := (List.drop_eq_getElem_cons hlt)
      obtain ⟨g1, g2⟩ := ok.go H2 O2 i _ iv2 r2.dom hx
      rw [hd] at hc
      simp only [compF, Option.bind_eq_some_iff] at hc
      obtain ⟨ρ3, hs3, ⟨b, ρ4⟩, ht4, hc⟩ := hc
      refine .inr ⟨g1, fun H5 => ∃ ρ2 O2 acc ds rest, In (i + 1) H5 ρ2 O2 ∧ H5 D = some (.lst acc) ∧ RpL K A (hide H5 O2) acc ds ∧ acc.length ≤ i + 1 ∧ compF s bt el vs (ts.drop (i + 1)) ρ2 = some (rest, ρe) ∧ ds ++ rest = us, fun H5 hN => ⟨ts.length - (i + 1), by omega, rfl, hlt, hN⟩, fun x H' y => ?_⟩
      obtain ⟨sm, rx⟩ := g2 x H' y
      refine hg G _ H' ρ2 O2 x _ ρ3 (r2.same sm) rx hs3 _ fun σ3 r3 k3 n3 l3 => ?_
      have hw : L2.wipe σ3 vs = L2.wipe σ vs := by
        refine (wipe_eq (fun j hj => n3 j fun x => hj (hv j x)) l3).trans ?_
        exact wipe_eq (fun j hj => wipe_out hj) (wipe_length σ vs)
      have un3 : ∀ {p : Addr}, unheld (L2.wipe σ vs) ρ2 p → unheld σ3 ρ3 p := fun h j hj e => by
        obtain ⟨a, b⟩ := k3 j hj
        rw [b] at e
        exact h j a e
      have l0 : Same (hide H2 O2) (hide H' O2) := hide_same sm
      refine ⟨hw, ht G σ3 H' ρ3 O2 r3 b ρ4 ht4 _ fun H4 O4 p4 => ?_⟩
      have keepD4 := p4.keep D oD (un3 un2)
      have hD4 : H4 D = some (.lst acc) := keepD4.2.trans (sm _ _ hD2)
      -- one more turn: the state behind
      have next : ∀ (H5 : Hp) (ρ5 : Rho) (O5 : Oset), Post K A G σ3 H' ρ3 O2 H5 ρ5 O5 → ∀ (H6 : Hp), Rel K A G σ3 H6 ρ5 O5 → hide H6 O5 = hide H5 O5 → (∀ p, p ≠ D → H6 p = H5 p) → (∀ a, H5 a ≠ none → H6 a ≠ none) → In (i + 1) H6 (wipeR ρ5 vs) O5 := fun H5 ρ5 O5 p5 H6 r6 e6 n6 v6 => by
        refine ⟨hw ▸ r6.wipe vs, ?_, fun p hp => ?_, fun p hp un => ?_, fun j hj => ?_, fun a h => v6 a (p5.lv a (lv_same sm a (lv2 a h))), ?_, (p5.keep D oD (un3 un2)).1, wr⟩
        · rw [e6]; exact le2.trans (l0.trans p5.le)
        · rcases p5.sub p hp with h | h
          · exact sub2 p h
          · exact .inr (nn_back (fun a h => lv_same sm a (lv2 a h)) h)
        · obtain ⟨a1, a2⟩ := keep2 p hp un
          have u2 : unheld (L2.wipe σ vs) ρ2 p := out hs2 un
          obtain ⟨b1, b2⟩ := p5.keep p a1 (un3 u2)
          have ne : p ≠ D := fun x => nO (x ▸ hp)
          refine ⟨b1, (n6 p ne).trans (b2.trans ?_)⟩
          rw [← a2]
          exact r2.kept sm p a1
        · obtain ⟨a1, a2⟩ := hold_wipe hj
          exact ⟨(hs2 j (k3 j (p5.hs j a2)).1).1, a1⟩
        · have : Same (hide H2 O2) (hide H6 O5) := by rw [e6]; exact l0.trans p5.le
          refine ok.up _ _ _ _ iv2 this fun p hp => ?_
          obtain ⟨a0, a0'⟩ := hK p hp
          obtain ⟨a1, a2⟩ := keep2 p a0 a0'
          obtain ⟨b1, b2⟩ := p5.keep p a1 (un3 (out hs2 a0'))
          have ne : p ≠ D := fun x => nO (x ▸ a0)
          exact ⟨b1, (n6 p ne).trans (b2.trans (r2.kept sm p a1))⟩
      cases b with
      | true =>
        rw [if_pos rfl] at hc ⊢
        simp only [Option.bind_eq_some_iff] at hc
        obtain ⟨⟨u, ρ5⟩, ho5, ⟨us5, ρ6⟩, hc6, hc7⟩ := hc
        cases hc7
        refine opened_ok he p4.rel ho5 _ fun y H5 O5 p5 ry => ?_
        have p45 := p4.trans p5
        have keepD5 := p45.keep D oD (un3 un2)
        have hD5 : H5 D = some (.lst acc) := keepD5.2.trans (sm _ _ hD2)
        have un5 : unheld σ3 ρ5 D := (un3 un2).up p45.hs
        refine ⟨acc, hD5, Nat.lt_of_le_of_lt (Nat.le_trans la hi2) hsz, wipeR ρ5 vs, O5, acc ++ [y], ds ++ [u], us5, ?_, upd_same, ?_, by simp; omega, hc6, by rw [List.append_assoc]; exact hr⟩
        · exact next H5 ρ5 O5 p45 _ (p45.rel.tmut keepD5.1 un5 n0) (hide_upd keepD5.1) (fun p h => upd_ne h) (lv_upd lv_refl)
        · rw [hide_upd keepD5.1]
          exact (ra.mono (Le.of (l0.trans p45.le))).snoc ry
      | false =>
        dsimp only at hc
        rw [if_neg Bool.false_ne_true] at hc ⊢
        exact ⟨wipeR ρ4 vs, O4, acc, ds, rest, next H4 ρ4 O4 p4 H4 p4.rel rfl (fun _ _ => rfl) (fun _ h => h), hD4, ra.mono (Le.of (l0.trans p4.le)), by omega, hc, hr⟩
    · have ei : i = ts.length := by omega
      subst ei
      refine .inl ⟨ok.stop H2 O2 iv2, ?_⟩
      rw [List.drop_length] at hc
      simp only [compF, Option.some.injEq, Prod.mk.injEq] at hc
      obtain ⟨rfl, rfl⟩ := hc
      rw [List.append_nil] at hr
      subst hr
      have pE : Post K A G σ H1 ρ1 O1 H2 ρ2 O2 := ⟨r2.other (wipe_length σ vs).symm fun j s e n => (wipe_out (wd2 j s e n)).symm, le2, sub2, keep2, fun j hj => (hs2 j hj).1, lv2⟩
      refine q _ H2 O2 pE ⟨D, rfl, hD, oD, unD.up fun j hj => (hs2 j hj).1, acc, hD2, ra⟩
theorem ev_lc {wi : TI} {g : TG} {tt : TT} {te : TE} {vs is : List Nat} {it : IF} {s : T → Rho → Option Rho} {bt : BF} {el : EF} (hi : IV K A wi it) (hg : GV K A is g s) (ht : TV K A tt bt) (he : EV K A te el) (hv : ∀ j ∈ is, j ∈ vs) : EV K A (tLc wi g tt te vs) (eLc it s bt el vs) := fun G σ H ρ O r o ρf e Q q => by
  simp only [eLc, Option.bind_eq_bind, Option.bind_eq_some_iff] at e
  obtain ⟨⟨ts, ρ1⟩, h1, h2⟩ := e
  dsimp only at h2
  split at h2
  · rename_i hsz
    simp only [Option.bind_eq_some_iff] at h2
    obtain ⟨⟨us, ρe⟩, h3, h4⟩ := h2
    simp only [Option.some.injEq, Prod.mk.injEq, Option.pure_def] at h4
    obtain ⟨rfl, h4⟩ := h4
    subst h4
    refine hi G σ H ρ O r ts ρ1 h1 _ fun J H1 O1 Iv p1 ok iv => ?_
    exact lc_at hg ht he hv p1.rel (Ka := fun _ => False) ⟨fun H O H' O' a b _ => ok.up H O H' O' a b, ok.go, ok.stop⟩ iv (fun p hp => hp.elim) hsz h3 fun v H' O' p2 r2 => q v H' O' (p1.trans p2) (r2.back p1.lv)
  · cases h2
end
end QT

set_option Elab.async false
set_option linter.all false
set_option maxRecDepth 100000
set_option maxHeartbeats 4000000
namespace QT
open PySem PySem.Spec PyProof.Rows L2 QB
/-! ### promises of defs -/
def ioA (vs : List V) (as : List Sl) : Oset := fun p => ∃ (i : Nat) (t : T), as[i]? = some (Sl.io t) ∧ vs[i]? = some (V.ref p)
structure Args (K : PySem.W.Frag) (A : Nat → Addr) (vs : List V) (H : Hp) (as : List Sl) (O : Oset) : Prop where
  len : vs.length = as.length
  val : ∀ (i : Nat) (t : T), as[i]? = some (Sl.val t) → ∃ v, vs[i]? = some v ∧ Rp K A (hide H O) v t
  io : ∀ (i : Nat) (t : T), as[i]? = some (Sl.io t) → ∃ p, vs[i]? = some (V.ref p) ∧ O p ∧ Own1 K A H (hide H O) p t
  only : ∀ (i : Nat) (t : T), as[i]? ≠ some (Sl.own t)
  inj : ∀ (i j : Nat) (t u : T) (p : Addr), as[i]? = some (Sl.io t) → as[j]? = some (Sl.io u) → vs[i]? = some (V.ref p) → vs[j]? = some (V.ref p) → i = j
  dom : ∀ p, O p → H p ≠ none
structure BackX (K : PySem.W.Frag) (A : Nat → Addr) (vs : List V) (H : Hp) (as : List Sl) (O : Oset) (v : V) (H' : Hp) (o : Opd) (as' : List Sl) (Ox : Oset) : Prop where
  up : ∀ p, O p → Ox p
  sub : ∀ p, Ox p → O p ∨ H p = none
  dom : ∀ p, Ox p → H' p ≠ none
  le : Same (hide H O) (hide H' Ox)
  kp : ∀ p, O p → ¬ ioA vs as p → H' p = H p
  lv : ∀ a, H a ≠ none → H' a ≠ none
  io : ∀ (i : Nat) (t : T), as'[i]? = some (Sl.io t) → ∃ p, vs[i]? = some (V.ref p) ∧ Own1 K A H' (hide H' Ox) p t
  res : RetR K A H H' Ox v o
abbrev FF := List Sl → Option (Opd × List Sl)
def spF (K : PySem.W.Frag) (A : Nat → Addr) (F : FF) : Sp := fun vs H Q _ => ∃ as O o as', Args K A vs H as O ∧ F as = some (o, as') ∧ ∀ v H' Ox, BackX K A vs H as O v H' o as' Ox → Q v H'
def runF (k n : Nat) (B : SF) : FF := fun as => if as.length = k then (match B (as ++ List.replicate (n - k) .no) with
  | .rt o ρ => some (o, ρ)
  | .nx ρ => some (.val .non, ρ)
  | _ => none) else none
theorem spF_len {K : PySem.W.Frag} {A : Nat → Addr} {k n : Nat} {B : SF} {vs : List V} {H : Hp} {Q : VK} {E : XK} (h : spF K A (runF k n B) vs H Q E) : vs.length = k := by
  obtain ⟨as, O, o, as', ha, hF, _⟩ := h
  unfold runF at hF
  split at hF
  · rename_i e; rw [ha.len, e]
  · cases hF
section
variable {K : PySem.W.Frag} {A : Nat → Addr} {G : Fx} {σ σ' : L2.St} {H H' H2 : Hp} {ρ ρ' ρ2 : Rho} {O O' O2 : Oset} {i : Nat} {p : Addr} {t t' : T} {v : V} {x : Opd}
theorem ap_get {α : Type} {l r : List α} {i : Nat} {s : α} (h : (l ++ r)[i]? = some s) : l[i]? = some s ∨ (s ∈ r ∧ l.length ≤ i) := by
  by_cases e : i < l.length
  · rw [List.getElem?_append_left e] at h; exact .inl h
  · rw [List.getElem?_append_right (by omega)] at h
    exact .inr ⟨List.mem_of_getElem? h, by omega⟩
theorem ap_get1 {l r : List Sl} {n : Nat} {s : Sl} (h : (l ++ List.replicate n .no)[i]? = some s) (hs : s ≠ .no) : l[i]? = some s := by
  rcases ap_get h with h | ⟨h, _⟩
  · exact h
  · exact absurd (List.eq_of_mem_replicate h) hs
theorem start_get {N : List Str} {vs : List V} {w : V} : (L2.start N vs)[i]? = some (some w) ↔ vs[i]? = some w := by
  unfold L2.start
  constructor
  · intro h
    rcases ap_get h with h | ⟨h, _⟩
    · rw [List.getElem?_map] at h
      cases e : vs[i]? with
      | none => rw [e] at h; cases h
      | some u => rw [e] at h; cases h; rfl
    · cases List.eq_of_mem_replicate h
  · intro h
    have lt : i < vs.length := (List.getElem?_eq_some_iff.mp h).1
    rw [List.getElem?_append_left (by rw [List.length_map]; exact lt), List.getElem?_map, h]; rfl
/-- a body's reading, and its promise -/
theorem fn_run {N : List Str} {ts : TS} {B : SF} {vs : List V} {Q : VK} {E : XK} {k : Nat} (hB : SV K A ts B) (h : spF K A (runF k N.length B) vs H Q E) : ts { nx := fun _ H' => Q .non H', rt := Q } (L2.start N vs) H := by
  obtain ⟨as, O, o, as', ha, hF, q⟩ := h
  unfold runF at hF
  split at hF
  case isFalse => cases hF
  rename_i hk
  subst hk
  let G : Fx := ⟨H, O, ioA vs as, L2.start N vs⟩
  have isub : ∀ p, ioA vs as p → O p := fun p ⟨i, t, h1, h2⟩ => by
    obtain ⟨q', h3, h4, _⟩ := ha.io i t h1
    rw [h2] at h3; cases h3; exact h4
  have r : Rel K A G (L2.start N vs) H (as ++ List.replicate (N.length - as.length) .no) O := by
    refine ⟨?_, fun i t e => ?_, fun i t e => ?_, fun i t e => ?_, fun i j p h1 h2 e1 e2 => ?_, ha.dom, fun p e => e, isub, fun p _ _ => rfl, fun p e n => absurd e n, fun a e => e⟩
    · simp only [L2.start, List.length_append, List.length_map, List.length_replicate, ha.len]
    · obtain ⟨v, h1, h2⟩ := ha.val i t (ap_get1 (r := []) e (by simp))
      exact ⟨v, start_get.mpr h1, h2⟩
    · exact absurd (ap_get1 (r := []) e (by simp)) (ha.only i t)
    · have e' := ap_get1 (r := []) e (by simp)
      obtain ⟨p, h1, h2, h3⟩ := ha.io i t e'
      exact ⟨p, start_get.mpr h1, ⟨i, t, e', h1⟩, start_get.mpr h1, h3⟩
    · have f : ∀ j, hold (as ++ List.replicate (N.length - as.length) .no) j → ∃ t, as[j]? = some (Sl.io t) := fun j ⟨t, hj⟩ => by
        rcases hj with hj | hj
        · exact absurd (ap_get1 (r := []) hj (by simp)) (ha.only j t)
        · exact ⟨t, ap_get1 (r := []) hj (by simp)⟩
      obtain ⟨t1, a1⟩ := f i h1
      obtain ⟨t2, a2⟩ := f j h2
      exact ha.inj i j t1 t2 p a1 a2 (start_get.mp e1) (start_get.mp e2)
  have fin : ∀ (σ' : L2.St) (H' : Hp) (ρ' : Rho) (O' : Oset) (v : V) (o : Opd), Stp K A G H O σ' H' ρ' O' → RetR K A H H' O' v o → BackX K A vs H as O v H' o ρ' O' := fun σ' H' ρ' O' v o st rr =>
    ⟨st.rel.sub, fun p hp => by
      by_cases e : O p
      · exact .inl e
      · exact .inr (st.rel.new p hp e), st.rel.dom, st.le, fun p hp n => st.rel.fr p hp n, st.lv, fun i t e => by
      obtain ⟨p, h1, h2, h3, h4⟩ := st.rel.io i t e
      exact ⟨p, start_get.mp h3, h4⟩, rr⟩
  refine hB G _ H _ O _ r ?_
  cases hb : B (as ++ List.replicate (N.length - as.length) .no) with
  | fail => rw [hb] at hF; cases hF
  | bk ρ1 => rw [hb] at hF; cases hF
  | ct ρ1 => rw [hb] at hF; cases hF
  | nx ρ1 =>
    rw [hb] at hF; cases hF
    exact fun σ' H' O' st => q _ _ O' (fin σ' H' _ O' .non (.val .non) st .non)
  | rt x ρ1 =>
    rw [hb] at hF; cases hF
    exact fun v σ' H' O' st rr => q _ _ O' (fin σ' H' _ O' v _ st rr)
theorem RetR.rl {y : Opd} {Ox : Oset} (r : Rel K A G σ H ρ O) (hs : ∀ j, hold ρ' j → hold ρ j) (h : RetR K A H H' Ox v y) : Rl K A σ H H' ρ' Ox v y := by
  cases y with
  | val t => exact h
  | slot i => exact h.elim
  | own t => obtain ⟨p, e, h1, h2, h3⟩ := h; exact ⟨p, e, h1, h2, (r.unh h1).up hs, h3⟩
  | ot xs =>
    obtain ⟨p, vs, e, hn, hp, hc, nd⟩ := h
    refine ⟨p, vs, e, hn, hp, paired_map (fun a b z => ?_) hc, nd⟩
    obtain ⟨b, u⟩ := b
    cases b with
    | false => exact z
    | true => obtain ⟨q, eq, h1, h2, h3⟩ := z; exact ⟨q, eq, h1, h2, (r.unh h1).up hs, h3⟩
/-- behind a call to which nothing was lent -/
theorem Rel.called {Ox : Oset} (r : Rel K A G σ H ρ O) (up : ∀ p, O p → Ox p) (sub : ∀ p, Ox p → O p ∨ H p = none) (dom : ∀ p, Ox p → H' p ≠ none) (le : Same (hide H O) (hide H' Ox)) (kp : ∀ p, O p → H' p = H p) (lv : ∀ a, H a ≠ none → H' a ≠ none) : Rel K A G σ H' ρ Ox := by
  refine ⟨r.len, fun j u e => ?_, fun j u e => ?_, fun j u e => ?_, r.inj, dom, fun p e => up p (r.sub p e), r.isub, fun p e n => (kp p (r.sub p e)).trans (r.fr p e n), fun p e n => ?_, fun a e => lv a (r.live a e)⟩
  · obtain ⟨w, h1, h2⟩ := r.val j u e; exact ⟨w, h1, h2.mono (Le.of le)⟩
  · obtain ⟨q, h1, h2, h3, h4⟩ := r.own j u e; exact ⟨q, h1, up q h2, h3, h4.mono (kp q h2) (Le.of le)⟩
  · obtain ⟨q, h1, h2, h3, h4⟩ := r.io j u e; exact ⟨q, h1, h2, h3, h4.mono (kp q (r.sub q (r.isub q h2))) (Le.of le)⟩
  · rcases sub p e with h | h
    · exact r.new p h n
    · exact (r.fresh h).2.2
/-- .. to which slot i was lent -/
theorem Rel.lent {Ox : Oset} {s : Sl} (r : Rel K A G σ H ρ O) (hs : ρ[i]? = some s) (hh : s = .own t ∨ s = .io t) (hi : σ[i]? = some (some (V.ref p))) (up : ∀ p, O p → Ox p) (sub : ∀ p, Ox p → O p ∨ H p = none) (dom : ∀ p, Ox p → H' p ≠ none) (le : Same (hide H O) (hide H' Ox)) (kp : ∀ q, O q → q ≠ p → H' q = H q) (lv : ∀ a, H a ≠ none → H' a ≠ none) (hw : Own1 K A H' (hide H' Ox) p t') : Rel K A G σ H' (ρ.set i (s.with t')) Ox := by
  have hol : hold ρ i := ⟨t, by rcases hh with rfl | rfl; exact .inl hs; exact .inr hs⟩
  have hol' : ∀ j, hold (ρ.set i (s.with t')) j → hold ρ j := fun j h => by
    rcases hold_set h with ⟨rfl, _⟩ | ⟨_, h⟩
    · exact hol
    · exact h
  have ne : ∀ j q, j ≠ i → hold ρ j → σ[j]? = some (some (V.ref q)) → q ≠ p := fun j q n hj e x => by subst x; exact n (r.inj j i q hj hol e hi)
  refine ⟨by rw [List.length_set]; exact r.len, fun j u e => ?_, fun j u e => ?_, fun j u e => ?_, fun j k q h1 h2 => r.inj j k q (hol' j h1) (hol' k h2), dom, fun p e => up p (r.sub p e), r.isub, fun q e n => ?_, fun p e n => ?_, fun a e => lv a (r.live a e)⟩
  · rcases set_get e with ⟨rfl, e'⟩ | ⟨_, e⟩
    · rcases hh with rfl | rfl <;> cases e'
    · obtain ⟨w, h1, h2⟩ := r.val j u e; exact ⟨w, h1, h2.mono (Le.of le)⟩
  · rcases set_get e with ⟨rfl, e'⟩ | ⟨n, e⟩
    · rcases hh with rfl | rfl <;> cases e'
      obtain ⟨q, h1, h2, h3, _⟩ := r.own j t hs
      rw [hi] at h1; cases h1
      exact ⟨p, hi, up p h2, h3, hw⟩
    · obtain ⟨q, h1, h2, h3, h4⟩ := r.own j u e
      exact ⟨q, h1, up q h2, h3, h4.mono (kp q h2 (ne j q n ⟨u, .inl e⟩ h1)) (Le.of le)⟩
  · rcases set_get e with ⟨rfl, e'⟩ | ⟨n, e⟩
    · rcases hh with rfl | rfl <;> cases e'
      obtain ⟨q, h1, h2, h3, _⟩ := r.io j t hs
      rw [hi] at h1; cases h1
      exact ⟨p, hi, h2, h3, hw⟩
    · obtain ⟨q, h1, h2, h3, h4⟩ := r.io j u e
      exact ⟨q, h1, h2, h3, h4.mono (kp q (r.sub q (r.isub q h2)) (ne j q n ⟨u, .inr e⟩ h1)) (Le.of le)⟩
  · have nq : q ≠ p := fun x => by
      subst x
      rcases hh with rfl | rfl
      · obtain ⟨q', h1, _, h3, _⟩ := r.own i t hs
        rw [hi] at h1; cases h1
        exact h3 e
      · obtain ⟨q', h1, h2, _⟩ := r.io i t hs
        rw [hi] at h1; cases h1
        exact n h2
    exact (kp q (r.sub q e) nq).trans (r.fr q e n)
  · rcases sub p e with h | h
    · exact r.new p h n
    · exact (r.fresh h).2.2
theorem vals_get {vs : List V} {ts : List T} (h : RpL K A H vs ts) : ∀ (i : Nat) (t : T), (ts.map Sl.val)[i]? = some (Sl.val t) → ∃ v, vs[i]? = some v ∧ Rp K A H v t := fun i t e => by
  rw [List.getElem?_map] at e
  cases h2 : ts[i]? with
  | none => rw [h2] at e; cases e
  | some u => rw [h2] at e; cases e; exact h.get h2
theorem no_io {ts : List T} {t : T} : (ts.map Sl.val)[i]? ≠ some (Sl.io t) := fun e => by
  rw [List.getElem?_map] at e
  cases h2 : ts[i]? with
  | none => rw [h2] at e; cases e
  | some u => rw [h2] at e; cases e
theorem no_own {ts : List T} {t : T} : (ts.map Sl.val)[i]? ≠ some (Sl.own t) := fun e => by
  rw [List.getElem?_map] at e
  cases h2 : ts[i]? with
  | none => rw [h2] at e; cases e
  | some u => rw [h2] at e; cases e
theorem args_vals {vs : List V} {ts : List T} (h : RpL K A (hide H O) vs ts) (d : ∀ p, O p → H p ≠ none) : Args K A vs H (ts.map Sl.val) O :=
  ⟨by rw [List.length_map]; exact h.len, vals_get h, fun i t e => absurd e no_io, fun i t => no_own, fun i j t u p e => absurd e no_io, d⟩
theorem args_io {vs : List V} {ts : List T} (h : RpL K A (hide H O) vs ts) (d : ∀ p, O p → H p ≠ none) (hO : O p) (hw : Own1 K A H (hide H O) p t) : Args K A (.ref p :: vs) H (.io t :: ts.map Sl.val) O :=
  ⟨by simp [h.len], fun i u e => (match i, e with | i + 1, e => vals_get h i u e), fun i u e => (match i, e with | 0, e => by cases e; exact ⟨p, rfl, hO, hw⟩ | i + 1, e => absurd e no_io), fun i u e => (match i, e with | i + 1, e => no_own e), fun i j u w q e1 e2 _ _ => (match i, j, e1, e2 with | 0, 0, _, _ => rfl | i + 1, _, e1, _ => absurd e1 no_io | 0, j + 1, _, e2 => absurd e2 no_io), d⟩
theorem ioA_vals {vs : List V} {ts : List T} : ¬ ioA vs (ts.map Sl.val) p := fun ⟨i, t, e, _⟩ => no_io e
theorem ioA_io {vs : List V} {ts : List T} {q : Addr} (h : ioA (.ref p :: vs) (.io t :: ts.map Sl.val) q) : q = p := by
  obtain ⟨i, u, e, h⟩ := h
  match i, e, h with
  | 0, e, h => cases h; rfl
  | i + 1, e, h => exact absurd e no_io
/-- f(e, ..), all values -/
def eCall (F : FF) (a : AF) : EF := fun ρ => do
  let (os, ρ1) ← a ρ
  let (ts, ρ2) ← shareL os ρ1
  let (o, _) ← F (ts.map Sl.val)
  pure (o, ρ2)
theorem ev_call {F : FF} {tl : TA} {a : AF} {E : XK} (ha : AV K A tl a) : EV K A (tCall (spF K A F) [] E tl) (eCall F a) := fun G σ H ρ O r o ρ' e Q q => by
  simp only [eCall, Option.bind_eq_bind, Option.bind_eq_some_iff] at e
  obtain ⟨⟨os, ρ1⟩, h1, ⟨ts, ρ2⟩, h2, ⟨o', as'⟩, h3, h4⟩ := e
  cases h4
  refine ha G σ H ρ O r os ρ1 h1 _ fun vs H1 O0 p0 s0 nd => ?_
  obtain ⟨O1, p1, s1⟩ := release r p0 s0
  obtain ⟨O2, p2, r2⟩ := shareL_ok p1.rel s1 (by rw [shareL_fz]; exact h2)
  have p12 := p1.trans p2
  rw [List.append_nil]
  refine ⟨_, O2, _, _, args_vals r2 p12.rel.dom, h3, fun v H' Ox bk => ?_⟩
  have kp : ∀ p, O2 p → H' p = H1 p := fun p hp => bk.kp p hp ioA_vals
  have p3 : Post K A G σ H1 _ O2 H' _ Ox := ⟨p12.rel.called bk.up bk.sub bk.dom bk.le kp bk.lv, bk.le, bk.sub, fun p hp _ => ⟨bk.up p hp, kp p hp⟩, fun _ h => h, bk.lv⟩
  exact q v H' Ox (p12.trans p3) ((bk.res.rl p12.rel fun _ h => h).back p12.lv)
/-- f(x, e, ..), x a slot that is lent -/
def Sl.held : Sl → Option T
  | .own t => some t
  | .io t => some t
  | _ => none
def eCallIO (F : FF) (i : Nat) (a : AF) : EF := fun ρ => do
  let s0 ← ρ[i]?
  let _ ← s0.held
  let (os, ρ1) ← a ρ
  let (ts, ρ2) ← shareL os ρ1
  let s ← ρ2[i]?
  let t ← s.held
  let (o, as') ← F (Sl.io t :: ts.map Sl.val)
  let s1 ← as'[0]?
  match s1 with
  | Sl.io t' => pure (o, ρ2.set i (s.with t'))
  | _ => none
theorem held_or {s : Sl} (h : s.held = some t) : s = .own t ∨ s = .io t := by
  cases s <;> simp [Sl.held] at h <;> subst h
  · exact .inl rfl
  · exact .inr rfl
theorem ev_callIO {F : FF} {tl : TA} {a : AF} {E : XK} (ha : AV K A tl a) : EV K A (tCall (spF K A F) [] E (tCons (tVar i) tl)) (eCallIO F i a) := fun G σ H ρ O r o ρ' e Q q => by
  simp only [eCallIO, Option.bind_eq_bind, Option.bind_eq_some_iff] at e
  obtain ⟨s0, hs0, t0, ht0, ⟨os, ρ1⟩, h1, ⟨ts, ρ2⟩, h2, s, h3, t, h4, ⟨o', as'⟩, h5, s1, h7, h6⟩ := e
  dsimp only at h3 h5 h6 h7
  have hh := held_or h4
  have hol2 : hold ρ2 i := ⟨t, by rcases hh with rfl | rfl; exact .inl h3; exact .inr h3⟩
  -- the slot's value
  have key : ∀ v, σ[i]? = some (some v) → tl σ H fun vs H1 => spF K A F (v :: vs ++ []) H1 Q E := fun v hv => by
    refine ha G σ H ρ O r os ρ1 h1 _ fun vs H1 O0 p0 s0 nd => ?_
    obtain ⟨O1, p1, s1⟩ := release r p0 s0
    obtain ⟨O2, p2, r2⟩ := shareL_ok p1.rel s1 (by rw [shareL_fz]; exact h2)
    have p12 := p1.trans p2
    rw [List.append_nil]
    obtain ⟨p, t2, hp1, hp2, hp3, hp4⟩ := p12.rel.held hol2
    rw [hv] at hp1; cases hp1
    have et : t2 = t := by rw [h3] at hp4; rcases hh with rfl | rfl <;> rcases hp4 with hp4 | hp4 <;> cases hp4 <;> rfl
    subst et
    refine ⟨_, O2, _, _, args_io r2 p12.rel.dom hp2 hp3, h5, fun w H' Ox bk => ?_⟩
    split at h6
    · rename_i t'
      cases h6
      obtain ⟨q', hq, hw⟩ := bk.io 0 t' h7
      cases hq
      have kp : ∀ q, O2 q → q ≠ p → H' q = H1 q := fun q hq n => bk.kp q hq fun x => n (ioA_io x)
      have hs' : ∀ j, hold (ρ2.set i (s.with t')) j → hold ρ2 j := fun j hj => by
        rcases hold_set hj with ⟨rfl, _⟩ | ⟨_, hj⟩
        · exact hol2
        · exact hj
      have p3 : Post K A G σ H1 ρ2 O2 H' (ρ2.set i (s.with t')) Ox := ⟨p12.rel.lent h3 hh hv bk.up bk.sub bk.dom bk.le kp bk.lv hw, bk.le, bk.sub, fun q hq un => ⟨bk.up q hq, kp q hq fun x => by subst x; exact un i hol2 hv⟩, hs', bk.lv⟩
      exact q w H' Ox (p12.trans p3) ((bk.res.rl p12.rel hs').back p12.lv)
    · cases h6
  obtain ⟨p0, _, hp0, _⟩ := r.held (i := i) ⟨t0, by rcases held_or ht0 with rfl | rfl; exact .inl hs0; exact .inr hs0⟩
  exact ⟨_, hp0, key _ hp0⟩
end
end QT

set_option Elab.async false
set_option linter.all false
set_option maxRecDepth 100000
set_option maxHeartbeats 4000000
namespace QT
open PySem PySem.Spec PyProof.Rows L2 QB
section
variable {K : PySem.W.Frag} {A : Nat → Addr} {G : Fx} {σ σ' : L2.St} {H H' H2 : Hp} {ρ ρ' ρ2 : Rho} {O O' O2 : Oset} {i : Nat} {p : Addr} {t t' : T} {v : V} {x : Opd}
/-! ### C(e, ..) by an __init__ -/
def eMake (c : Nat) (F : FF) (ds : List T) (a : AF) : EF := fun ρ => do
  let (os, ρ1) ← a ρ
  let (ts, ρ2) ← shareL os ρ1
  let (o, as') ← F (Sl.io (.obj c []) :: (ts ++ ds).map Sl.val)
  let s1 ← as'[0]?
  match o, s1 with
  | .val .non, Sl.io t' => pure (.own t', ρ2)
  | _, _ => none
theorem ev_make {c : Nat} {F : FF} {tl : TA} {a : AF} {E : XK} {dvs : List V} {ds : List T} (ha : AV K A tl a) (hd : ∀ H, RpL K A H dvs ds) : EV K A (tMake (A c) (spF K A F) dvs E tl) (eMake c F ds a) := fun G σ H ρ O r o ρ' e Q q => by
  simp only [eMake, Option.bind_eq_bind, Option.bind_eq_some_iff] at e
  obtain ⟨⟨os, ρ1⟩, h1, ⟨ts, ρ2⟩, h2, ⟨o', as'⟩, h3, s1, h4, h5⟩ := e
  dsimp only at h3 h4 h5
  refine ha G σ H ρ O r os ρ1 h1 _ fun vs H1 O0 p0 s0 nd => ?_
  obtain ⟨O1, p1, s1'⟩ := release r p0 s0
  obtain ⟨O2, p2, r2⟩ := shareL_ok p1.rel s1' (by rw [shareL_fz]; exact h2)
  have p12 := p1.trans p2
  intro x dx hx hdx hne
  have sm : Same H1 (upd (upd H1 dx (.own x)) x (.ins (A c) dx [])) := fun b u eb => by
    rw [upd_ne (ne_of_none eb hx), upd_ne (ne_of_none eb hdx)]; exact eb
  have rn : Rel K A G σ (upd (upd H1 dx (.own x)) x (.ins (A c) dx [])) ρ2 (O2.add x) := p12.rel.sameAdd sm hx (by rw [upd_same]; simp)
  split at h5
  · rename_i t'
    cases h5
    refine ⟨_, O2.add x, _, _, args_io (t := .obj c []) ((r2.mono (Le.of (hide_sameAdd sm hx))).app (hd _)) rn.dom (.inl rfl) ⟨dx, [], upd_same, .nil⟩, h3, fun w H' Ox bk => ?_⟩
    have hw : w = .non := by cases bk.res; rfl
    refine ⟨hw, ?_⟩
    obtain ⟨q', hq, hwn⟩ := bk.io 0 t' h4
    cases hq
    have sub : ∀ p, Ox p → O2 p ∨ H1 p = none := fun p hp => by
      rcases bk.sub p hp with (rfl | h) | h
      · exact .inr hx
      · exact .inl h
      · exact .inr (nn_back (lv_same sm) h)
    have kp : ∀ p, O2 p → H' p = H1 p := fun p hp => by
      have ne : p ≠ x := fun z => by subst z; exact p12.rel.dom p hp hx
      rw [bk.kp p (.inr hp) (fun z => ne (ioA_io z))]
      exact p12.rel.kept sm p hp
    have lv : ∀ a, H1 a ≠ none → H' a ≠ none := fun a h => bk.lv a (lv_same sm a h)
    have le : Same (hide H1 O2) (hide H' Ox) := (hide_sameAdd sm hx).trans bk.le
    have p3 : Post K A G σ H1 ρ' O2 H' ρ' Ox := ⟨p12.rel.called (fun p h => bk.up p (.inr h)) sub bk.dom le kp lv, le, sub, fun p hp _ => ⟨bk.up p (.inr hp), kp p hp⟩, fun _ h => h, lv⟩
    exact q _ H' Ox (p12.trans p3) ⟨x, rfl, nn_back p12.lv hx, bk.up x (.inl rfl), p12.rel.unh hx, hwn⟩
  · cases h5
/-! ### fields -/
def rFld (K : PySem.W.Frag) (f : Str) : V → Hp → VK → Prop := fun x H1 Q => ∃ a C dx fs v, x = .ref a ∧ H1 a = some (.ins C dx fs) ∧ Cls K C ∧ NoAttr K C f ∧ fs.lookup f = some v ∧ Q v H1
def fFld (f : Str) : List T → Option Opd
  | [.obj _ fs] => (fs.lookup f).map .val
  | _ => none
theorem b_fld {f : Str} (hc : ∀ c, Cls K (A c) ∧ NoAttr K (A c) f) : B1 K A (rFld K f) (fFld f) := fun H O vs ts o d tp e Q q => by
  match ts, e with
  | [.obj c fs], e =>
    simp only [fFld, Option.map_eq_some_iff] at e
    obtain ⟨u, h1, rfl⟩ := e
    match vs, tp with
    | [v], .cons a .nil =>
      obtain ⟨p, dx, ws, rfl, h2, h3⟩ := a.obj
      obtain ⟨w, h4, h5⟩ := h3.look h1
      exact ⟨p, _, dx, ws, w, rfl, h2, (hc c).1, (hc c).2, h4, q w H (Same.refl _) h5⟩
def eFld (f : Str) (e : EF) : EF := eB (fFld f) (aC e aN)
theorem ev_fld {ta : TE} {e : EF} {f : Str} (he : EV K A ta e) (hc : ∀ c, Cls K (A c) ∧ NoAttr K (A c) f) : EV K A (tFld K ta f) (eFld f e) := ev_un he (b_fld hc)
theorem RpF.putF {f : Str} (hv : Rp K A H v t) : ∀ {vs : List (Str × V)} {ts : List (Str × T)}, RpF K A H vs ts → RpF K A H (L2.putF f v vs) (putT f t ts)
  | _, _, .nil => .cons hv .nil
  | _, _, .cons (k := k) a b => by
    unfold L2.putF putT
    split
    · exact .cons hv b
    · exact .cons a (RpF.putF hv b)
/-- x.f = e, x a slot -/
def sSetF (i : Nat) (f : Str) (e : EF) : SF := fun ρ => match opened e ρ with
  | some (t, ρ1) => (match ρ1[i]? with
    | some s => (match s.held with
      | some (.obj c fs) => if fs.length < 1000 then .nx (ρ1.set i (s.with (.obj c (putT f t fs)))) else .fail
      | _ => .fail)
    | none => .fail)
  | none => .fail
theorem sv_fld {tv : TE} {e : EF} {f : Str} (he : EV K A tv e) (hc : ∀ c, Cls K (A c) ∧ NoAttr K (A c) f) : SV K A (sFld K (tVar i) tv f) (sSetF i f e) := fun G σ H ρ O D r e2 => by
  unfold sSetF at e2
  split at e2
  · rename_i t ρ1 h1
    split at e2
    · rename_i s h2
      split at e2
      · rename_i c fs h3
        split at e2
        · rename_i h4
          have hh := held_or h3
          refine opened_ok he r h1 _ fun v H1 O1 p1 rv => ?_
          obtain ⟨p, t2, hp1, hp2, hp3, hp4⟩ := p1.rel.held (i := i) ⟨_, by rcases hh with rfl | rfl; exact .inl h2; exact .inr h2⟩
          have et : t2 = .obj c fs := by rw [h2] at hp4; rcases hh with rfl | rfl <;> rcases hp4 with hp4 | hp4 <;> cases hp4 <;> rfl
          subst et
          obtain ⟨dx, ws, hw1, hw2⟩ := hp3
          refine ⟨_, hp1, p, _, dx, ws, rfl, hw1, (hc c).1, (hc c).2, by rw [hw2.len]; exact h4, ?_⟩
          have rm := p1.rel.mut (o := .ins (A c) dx (L2.putF f v ws)) (t' := .obj c (putT f t fs)) h2 hh hp1 ⟨dx, _, upd_same, hw2.putF rv⟩
          exact e2 σ _ O1 ⟨rm, by rw [hide_upd hp2]; exact p1.le, lv_upd p1.lv⟩
        · exact e2.elim
      · exact e2.elim
    · exact e2.elim
  · exact e2.elim
/-! ### methods that change a slot's thing -/
def Mv (K : PySem.W.Frag) (A : Nat → Addr) (r : V → List V → Hp → VK → Prop) (g : T → List T → Option (T × T)) : Prop := ∀ (H : Hp) (O : Oset) (p : Addr) (t : T) (vs : List V) (ts : List T) (t' u : T), Own1 K A H (hide H O) p t → RpL K A (hide H O) vs ts → g t ts = some (t', u) → ∀ Q : VK, (∀ v ob, Own1 K A (upd H p ob) (hide H O) p t' → Rp K A (hide H O) v u → Q v (upd H p ob)) → r (.ref p) vs H Q
def tyT (T' : String) : T → Bool
  | .lst _ => T' == "list"
  | .dct _ => T' == "dict"
  | _ => false
def eMut (T' : String) (g : T → List T → Option (T × T)) (i : Nat) (a : AF) : EF := fun ρ => do
  let s0 ← ρ[i]?
  let t0 ← s0.held
  if tyT T' t0 then
    let (os, ρ1) ← a ρ
    let (ts, ρ2) ← shareL os ρ1
    let s ← ρ2[i]?
    let t ← s.held
    let (t', u) ← g t ts
    pure (.val u, ρ2.set i (s.with t'))
  else none
theorem tyT_ok {T' : String} (h : tyT T' t = true) (hw : Own1 K A H H' p t) : tyV K T' (.ref p) H := by
  cases t <;> simp [tyT] at h <;> subst h
  · obtain ⟨vs, hv, _⟩ := hw; exact .inl ⟨rfl, vs, SqL.of hv⟩
  · obtain ⟨vs, hv, _⟩ := hw; exact .inr (.inr (.inl ⟨rfl, .inl ⟨vs, hv⟩⟩))
theorem held_at {s : Sl} (r : Rel K A G σ H ρ O) (hs : ρ[i]? = some s) (ht : s.held = some t) : hold ρ i ∧ ∃ p, σ[i]? = some (some (V.ref p)) ∧ O p ∧ Own1 K A H (hide H O) p t := by
  have hh := held_or ht
  have hol : hold ρ i := ⟨_, by rcases hh with rfl | rfl; exact .inl hs; exact .inr hs⟩
  refine ⟨hol, ?_⟩
  obtain ⟨p, t2, hp1, hp2, hp3, hp4⟩ := r.held hol
  have et : t2 = t := by rw [hs] at hp4; rcases hh with rfl | rfl <;> rcases hp4 with hp4 | hp4 <;> cases hp4 <;> rfl
  subst et
  exact ⟨p, hp1, hp2, hp3⟩
theorem ev_mut {T' : String} {r : V → List V → Hp → VK → Prop} {g : T → List T → Option (T × T)} {tl : TA} {a : AF} (ha : AV K A tl a) (hm : Mv K A r g) : EV K A (tBM K T' r (tVar i) tl) (eMut T' g i a) := fun G σ H ρ O rl o ρ' e Q q => by
  simp only [eMut, Option.bind_eq_bind, Option.bind_eq_some_iff] at e
  obtain ⟨s0, hs0, t0, ht0, e⟩ := e
  split at e
  · rename_i hty
    simp only [Option.bind_eq_some_iff] at e
    obtain ⟨⟨os, ρ1⟩, h1, ⟨ts, ρ2⟩, h2, s, h3, t, h4, ⟨t', u⟩, h5, h6⟩ := e
    dsimp only at h3 h5 h6
    cases h6
    obtain ⟨_, p0, hp0, _, hw0⟩ := held_at rl hs0 ht0
    refine ⟨_, hp0, tyT_ok hty hw0, ha G σ H ρ O rl os ρ1 h1 _ fun vs H1 O0 q0 s0' nd => ?_⟩
    obtain ⟨O1, p1, s1⟩ := release rl q0 s0'
    obtain ⟨O2, p2, r2⟩ := shareL_ok p1.rel s1 (by rw [shareL_fz]; exact h2)
    have p12 := p1.trans p2
    obtain ⟨hol2, p, hp, hO, hw⟩ := held_at p12.rel h3 h4
    rw [hp0] at hp; cases hp
    refine hm H1 O2 p0 t vs ts t' u hw r2 h5 _ fun v ob ho hv => ?_
    have rm := p12.rel.mut (o := ob) h3 (held_or h4) hp0 ho
    have eh := hide_upd (H := H1) (o := ob) hO
    have p3 : Post K A G σ H1 ρ2 O2 (upd H1 p0 ob) (ρ2.set i (s.with t')) O2 := ⟨rm, by rw [eh]; exact Same.refl _, fun _ e => .inl e, fun q' hq un => ⟨hq, upd_ne fun z => un i hol2 (by rw [z]; exact hp0)⟩, fun j hj => by
      rcases hold_set hj with ⟨rfl, _⟩ | ⟨_, hj⟩
      · exact hol2
      · exact hj, lv_upd lv_refl⟩
    exact q v _ O2 (p12.trans p3) (show Rp K A _ _ _ by rw [eh]; exact hv)
  · cases e
theorem ev_mut0 {T' : String} {r : V → List V → Hp → VK → Prop} {g : T → List T → Option (T × T)} (hm : Mv K A r g) : EV K A (tBM0 K T' r (tVar i)) (eMut T' g i aN) := ev_mut av_nil hm
def gAppend : T → List T → Option (T × T)
  | .lst xs, [y] => if xs.length < sizeLine then some (.lst (xs ++ [y]), .non) else none
  | _, _ => none
theorem m_append : Mv K A rAppend gAppend := fun H O p t vs ts t' u hw hr e Q q => by
  match t, ts, e with
  | .lst xs, [y], e =>
    simp only [gAppend] at e
    split at e
    · rename_i hl
      cases e
      obtain ⟨ws, h1, h2⟩ := hw
      match vs, hr with
      | [v], .cons a .nil => exact ⟨p, ws, v, rfl, rfl, h1, by rw [h2.len]; exact hl, q _ _ ⟨_, upd_same, h2.snoc a⟩ .non⟩
    · cases e
def gPop : T → List T → Option (T × T)
  | .lst xs, [] => (xs[xs.length - 1]?).map fun y => (.lst xs.dropLast, y)
  | _, _ => none
theorem RpL.dl : ∀ {vs : List V} {ts : List T}, RpL K A H vs ts → RpL K A H vs.dropLast ts.dropLast := fun {vs ts} h => by
  rw [List.dropLast_eq_take, List.dropLast_eq_take, h.len]
  exact h.take _
theorem m_pop : Mv K A rPop gPop := fun H O p t vs ts t' u hw hr e Q q => by
  match t, ts, e with
  | .lst xs, [], e =>
    simp only [gPop, Option.map_eq_some_iff] at e
    obtain ⟨y, h3, h4⟩ := e
    cases h4
    obtain ⟨ws, h1, h2⟩ := hw
    match vs, hr with
    | [], .nil =>
      obtain ⟨w, h5, h6⟩ := h2.get h3
      rw [← h2.len] at h5
      exact ⟨p, ws, w, rfl, rfl, h1, h5, q _ _ ⟨_, upd_same, h2.dl⟩ h6⟩
def gPopAt : T → List T → Option (T × T)
  | .lst xs, [.int j] => if -(2 ^ 63) ≤ j ∧ j < 2 ^ 63 then (seqIndex? j xs.length).bind fun k => (xs[k]?).map fun y => (.lst (xs.eraseIdx k), y) else none
  | _, _ => none
theorem RpL.erase : ∀ {vs : List V} {ts : List T} (n : Nat), RpL K A H vs ts → RpL K A H (vs.eraseIdx n) (ts.eraseIdx n)
  | _, _, _, .nil => .nil
  | _, _, 0, .cons _ b => b
  | _, _, n + 1, .cons a b => .cons a (RpL.erase n b)
theorem m_popAt : Mv K A rPopAt gPopAt := fun H O p t vs ts t' u hw hr e Q q => by
  match t, ts, e with
  | .lst xs, [.int j], e =>
    simp only [gPopAt] at e
    split at e
    · rename_i hj
      simp only [Option.bind_eq_some_iff, Option.map_eq_some_iff] at e
      obtain ⟨k, h3, y, h4, h5⟩ := e
      cases h5
      obtain ⟨ws, h1, h2⟩ := hw
      match vs, hr with
      | [_], .cons (.int _) .nil =>
        obtain ⟨w, h5, h6⟩ := h2.get h4
        exact ⟨p, ws, j, k, w, rfl, rfl, h1, hj.1, hj.2, by rw [h2.len]; exact h3, h5, q _ _ ⟨_, upd_same, h2.erase k⟩ h6⟩
    · cases e
def gReverse : T → List T → Option (T × T)
  | .lst xs, [] => some (.lst xs.reverse, .non)
  | _, _ => none
theorem m_reverse : Mv K A rReverse gReverse := fun H O p t vs ts t' u hw hr e Q q => by
  match t, ts, e with
  | .lst xs, [], e =>
    cases e
    obtain ⟨ws, h1, h2⟩ := hw
    match vs, hr with
    | [], .nil => exact ⟨p, ws, rfl, rfl, h1, q _ _ ⟨_, upd_same, h2.rev⟩ .non⟩
def gInsert : T → List T → Option (T × T)
  | .lst xs, [.int j, y] => if xs.length < sizeLine ∧ 0 ≤ j ∧ j < 2 ^ 63 then some (.lst (xs.take j.toNat ++ [y] ++ xs.drop j.toNat), .non) else none
  | _, _ => none
theorem m_insert : Mv K A QE.rIns gInsert := fun H O p t vs ts t' u hw hr e Q q => by
  match t, ts, e with
  | .lst xs, [.int j, y], e =>
    simp only [gInsert] at e
    split at e
    · rename_i hj
      cases e
      obtain ⟨ws, h1, h2⟩ := hw
      match vs, hr with
      | [_, w], .cons (.int _) (.cons a .nil) => exact ⟨p, ws, j, w, rfl, rfl, h1, by rw [h2.len]; exact hj.1, hj.2.1, hj.2.2, q _ _ ⟨_, upd_same, ((h2.take _).snoc a).app (h2.drop _)⟩ .non⟩
    · cases e
end
end QT

set_option Elab.async false
set_option linter.all false
set_option maxRecDepth 100000
set_option maxHeartbeats 4000000
namespace QT
open PySem PySem.Spec PyProof.Rows L2 QB
section
variable {K : PySem.W.Frag} {A : Nat → Addr} {G : Fx} {σ σ' : L2.St} {H H' H2 : Hp} {ρ ρ' ρ2 : Rho} {O O' O2 : Oset} {i : Nat} {p : Addr} {t t' : T} {v : V} {x : Opd}
/-! ### several targets -/
def putAll : List Nat → List (Bool × T) → Rho → Option Rho
  | [], [], ρ => some ρ
  | i :: is, (b, t) :: xs, ρ => putAll is xs (ρ.set i (if b then .own t else .val t))
  | _, _, _ => none
def setAll : List Nat → List V → L2.St → L2.St
  | i :: is, v :: vs, σ => setAll is vs (σ.set i (some v))
  | _, _, σ => σ
def gNames : List Nat → TGs
  | [] => gNil
  | i :: is => gCons (gName i) (gNames is)
theorem putAll_ok {Hs : Hp} (n0 : ∀ p, Hs p = none → ¬ G.O0 p) : ∀ {is : List Nat} {vs : List V} {xs : List (Bool × T)} {σ : L2.St} {ρ ρ' : Rho}, Rel K A G σ H ρ O → Paired (Cm K A σ Hs H ρ O) vs xs → (cmA vs xs).Nodup → putAll is xs ρ = some ρ' → Rel K A G (setAll is vs σ) H ρ' O
  | [], _, [], σ, ρ, ρ', r, .nil, _, e => by cases e; exact r
  | [], _, _ :: _, σ, ρ, ρ', r, _, _, e => by cases e
  | _ :: _, _, [], σ, ρ, ρ', r, _, _, e => by cases e
  | i :: is, v :: vs, (true, t) :: xs, σ, ρ, ρ', r, .cons ⟨p, ep, tm⟩ b, nd, e => by
    subst ep
    simp only [cmA, List.nodup_cons] at nd
    simp only [putAll] at e
    show Rel K A G (setAll is vs (σ.set i (some (.ref p)))) H ρ' O
    refine putAll_ok n0 (r.putOwn tm.hid (n0 p tm.new) tm.un tm.own) ?_ nd.2 e
    -- the others
    have go : ∀ {ws : List V} {ys : List (Bool × T)}, Paired (Cm K A σ Hs H ρ O) ws ys → (p ∉ cmA ws ys) → Paired (Cm K A (σ.set i (some (.ref p))) Hs H (ρ.set i (.own t)) O) ws ys := by
      intro ws ys hp
      induction hp with
      | nil => intro _; exact .nil
      | @cons w y ws ys a _ ih =>
        intro hn
        obtain ⟨b, u⟩ := y
        cases b with
        | false =>
          have : cmA (w :: ws) ((false, u) :: ys) = cmA ws ys := by cases w <;> rfl
          rw [this] at hn
          exact .cons a (ih hn)
        | true =>
          obtain ⟨q, eq, tq⟩ := a
          subst eq
          simp only [cmA, List.mem_cons, not_or] at hn
          refine .cons ⟨q, rfl, tq.new, tq.hid, fun j hj ej => ?_, tq.own⟩ (ih hn.2)
          rcases hold_set hj with ⟨rfl, _⟩ | ⟨nj, hj⟩
          · have lt : j < σ.length := by have := (List.getElem?_eq_some_iff.mp ej).1; rwa [List.length_set] at this
            rw [set_eq lt] at ej; cases ej; exact hn.1 rfl
          · rw [set_ne nj] at ej; exact tq.un j hj ej
    exact go b nd.1
  | i :: is, v :: vs, (false, t) :: xs, σ, ρ, ρ', r, .cons a b, nd, e => by
    have ec : cmA (v :: vs) ((false, t) :: xs) = cmA vs xs := by cases v <;> rfl
    rw [ec] at nd
    simp only [putAll] at e
    show Rel K A G (setAll is vs (σ.set i (some v))) H ρ' O
    refine putAll_ok n0 (r.put a) (paired_map (fun w y z => ?_) b) nd e
    obtain ⟨b, u⟩ := y
    cases b with
    | false => exact z
    | true =>
      obtain ⟨q, eq, tq⟩ := z
      refine ⟨q, eq, tq.new, tq.hid, fun j hj ej => ?_, tq.own⟩
      rcases hold_set hj with ⟨_, _, hx | hx⟩ | ⟨nj, hj⟩
      · cases hx
      · cases hx
      · rw [set_ne nj] at ej; exact tq.un j hj ej
theorem putAll_len : ∀ {is : List Nat} {xs : List (Bool × T)} {ρ ρ' : Rho}, putAll is xs ρ = some ρ' → is.length = xs.length
  | [], [], _, _, _ => rfl
  | [], _ :: _, _, _, e => by cases e
  | _ :: _, [], _, _, e => by cases e
  | i :: is, (b, t) :: xs, ρ, ρ', e => by simp only [putAll] at e; simp [putAll_len e]
theorem gNames_run : ∀ {is : List Nat} {vs : List V} {σ : L2.St} {Q : L2.St → Hp → Prop}, is.length = vs.length → Q (setAll is vs σ) H → gNames is vs σ H Q
  | [], [], σ, Q, _, h => ⟨rfl, h⟩
  | i :: is, v :: vs, σ, Q, hl, h => ⟨v, vs, rfl, gNames_run (by simpa using hl) h⟩
  | [], _ :: _, _, _, hl, _ => by simp at hl
  | _ :: _, [], _, _, hl, _ => by simp at hl
/-- i, j = e, f -/
def sPar (is : List Nat) (a : AF) : SF := fun ρ => match a ρ with
  | some (os, ρ1) => (match ocm os ρ1 with
    | some (xs, ρ2) => (match putAll is xs ρ2 with
      | some ρ3 => .nx ρ3
      | none => .fail)
    | none => .fail)
  | none => .fail
theorem sv_par {j : Nat} {ta : TA} {a : AF} (ha : AV K A ta a) : SV K A (tPar i j ta) (sPar [i, j] a) := fun G σ H ρ O D r e => by
  unfold sPar at e
  split at e
  · rename_i os ρ1 h1
    split at e
    · rename_i xs ρ2 h2
      split at e
      · rename_i ρ3 h3
        refine ha G σ H ρ O r os ρ1 h1 _ fun vs H1 O1 p1 s1 nd => ?_
        obtain ⟨O2, p2, s2, n2⟩ := ocm_ok p1.rel s1 h2
        have r3 := putAll_ok (fun p hp => (r.fresh hp).2.1) p2.rel s2 (by rw [n2]; exact nd) h3
        have hl := putAll_len h3
        rw [← paired_len s2] at hl
        match vs, hl with
        | [v, w], _ => exact ⟨v, w, rfl, e _ H1 O2 ⟨r3, (p1.trans p2).le, (p1.trans p2).lv⟩⟩
      · exact e.elim
    · exact e.elim
  · exact e.elim
/-- i, j, .. = e -/
def sAsgT (is : List Nat) (f : EF) : SF := fun ρ => match f ρ with
  | some (.ot xs, ρ1) => (match putAll is xs ρ1 with
    | some ρ3 => .nx ρ3
    | none => .fail)
  | some (o, ρ1) => (match share o ρ1 with
    | some (.tup ts, ρ2) => (match putAll is (ts.map fun t => (false, t)) ρ2 with
      | some ρ3 => .nx ρ3
      | none => .fail)
    | _ => .fail)
  | none => .fail
theorem cm_vals {Hs : Hp} : ∀ {vs : List V} {ts : List T}, RpL K A (hide H O) vs ts → Paired (Cm K A σ Hs H ρ O) vs (ts.map fun t => (false, t)) ∧ cmA vs (ts.map fun t => (false, t)) = []
  | _, _, .nil => ⟨.nil, rfl⟩
  | v :: vs, t :: ts, .cons a b => by
    obtain ⟨h1, h2⟩ := cm_vals b
    refine ⟨.cons a h1, ?_⟩
    have : cmA (v :: vs) ((t :: ts).map fun t => (false, t)) = cmA vs (ts.map fun t => (false, t)) := by cases v <;> rfl
    rw [this, h2]
theorem sv_asgT {is : List Nat} {n : Nat} {te : TE} {f : EF} (he : EV K A te f) (hn : n = is.length) : SV K A (tAsg te (gTup K n (gNames is))) (sAsgT is f) := fun G σ H ρ O D r e => by
  subst hn
  cases h : f ρ with
  | none => simp only [sAsgT, h] at e; exact e.elim
  | some z =>
    obtain ⟨o, ρ1⟩ := z
    refine he G σ H ρ O r _ _ h _ fun v H1 O1 p1 s1 => ?_
    have key : ∀ t ρ2, share o ρ1 = some (t, ρ2) → ∀ ts, t = .tup ts → ∀ ρ3, putAll is (ts.map fun t => (false, t)) ρ2 = some ρ3 → EndsOK K A D G H O (.nx ρ3) → gTup K is.length (gNames is) v σ H1 D.nx := fun t ρ2 hs ts et ρ3 h3 hE => by
      subst et
      obtain ⟨O2, p2, s2⟩ := release (vs := [v]) (os := [o]) r p1 (.cons s1 .nil)
      cases s2 with
      | cons s2 _ =>
        obtain ⟨O3, p3, x3⟩ := share_ok p2.rel s2 (by rw [share_fz]; exact hs)
        have p4 := p2.trans p3
        cases x3 with
        | tup hq hr =>
          rename_i a ws
          obtain ⟨c1, c2⟩ := cm_vals (σ := σ) (ρ := ρ2) (Hs := H) hr
          have r5 := putAll_ok (fun p hp => (r.fresh hp).2.1) p4.rel c1 (by rw [c2]; exact .nil) h3
          have hl := putAll_len h3
          rw [List.length_map, ← hr.len] at hl
          exact ⟨a, ws, rfl, hide_le.sqT hq, hl.symm, gNames_run hl (hE _ _ O3 ⟨r5, p4.le, p4.lv⟩)⟩
    cases o with
    | ot xs =>
      simp only [sAsgT, h] at e
      split at e
      · rename_i ρ3 h3
        obtain ⟨a, vs, rfl, hn, hp, hc, nd⟩ := s1
        have r3 := putAll_ok (fun p hp => (r.fresh hp).2.1) p1.rel hc nd h3
        have hl := putAll_len h3
        rw [← paired_len hc] at hl
        exact ⟨a, vs, rfl, .inl (.inl (hide_some.mp hp).2), hl.symm, gNames_run hl (e _ _ O1 ⟨r3, p1.le, p1.lv⟩)⟩
      · exact e.elim
    | val u =>
      simp only [sAsgT, h] at e
      split at e
      · rename_i ts ρ2 hs
        split at e
        · rename_i ρ3 h3; exact key _ _ hs ts rfl ρ3 h3 e
        · exact e.elim
      · exact e.elim
    | own u =>
      simp only [sAsgT, h] at e
      split at e
      · rename_i ts ρ2 hs
        split at e
        · rename_i ρ3 h3; exact key _ _ hs ts rfl ρ3 h3 e
        · exact e.elim
      · exact e.elim
    | slot u =>
      simp only [sAsgT, h] at e
      split at e
      · rename_i ts ρ2 hs
        split at e
        · rename_i ρ3 h3; exact key _ _ hs ts rfl ρ3 h3 e
        · exact e.elim
      · exact e.elim
end
end QT

set_option Elab.async false
set_option linter.all false
set_option maxRecDepth 100000
set_option maxHeartbeats 4000000
namespace QT
open PySem PySem.Spec PyProof.Rows L2 QB
section
variable {K : PySem.W.Frag} {A : Nat → Addr} {H H' : Hp} {O : Oset} {p : Addr} {t t' : T} {v : V}
/-! ### ints -/
def fI0 (g : Int → Int → T) : List T → Option Opd
  | [.int i, .int j] => some (.val (g i j))
  | _ => none
def fI (C : Int → Int → Prop) [∀ i j, Decidable (C i j)] (g : Int → Int → T) : List T → Option Opd
  | [.int i, .int j] => if C i j then some (.val (g i j)) else none
  | _ => none
def fU (g : Int → T) : List T → Option Opd
  | [.int i] => some (.val (g i))
  | _ => none
theorem b_I0 {gv : Int → Int → V} {gt : Int → Int → T} (h : ∀ i j H, Rp K A H (gv i j) (gt i j)) : B2 K A (rI0 gv) (fI0 gt) := fun H O vs ts o d0 tp e Q q => by
  match ts, e with
  | [.int i, .int j], e =>
    cases e
    match vs, tp with
    | [_, _], .cons a (.cons b .nil) => rw [a.int, b.int]; exact ⟨i, j, rfl, rfl, q _ H (Same.refl _) (h i j _)⟩
theorem b_I {C : Int → Int → Prop} [∀ i j, Decidable (C i j)] {gv : Int → Int → V} {gt : Int → Int → T} (h : ∀ i j H, Rp K A H (gv i j) (gt i j)) : B2 K A (rI C gv) (fI C gt) := fun H O vs ts o d0 tp e Q q => by
  match ts, e with
  | [.int i, .int j], e =>
    simp only [fI] at e
    split at e
    · rename_i hc
      cases e
      match vs, tp with
      | [_, _], .cons a (.cons b .nil) => rw [a.int, b.int]; exact ⟨i, j, rfl, rfl, hc, q _ H (Same.refl _) (h i j _)⟩
    · cases e
theorem b_U {gv : Int → V} {gt : Int → T} (h : ∀ i H, Rp K A H (gv i) (gt i)) : B1 K A (rU gv) (fU gt) := fun H O vs ts o d0 tp e Q q => by
  match ts, e with
  | [.int i], e =>
    cases e
    match vs, tp with
    | [_], .cons a .nil => rw [a.int]; exact ⟨i, rfl, q _ H (Same.refl _) (h i _)⟩
instance (i j : Int) : Decidable (CMul i j) := by unfold CMul; infer_instance
instance (i j : Int) : Decidable (CDivW i j) := by unfold CDivW; infer_instance
instance (i j : Int) : Decidable (CMulW i j) := by unfold CMulW; infer_instance
instance (i j : Int) : Decidable (CPow i j) := by unfold CPow; infer_instance
theorem b_add : B2 K A (rI0 fun i j => .int (i + j)) (fI0 fun i j => .int (i + j)) := b_I0 fun _ _ _ => .int _
theorem b_sub : B2 K A (rI0 fun i j => .int (i - j)) (fI0 fun i j => .int (i - j)) := b_I0 fun _ _ _ => .int _
theorem b_mul : B2 K A (rI CMul fun i j => .int (i * j)) (fI CMul fun i j => .int (i * j)) := b_I fun _ _ _ => .int _
theorem b_mod : B2 K A (rI (fun _ j => 0 < j) fun i j => .int (i % j)) (fI (fun _ j => 0 < j) fun i j => .int (i % j)) := b_I fun _ _ _ => .int _
theorem b_fdiv : B2 K A (rI CDivW fun i j => .int (i / j)) (fI CDivW fun i j => .int (i / j)) := b_I fun _ _ _ => .int _
theorem b_pow : B2 K A (rI CPow fun i j => .int (i ^ j.toNat)) (fI CPow fun i j => .int (i ^ j.toNat)) := b_I fun _ _ _ => .int _
theorem b_lt : B2 K A (rI0 fun i j => .bl (decide (i < j))) (fI0 fun i j => .bl (decide (i < j))) := b_I0 fun _ _ _ => .bl _
theorem b_le : B2 K A (rI0 fun i j => .bl (decide (i ≤ j))) (fI0 fun i j => .bl (decide (i ≤ j))) := b_I0 fun _ _ _ => .bl _
theorem b_gt : B2 K A (rI0 fun i j => .bl (decide (j < i))) (fI0 fun i j => .bl (decide (j < i))) := b_I0 fun _ _ _ => .bl _
theorem b_ge : B2 K A (rI0 fun i j => .bl (decide (j ≤ i))) (fI0 fun i j => .bl (decide (j ≤ i))) := b_I0 fun _ _ _ => .bl _
theorem b_neg : B1 K A (rU fun i => .int (-i)) (fU fun i => .int (-i)) := b_U fun _ _ => .int _
/-! ### flat values -/
def T.fv : T → Option V
  | .non => some .non
  | .bl b => some (.bl b)
  | .int i => some (.int i)
  | .str x => some (.str x)
  | _ => none
theorem Top.fv {w : V} (h : Top K A H O v t) (e : t.fv = some w) : v = w := by
  cases t <;> simp only [T.fv, Option.some.injEq, reduceCtorEq] at e <;> subst e
  · exact h.non
  · exact h.bl
  · exact h.int
  · exact h.str
def fEq (neg : Bool) : List T → Option Opd
  | [a, b] => a.fv.bind fun x => b.fv.bind fun y => if scal x y then some (.val (.bl (if neg then !decide (x = y) else decide (x = y)))) else none
  | _ => none
theorem b_eq : B2 K A rEq (fEq false) := fun H O vs ts o d0 tp e Q q => by
  match ts, e with
  | [a, b], e =>
    simp only [fEq, Option.bind_eq_some_iff] at e
    obtain ⟨x, h1, y, h2, h3⟩ := e
    split at h3
    · rename_i hs
      cases h3
      match vs, tp with
      | [_, _], .cons c (.cons d .nil) => rw [c.fv h1, d.fv h2]; exact ⟨hs, q _ H (Same.refl _) (show Rp _ _ _ _ _ from .bl _)⟩
    · cases h3
theorem b_ne : B2 K A rNe (fEq true) := fun H O vs ts o d0 tp e Q q => by
  match ts, e with
  | [a, b], e =>
    simp only [fEq, Option.bind_eq_some_iff] at e
    obtain ⟨x, h1, y, h2, h3⟩ := e
    split at h3
    · rename_i hs
      cases h3
      match vs, tp with
      | [_, _], .cons c (.cons d .nil) => rw [c.fv h1, d.fv h2]; exact ⟨hs, q _ H (Same.refl _) (show Rp _ _ _ _ _ from .bl _)⟩
    · cases h3
/-- is None -/
def T.isN : T → Bool
  | .non => true
  | _ => false
def fIsN (neg : Bool) : List T → Option Opd
  | [a, .non] => some (.val (.bl (if neg then !a.isN else a.isN)))
  | _ => none
theorem top_non (h : Top K A H O v t) : decide (v = .non) = t.isN := by
  rcases h with h | ⟨p, rfl, h⟩
  · cases h <;> simp [T.isN]
  · cases t <;> first | exact h.elim | simp [T.isN]
theorem b_isN : B2 K A (fun x y H Q => y = .non ∧ Q (.bl (decide (x = .non))) H) (fIsN false) := fun H O vs ts o d0 tp e Q q => by
  match ts, e with
  | [a, .non], e =>
    cases e
    match vs, tp with
    | [v, _], .cons c (.cons d .nil) => exact ⟨d.non, q _ H (Same.refl _) (show Rp _ _ _ _ _ by rw [top_non c]; exact .bl _)⟩
theorem b_notN : B2 K A (fun x y H Q => y = .non ∧ Q (.bl (!decide (x = .non))) H) (fIsN true) := fun H O vs ts o d0 tp e Q q => by
  match ts, e with
  | [a, .non], e =>
    cases e
    match vs, tp with
    | [v, _], .cons c (.cons d .nil) => exact ⟨d.non, q _ H (Same.refl _) (show Rp _ _ _ _ _ by rw [top_non c]; exact .bl _)⟩
/-! ### lists, tuples, texts -/
theorem RpL.atI {vs : List V} {ts : List T} {i : Int} (h : RpL K A H vs ts) (e : atI ts i = some t) : ∃ v, L2.atI vs i = some v ∧ Rp K A H v t := by
  unfold L2.atI at e ⊢
  rw [h.len]
  cases hn : ixN ts.length i with
  | none => rw [hn] at e; cases e
  | some j => rw [hn] at e; exact h.get e
def fIx : List T → Option Opd
  | [.lst xs, .int i] => (atI xs i).map .val
  | [.tup xs, .int i] => (atI xs i).map .val
  | [.str z, .int i] => if z.length ≤ sizeLine then (atI z.cps.toList i).map fun c => .val (.str ⟨#[c]⟩) else none
  | _ => none
def fIxL : List T → Option Opd
  | [.lst xs, .int i] => (atI xs i).map .val
  | _ => none
def fIxT : List T → Option Opd
  | [.tup xs, .int i] => (atI xs i).map .val
  | _ => none
def fIxS : List T → Option Opd
  | [.str z, .int i] => if z.length ≤ sizeLine then (atI z.cps.toList i).map fun c => .val (.str ⟨#[c]⟩) else none
  | _ => none
theorem b_ixL : B2 K A (rIxL K) fIxL := fun H O vs ts o d0 tp e Q q => by
  match ts, e with
  | [.lst xs, .int i], e =>
    simp only [fIxL, Option.map_eq_some_iff] at e
    obtain ⟨u, h1, rfl⟩ := e
    match vs, tp with
    | [_, _], .cons a (.cons b .nil) =>
      obtain ⟨p, ws, rfl, h2, h3⟩ := a.lst
      obtain ⟨w, h4, h5⟩ := h3.atI h1
      rw [b.int]
      exact ⟨p, ws, i, w, rfl, rfl, h2, h4, q _ H (Same.refl _) h5⟩
theorem b_ixT : B2 K A (rIxT K) fIxT := fun H O vs ts o d0 tp e Q q => by
  match ts, e with
  | [.tup xs, .int i], e =>
    simp only [fIxT, Option.map_eq_some_iff] at e
    obtain ⟨u, h1, rfl⟩ := e
    match vs, tp with
    | [_, _], .cons a (.cons b .nil) =>
      obtain ⟨p, ws, rfl, h2, h3⟩ := a.tup
      obtain ⟨w, h4, h5⟩ := h3.atI h1
      rw [b.int]
      exact ⟨p, ws, i, w, rfl, rfl, h2, h4, q _ H (Same.refl _) h5⟩
theorem b_ixS : B2 K A rIxS fIxS := fun H O vs ts o d0 tp e Q q => by
  match ts, e with
  | [.str z, .int i], e =>
    simp only [fIxS] at e
    split at e
    · rename_i hz
      simp only [Option.map_eq_some_iff] at e
      obtain ⟨c, h1, rfl⟩ := e
      match vs, tp with
      | [_, _], .cons a (.cons b .nil) => rw [a.str, b.int]; exact ⟨z, i, c, rfl, rfl, hz, h1, q _ H (Same.refl _) (show Rp _ _ _ _ _ from .str _)⟩
    · cases e
theorem b_ix : B2 K A (rIx K) fIx := fun H O vs ts o d0 tp e Q q => by
  match ts, e with
  | [.lst xs, .int i], e => exact l2or .inl (b_ixL H O vs _ o d0 tp e Q q)
  | [.tup xs, .int i], e => exact l2or (fun h => .inr (.inl h)) (b_ixT H O vs _ o d0 tp e Q q)
  | [.str xs, .int i], e => exact l2or (fun h => .inr (.inr h)) (b_ixS H O vs _ o d0 tp e Q q)
where
  l2or {r r' : R2} {vs : List V} {H : Hp} {Q : VK} (h : ∀ {x y}, r x y H Q → r' x y H Q) (a : l2 r vs H Q) : l2 r' vs H Q := by
    match vs, a with
    | [x, y], a => exact h a
def fLen : List T → Option Opd
  | [.lst xs] => some (.val (.int xs.length))
  | [.tup xs] => some (.val (.int xs.length))
  | _ => none
theorem b_len : Bv K A (QB.rLen K) fLen := fun H O vs ts o d0 tp e Q q => by
  match ts, e with
  | [.lst xs], e =>
    cases e
    match vs, tp with
    | [_], .cons a .nil =>
      obtain ⟨p, ws, rfl, h2, h3⟩ := a.lst
      exact ⟨p, ws, rfl, .inl h2, q _ H (Same.refl _) (show Rp _ _ _ _ _ by rw [h3.len]; exact .int _)⟩
  | [.tup xs], e =>
    cases e
    match vs, tp with
    | [_], .cons a .nil =>
      obtain ⟨p, ws, rfl, h2, h3⟩ := a.tup
      exact ⟨p, ws, rfl, .inr h2, q _ H (Same.refl _) (show Rp _ _ _ _ _ by rw [h3.len]; exact .int _)⟩
def fLenS : List T → Option Opd
  | [.str z] => if z.length ≤ sizeLine then some (.val (.int z.length)) else none
  | _ => none
theorem b_lenS : Bv K A (fun xs H Q => ∃ z, xs = [.str z] ∧ z.length ≤ sizeLine ∧ Q (.int z.length) H) fLenS := fun H O vs ts o d0 tp e Q q => by
  match ts, e with
  | [.str z], e =>
    simp only [fLenS] at e
    split at e
    · rename_i hz
      cases e
      match vs, tp with
      | [_], .cons a .nil => rw [a.str]; exact ⟨z, rfl, hz, q _ H (Same.refl _) (show Rp _ _ _ _ _ from .int _)⟩
    · cases e
def fLst : List T → Option Opd
  | [.lst xs] => some (.own (.lst xs))
  | [.tup xs] => some (.own (.lst xs))
  | _ => none
theorem newL {ws : List V} {xs : List T} {Q : VK} (h3 : RpL K A (hide H O) ws xs) (q : ∀ v H', Same H H' → NewR K A H O H' v (.own (.lst xs)) → Q v H') : ∀ l, H l = none → Q (.ref l) (upd H l (.lst ws)) := fun l hl =>
  q _ _ (same_new hl) ⟨l, rfl, hl, ws, upd_same, h3.mono (Le.of (hide_new hl))⟩
theorem newT {ws : List V} {xs : List T} {Q : VK} (d : ∀ p, O p → H p ≠ none) (h3 : RpL K A (hide H O) ws xs) (q : ∀ v H', Same H H' → NewR K A H O H' v (.val (.tup xs)) → Q v H') : ∀ l, H l = none → Q (.ref l) (upd H l (.tup ws)) := fun l hl =>
  q _ _ (same_new hl) (show Rp K A _ _ _ from .tup (.inl (.inl (hide_of (fun e => d l e hl) upd_same))) (h3.mono (Le.of (hide_newv hl))))
theorem b_lst : Bv K A (rLst K) fLst := fun H O vs ts o d0 tp e Q q => by
  match ts, e with
  | [.lst xs], e =>
    cases e
    match vs, tp with
    | [_], .cons a .nil =>
      obtain ⟨p, ws, rfl, h2, h3⟩ := a.lst
      exact ⟨p, ws, rfl, .inl h2, newL h3 q⟩
  | [.tup xs], e =>
    cases e
    match vs, tp with
    | [_], .cons a .nil =>
      obtain ⟨p, ws, rfl, h2, h3⟩ := a.tup
      exact ⟨p, ws, rfl, .inr h2, newL h3 q⟩
end
end QT

set_option Elab.async false
set_option linter.all false
set_option maxRecDepth 100000
set_option maxHeartbeats 4000000
namespace QT
open PySem PySem.Spec PyProof.Rows L2 QB
section
variable {K : PySem.W.Frag} {A : Nat → Addr} {G : Fx} {σ : L2.St} {ρ ρ' : Rho} {H H' : Hp} {O : Oset} {p : Addr} {t t' : T} {v : V}
def fTupl : List T → Option Opd
  | [.lst xs] => some (.val (.tup xs))
  | [.tup xs] => some (.val (.tup xs))
  | _ => none
theorem b_tupl : Bv K A (rTupl K) fTupl := fun H O vs ts o d0 tp e Q q => by
  match ts, e with
  | [.lst xs], e =>
    cases e
    match vs, tp with
    | [_], .cons a .nil =>
      obtain ⟨p, ws, rfl, h2, h3⟩ := a.lst
      exact ⟨p, ws, rfl, .inl ⟨h2, newT d0 h3 q⟩⟩
  | [.tup xs], e =>
    cases e
    match vs, tp with
    | [w], .cons a .nil =>
      have hr : Rp K A (hide H O) w (.tup xs) := a.resolve_right fun ⟨_, _, h⟩ => h.elim
      obtain ⟨p, ws, rfl, h2, h3⟩ := a.tup
      exact ⟨p, ws, rfl, .inr ⟨h2, q _ H (Same.refl _) hr⟩⟩
def fInt : List T → Option Opd
  | [.int i] => some (.val (.int i))
  | [.bl k] => some (.val (.int (if k then 1 else 0)))
  | _ => none
theorem b_int : Bv K A rInt fInt := fun H O vs ts o d0 tp e Q q => by
  match ts, e with
  | [.int i], e =>
    cases e
    match vs, tp with
    | [_], .cons a .nil => rw [a.int]; exact .inl ⟨i, rfl, q _ H (Same.refl _) (show Rp _ _ _ _ _ from .int _)⟩
  | [.bl i], e =>
    cases e
    match vs, tp with
    | [_], .cons a .nil => rw [a.bl]; exact .inr ⟨i, rfl, q _ H (Same.refl _) (show Rp _ _ _ _ _ from .int _)⟩
def fAbs : List T → Option Opd
  | [.int i] => some (.val (.int (if i < 0 then -i else i)))
  | _ => none
theorem b_abs : Bv K A rAbs fAbs := fun H O vs ts o d0 tp e Q q => by
  match ts, e with
  | [.int i], e =>
    cases e
    match vs, tp with
    | [_], .cons a .nil => rw [a.int]; exact ⟨i, rfl, q _ H (Same.refl _) (show Rp _ _ _ _ _ from .int _)⟩
def fMax : List T → Option Opd
  | [.int i, .int j] => some (.val (.int (if j > i then j else i)))
  | _ => none
theorem b_max : Bv K A QB.rMax fMax := fun H O vs ts o d0 tp e Q q => by
  match ts, e with
  | [.int i, .int j], e =>
    cases e
    match vs, tp with
    | [_, _], .cons a (.cons b .nil) => rw [a.int, b.int]; exact ⟨i, j, rfl, q _ H (Same.refl _) (show Rp _ _ _ _ _ from .int _)⟩
def fMin : List T → Option Opd
  | [.int i, .int j] => some (.val (.int (if j < i then j else i)))
  | _ => none
theorem b_min : Bv K A QB.rMin fMin := fun H O vs ts o d0 tp e Q q => by
  match ts, e with
  | [.int i, .int j], e =>
    cases e
    match vs, tp with
    | [_, _], .cons a (.cons b .nil) => rw [a.int, b.int]; exact ⟨i, j, rfl, q _ H (Same.refl _) (show Rp _ _ _ _ _ from .int _)⟩
def fAddS : List T → Option Opd
  | [.str a, .str b] => if a.length + b.length ≤ sizeLine then some (.val (.str (a ++ b))) else none
  | _ => none
theorem b_addS : B2 K A rAddStr fAddS := fun H O vs ts o d0 tp e Q q => by
  match ts, e with
  | [.str i, .str j], e =>
    simp only [fAddS] at e
    split at e
    · rename_i hl
      cases e
      match vs, tp with
      | [_, _], .cons a (.cons b .nil) => rw [a.str, b.str]; exact ⟨i, j, rfl, rfl, hl, q _ H (Same.refl _) (show Rp _ _ _ _ _ from .str _)⟩
    · cases e
/-! ### in -/
def fvs : List T → Option (List V)
  | [] => some []
  | t :: r => t.fv.bind fun v => (fvs r).bind fun vs => some (v :: vs)
theorem Rp.fv {w : V} (h : Rp K A H v t) (e : t.fv = some w) : v = w ∧ flatV v = true := by
  cases t <;> simp only [T.fv, Option.some.injEq, reduceCtorEq] at e <;> subst e <;> cases h <;> exact ⟨rfl, rfl⟩
theorem RpL.fvs : ∀ {vs ws : List V} {ts : List T}, RpL K A H vs ts → QT.fvs ts = some ws → vs = ws ∧ vs.all flatV = true
  | _, _, _, .nil, e => by cases e; exact ⟨rfl, rfl⟩
  | _, _, _, .cons a b, e => by
    simp only [QT.fvs, Option.bind_eq_some_iff] at e
    obtain ⟨w, h1, ws, h2, h3⟩ := e
    cases h3
    obtain ⟨e1, f1⟩ := a.fv h1
    obtain ⟨e2, f2⟩ := RpL.fvs b h2
    exact ⟨by rw [e1, e2], by simp [f1, f2]⟩
def T.items : T → Option (List T)
  | .lst xs => some xs
  | .tup xs => some xs
  | _ => none
def fIn (neg : Bool) : List T → Option Opd
  | [x, s] => x.fv.bind fun w => s.items.bind fun xs => (fvs xs).bind fun ws => some (.val (.bl (if neg then !inV w ws else inV w ws)))
  | _ => none
theorem Top.fv2 {w : V} (h : Top K A H O v t) (e : t.fv = some w) : v = w ∧ flatV v = true := by
  have := h.fv e
  subst this
  refine ⟨rfl, ?_⟩
  cases t <;> simp only [T.fv, Option.some.injEq, reduceCtorEq] at e <;> subst e <;> rfl
theorem b_in {neg : Bool} : B2 K A (rIn K neg) (fIn neg) := fun H O vs ts o d0 tp e Q q => by
  match ts, e with
  | [a, b], e =>
    simp only [fIn, Option.bind_eq_some_iff] at e
    obtain ⟨w, h1, xs, h2, ws, h3, h4⟩ := e
    cases h4
    match vs, tp with
    | [x, y], .cons c (.cons d .nil) =>
      obtain ⟨e1, f1⟩ := c.fv2 h1
      subst e1
      cases b <;> simp only [T.items, Option.some.injEq, reduceCtorEq] at h2 <;> subst h2
      · obtain ⟨p, us, rfl, h5, h6⟩ := d.lst
        obtain ⟨e2, f2⟩ := h6.fvs h3
        subst e2
        exact ⟨p, us, rfl, .inl h5, f1, f2, q _ H (Same.refl _) (show Rp _ _ _ _ _ from .bl _)⟩
      · obtain ⟨p, us, rfl, h5, h6⟩ := d.tup
        obtain ⟨e2, f2⟩ := h6.fvs h3
        subst e2
        exact ⟨p, us, rfl, .inr h5, f1, f2, q _ H (Same.refl _) (show Rp _ _ _ _ _ from .bl _)⟩
/-! ### data: ==, repr -/
mutual
def T.dat : T → Option PyData
  | .non => some .none
  | .bl b => some (.bool b)
  | .int i => some (.int i)
  | .str x => some (.str x)
  | .lst xs => (datL xs).map .list
  | .tup xs => (datL xs).map .tuple
  | _ => none
def datL : List T → Option (List PyData)
  | [] => some []
  | t :: r => t.dat.bind fun d => (datL r).bind fun ds => some (d :: ds)
end
mutual
theorem Rp.dp : ∀ {v : V} {t : T} {d : PyData}, Rp K A H v t → t.dat = some d → Dp K H v d
  | _, _, _, .non, e => by cases e; exact .non
  | _, _, _, .bl b, e => by cases e; exact .bl b
  | _, _, _, .int b, e => by cases e; exact .int b
  | _, _, _, .str b, e => by cases e; exact .str b
  | _, _, _, .cls b, e => by cases e
  | _, _, _, .ty b, e => by cases e
  | _, _, _, .lst h r, e => by
    simp only [T.dat, Option.map_eq_some_iff] at e
    obtain ⟨ds, h1, rfl⟩ := e
    exact .lst h (RpL.dp r h1)
  | _, _, _, .tup h r, e => by
    simp only [T.dat, Option.map_eq_some_iff] at e
    obtain ⟨ds, h1, rfl⟩ := e
    exact .tup h (RpL.dp r h1)
  | _, _, _, .dct h r, e => by cases e
  | _, _, _, .obj h r, e => by cases e
theorem RpL.dp : ∀ {vs : List V} {ts : List T} {ds : List PyData}, RpL K A H vs ts → datL ts = some ds → DpAll K H vs ds
  | _, _, _, .nil, e => by cases e; exact .nil
  | _, _, _, .cons a b, e => by
    simp only [datL, Option.bind_eq_some_iff] at e
    obtain ⟨d, h1, ds, h2, h3⟩ := e
    cases h3
    exact .cons (Rp.dp a h1) (RpL.dp b h2)
end
theorem Top.dp {d : PyData} (h : Top K A H O v t) (e : t.dat = some d) : Dp K H v d := by
  rcases h with h | ⟨p, rfl, h⟩
  · exact (h.mono hide_le).dp e
  · cases t <;> first | exact h.elim | (simp only [T.dat, reduceCtorEq] at e; done) | skip
    simp only [T.dat, Option.map_eq_some_iff] at e
    obtain ⟨ds, h1, rfl⟩ := e
    obtain ⟨ws, h2, h3⟩ := h
    exact .lst (SqL.of h2) ((h3.mono hide_le).dp h1)
def fEqD (neg : Bool) : List T → Option Opd
  | [a, b] => a.dat.bind fun d => b.dat.bind fun e => if SeqAt.shaped d = true ∧ SeqAt.shaped e = true then some (.val (.bl (if neg then !PyData.eqv d e else PyData.eqv d e))) else none
  | _ => none
theorem b_eqD : B2 K A (rEqD K) (fEqD false) := fun H O vs ts o d0 tp e Q q => by
  match ts, e with
  | [a, b], e =>
    simp only [fEqD, Option.bind_eq_some_iff] at e
    obtain ⟨d, h1, e', h2, h3⟩ := e
    split at h3
    · rename_i hs
      cases h3
      match vs, tp with
      | [_, _], .cons x (.cons y .nil) => exact ⟨d, e', x.dp h1, y.dp h2, hs.1, hs.2, q _ H (Same.refl _) (show Rp _ _ _ _ _ from .bl _)⟩
    · cases h3
theorem b_neD : B2 K A (rNeD K) (fEqD true) := fun H O vs ts o d0 tp e Q q => by
  match ts, e with
  | [a, b], e =>
    simp only [fEqD, Option.bind_eq_some_iff] at e
    obtain ⟨d, h1, e', h2, h3⟩ := e
    split at h3
    · rename_i hs
      cases h3
      match vs, tp with
      | [_, _], .cons x (.cons y .nil) => exact ⟨d, e', x.dp h1, y.dp h2, hs.1, hs.2, q _ H (Same.refl _) (show Rp _ _ _ _ _ from .bl _)⟩
    · cases h3
def fRepr : List T → Option Opd
  | [a] => (match a with | .lst _ => a.dat | .tup _ => a.dat | _ => none).bind fun d => if d.showable = true ∧ d.hasDict = false ∧ d.depth ≤ 63 ∧ d.shown.length ≤ sizeLine then some (.val (.str d.shown)) else none
  | _ => none
theorem b_repr : Bv K A (QG.rRepr K) fRepr := fun H O vs ts o d0 tp e Q q => by
  match ts, e with
  | [a], e =>
    simp only [fRepr, Option.bind_eq_some_iff] at e
    obtain ⟨d, h1, h3⟩ := e
    split at h3
    · rename_i hs
      cases h3
      match vs, tp with
      | [v], .cons x .nil =>
        obtain ⟨p, rfl, hd⟩ : ∃ p, v = .ref p ∧ Dp K H v d := by
          cases a <;> simp only [reduceCtorEq] at h1
          · obtain ⟨p, _, e1, _⟩ := x.lst; exact ⟨p, e1, x.dp h1⟩
          · obtain ⟨p, _, e1, _⟩ := x.tup; exact ⟨p, e1, x.dp h1⟩
        exact ⟨p, d, rfl, hd, hs.1, hs.2.1, hs.2.2.1, hs.2.2.2, q _ H (Same.refl _) (show Rp _ _ _ _ _ from .str _)⟩
    · cases h3
/-! ### slices -/
abbrev OF := Rho → Option (Option Int × Rho)
def OV (K : PySem.W.Frag) (A : Nat → Addr) (to : TO) (f : OF) : Prop := ∀ (G : Fx) (σ : L2.St) (H : Hp) (ρ : Rho) (O : Oset), Rel K A G σ H ρ O → ∀ x ρ', f ρ = some (x, ρ') → ∀ Q : Option Int → Hp → Prop, (∀ H' O', Post K A G σ H ρ O H' ρ' O' → Q x H') → to σ H Q
def oNo : OF := fun ρ => some (none, ρ)
def oSome (e : EF) : OF := fun ρ => do
  let (o, ρ1) ← e ρ
  let t ← o.tree ρ1
  match t with
  | .int i => pure (some i, ρ1)
  | _ => none
theorem ov_no : OV K A tNoPart oNo := fun G σ H ρ O r x ρ' e Q q => by
  cases e; exact q H O (.refl r)
theorem ov_some {te : TE} {e : EF} (he : EV K A te e) : OV K A (tPart te) (oSome e) := fun G σ H ρ O rl b ρ' ee Q q => by
  simp only [oSome, Option.bind_eq_bind, Option.bind_eq_some_iff] at ee
  obtain ⟨⟨o, ρ1⟩, h1, t, h2, h3⟩ := ee
  refine he G σ H ρ O rl o ρ1 h1 _ fun v H1 O0 p0 s0 => ?_
  obtain ⟨O1, p1, s1⟩ := release (vs := [v]) (os := [o]) rl p0 (.cons s0 .nil)
  have tp : Top K A H1 O1 v t := (match s1 with | .cons s1 _ => s1.top p1.rel (by rw [tree_fz]; exact h2))
  split at h3
  · cases h3
    exact ⟨_, tp.int, q H1 O1 p1⟩
  · cases h3
def Sv (K : PySem.W.Frag) (A : Nat → Addr) (r : V → Option Int → Option Int → Hp → VK → Prop) (f : T → Option Int → Option Int → Option Opd) : Prop := ∀ (H : Hp) (O : Oset) (v : V) (t : T) (l h : Option Int) (o : Opd), (∀ p, O p → H p ≠ none) → Top K A H O v t → f t l h = some o → ∀ Q : VK, (∀ v H', Same H H' → NewR K A H O H' v o → Q v H') → r v l h H Q
def eSl (f : T → Option Int → Option Int → Option Opd) (e : EF) (l h : OF) : EF := fun ρ => do
  let (o, ρ1) ← e ρ
  let (x, ρ2) ← l ρ1
  let (y, ρ3) ← h ρ2
  let t ← o.tree ρ3
  let u ← f t x y
  pure (u, ρ3)
theorem ev_sl {r : V → Option Int → Option Int → Hp → VK → Prop} {f : T → Option Int → Option Int → Option Opd} {te : TE} {e : EF} {t1 t2 : TO} {l h : OF} (he : EV K A te e) (hl : OV K A t1 l) (hh : OV K A t2 h) (hs : Sv K A r f) : EV K A (tSl r te t1 t2) (eSl f e l h) := fun G σ H ρ O rl o ρ' ee Q q => by
  simp only [eSl, Option.bind_eq_bind, Option.bind_eq_some_iff] at ee
  obtain ⟨⟨o1, ρ1⟩, h1, ⟨x, ρ2⟩, h2, ⟨y, ρ3⟩, h3, t, h4, u, h5, h6⟩ := ee
  cases h6
  refine he G σ H ρ O rl o1 ρ1 h1 _ fun v H1 O1 p1 s1 => ?_
  refine hl G σ H1 ρ1 O1 p1.rel x ρ2 h2 _ fun H2 O2 p2 => ?_
  refine hh G σ H2 ρ2 O2 p2.rel y ρ3 h3 _ fun H3 O3 p3 => ?_
  have p13 := (p1.trans p2).trans p3
  obtain ⟨O4, p4, s4⟩ := release (vs := [v]) (os := [o1]) rl p13 (.cons ((s1.up p2).up p3) .nil)
  have tp : Top K A H3 O4 v t := (match s4 with | .cons s4 _ => s4.top p4.rel (by rw [tree_fz]; exact h4))
  refine hs H3 O4 v t x y o p4.rel.dom tp h5 _ fun w H4 s5 n5 => ?_
  obtain ⟨O5, p5, r5⟩ := n5.post p4.rel s5
  exact q w H4 O5 (p4.trans p5) (r5.back p4.lv)
def cutT (xs : List T) (lo hi : Option Int) : List T := (xs.drop (HT.sIx xs.length 0 lo)).take (HT.sIx xs.length xs.length hi - HT.sIx xs.length 0 lo)
theorem RpL.cut {vs : List V} {ts : List T} (h : RpL K A H vs ts) (lo hi : Option Int) : RpL K A H (cutV vs lo hi) (cutT ts lo hi) := by
  unfold cutV cutT
  rw [h.len]
  exact (h.drop _).take _
def fSlL : T → Option Int → Option Int → Option Opd
  | .lst xs, lo, hi => some (.own (.lst (cutT xs lo hi)))
  | _, _, _ => none
theorem b_slL : Sv K A (rSlL K) fSlL := fun H O v t l h o d0 tp e Q q => by
  cases t <;> simp only [fSlL, reduceCtorEq] at e
  cases e
  obtain ⟨p, ws, rfl, h2, h3⟩ := tp.lst
  exact ⟨p, ws, rfl, h2, newL (h3.cut l h) q⟩
/-- xs[::-1] -/
def rRevL (K : PySem.W.Frag) : V → Hp → VK → Prop := fun x H1 Q => ∃ a xs, x = .ref a ∧ SqL K H1 a xs ∧ ∀ p, H1 p = none → Q (.ref p) (upd H1 p (.lst xs.reverse))
def fRevL : List T → Option Opd
  | [.lst xs] => some (.own (.lst xs.reverse))
  | _ => none
theorem b_revL : B1 K A (rRevL K) fRevL := fun H O vs ts o d0 tp e Q q => by
  match ts, e with
  | [.lst xs], e =>
    cases e
    match vs, tp with
    | [_], .cons a .nil =>
      obtain ⟨p, ws, rfl, h2, h3⟩ := a.lst
      exact ⟨p, ws, rfl, h2, newL h3.rev q⟩
theorem ev_revL {te : TE} {e : EF} (he : EV K A te e) : EV K A (tRevL K te) (eB fRevL (aC e aN)) := ev_un he b_revL
/-! ### join -/
def strL : List T → Option (List Str)
  | [] => some []
  | .str x :: r => (strL r).bind fun xs => some (x :: xs)
  | _ => none
theorem strL_eq : ∀ {ts : List T} {xs : List Str}, strL ts = some xs → ts = xs.map T.str
  | [], _, e => by cases e; rfl
  | .str x :: r, _, e => by
    simp only [strL, Option.bind_eq_some_iff] at e
    obtain ⟨xs, h1, h2⟩ := e
    cases h2
    simp [strL_eq h1]
  | .non :: _, _, e => by cases e
  | .bl _ :: _, _, e => by cases e
  | .int _ :: _, _, e => by cases e
  | .lst _ :: _, _, e => by cases e
  | .tup _ :: _, _, e => by cases e
  | .dct _ :: _, _, e => by cases e
  | .obj _ _ :: _, _, e => by cases e
  | .cls _ :: _, _, e => by cases e
  | .ty _ :: _, _, e => by cases e
def fJoin (a : Str) (t : T) : Option Opd := t.items.bind fun ts => (strL ts).bind fun ys => if (ys.map (·.length)).sum + ys.length * a.length ≤ 16777216 then some (.val (.str (Txt.join a ys))) else none
/-- 'a'.join(e) -/
def eJoin (a : Str) (e : EF) : EF := fun ρ => do
  let (o, ρ1) ← e ρ
  let t ← o.tree ρ1
  let u ← fJoin a t
  pure (u, ρ1)
theorem ev_strJ {a : Str} {te : TE} {e : EF} (he : EV K A te e) : EV K A (QE.tStrJ K (tC (.str a)) te) (eJoin a e) := fun G σ H ρ O rl o ρ' ee Q q => by
  simp only [eJoin, Option.bind_eq_bind, Option.bind_eq_some_iff] at ee
  obtain ⟨⟨o1, ρ1⟩, h1, t, h2, u, h3, h4⟩ := ee
  cases h4
  refine ⟨⟨a, rfl⟩, he G σ H ρ O rl o1 ρ1 h1 _ fun v H1 O0 p0 s0 => ?_⟩
  obtain ⟨O1, p1, s1⟩ := release (vs := [v]) (os := [o1]) rl p0 (.cons s0 .nil)
  have tp : Top K A H1 O1 v t := (match s1 with | .cons s1 _ => s1.top p1.rel (by rw [tree_fz]; exact h2))
  simp only [fJoin, Option.bind_eq_some_iff] at h3
  obtain ⟨ts, h5, ys, h6, h7⟩ := h3
  split at h7
  · rename_i hz
    cases h7
    have e6 := strL_eq h6
    subst e6
    cases t <;> simp only [T.items, Option.some.injEq, reduceCtorEq] at h5 <;> subst h5
    · obtain ⟨p, ws, rfl, hq, hr⟩ := tp.lst
      have := hr.strs
      subst this
      exact ⟨a, p, ys, rfl, rfl, .inl hq, hz, q _ H1 O1 p1 (show Rp _ _ _ _ _ from .str _)⟩
    · obtain ⟨p, ws, rfl, hq, hr⟩ := tp.tup
      have := hr.strs
      subst this
      exact ⟨a, p, ys, rfl, rfl, .inr hq, hz, q _ H1 O1 p1 (show Rp _ _ _ _ _ from .str _)⟩
  · cases h7
end
end QT

set_option Elab.async false
set_option linter.all false
set_option maxRecDepth 100000
set_option maxHeartbeats 4000000
namespace QT
open PySem PySem.Spec PyProof.Rows L2 QB
section
variable {K : PySem.W.Frag} {A : Nat → Addr} {G : Fx} {σ : L2.St} {ρ ρ' : Rho} {H H' : Hp} {O : Oset} {p : Addr} {t t' : T} {v : V}
/-! ### isinstance -/
def T.tyN : T → Option String
  | .non => some "NoneType"
  | .bl _ => some "bool"
  | .int _ => some "int"
  | .str _ => some "str"
  | .lst _ => some "list"
  | .tup _ => some "tuple"
  | .dct _ => some "dict"
  | _ => none
theorem Top.tyX {n : String} (h : Top K A H O v t) (e : t.tyN = some n) : TyX K H v (.type n) := by
  cases t <;> simp only [T.tyN, Option.some.injEq, reduceCtorEq] at e <;> subst e
  · rw [h.non]; exact .base .non
  · rw [h.bl]; exact .base (.bl _)
  · rw [h.int]; exact .base (.int _)
  · rw [h.str]; exact .base (.str _)
  · obtain ⟨p, ws, rfl, (h | ⟨o, h⟩) | ⟨o, its, n, h, c, _⟩, _⟩ := h.lst
    · exact .base (.lst h)
    · exact .base (.frz h)
    · exact .kList h c
  · obtain ⟨p, ws, rfl, (h | ⟨o, h⟩) | ⟨o, its, n, h, c, _⟩, _⟩ := h.tup
    · exact .base (.tup h)
    · exact .fTuple h
    · exact .kTuple h c
  · obtain ⟨p, ws, rfl, h | ⟨o, h⟩, _⟩ := h.dct
    · exact .base (.dK h)
    · exact .fDict h
/-- what is known of the own classes: sub c d: c is d or below it; for each built-in type no -/
structure Kits (K : PySem.W.Frag) (A : Nat → Addr) (sub : Nat → Nat → Bool) : Prop where
  ic : ∀ c, C8.InsC K (A c)
  kit : ∀ c d, PySem.W.kitOne K (.ref (A c)) (.ref (A d)) = some (sub c d)
def fIsi (sub : Nat → Nat → Bool) : List T → Option Opd
  | [.obj c _, .cls d] => some (.val (.bl (sub c d)))
  | [a, .ty n] => a.tyN.bind fun m => (kitB m n).bind fun b => some (.val (.bl b))
  | _ => none
theorem top_cls {d : Nat} (h : Top K A H O v (.cls d)) : v = .ref (A d) := by
  rcases h with h | ⟨p, rfl, h⟩
  · cases h; rfl
  · exact h.elim
theorem top_ty {n : String} (h : Top K A H O v (.ty n)) : v = .ty n := by
  rcases h with h | ⟨p, rfl, h⟩
  · cases h; rfl
  · exact h.elim
theorem b_isi {sub : Nat → Nat → Bool} (k : Kits K A sub) : Bv K A (rIsi K) (fIsi sub) := fun H O vs ts o d0 tp e Q q => by
  match ts, e with
  | [.obj c fs, .cls d], e =>
    cases e
    match vs, tp with
    | [_, _], .cons a (.cons b .nil) =>
      obtain ⟨p, dx, ws, rfl, h1, _⟩ := a.obj
      rw [top_cls b]
      have ic := k.ic c
      exact ⟨_, _, _, _, sub c d, rfl, .own _, .base (.ins h1 ic.cl ic.ha ic.hn ic.htk ic.hm), k.kit c d, q _ H (Same.refl _) (show Rp _ _ _ _ _ from .bl _)⟩
  | [a, .ty n], e =>
    have e' : (a.tyN.bind fun m => (kitB m n).bind fun b => some (Opd.val (.bl b))) = some o := by cases a <;> exact e
    simp only [Option.bind_eq_some_iff] at e'
    obtain ⟨m, h1, b, h2, h3⟩ := e'
    cases h3
    match vs, tp with
    | [_, _], .cons x (.cons y .nil) =>
      rw [top_ty y]
      exact ⟨_, _, _, _, b, rfl, .ty n, x.tyX h1, kit_ty h2, q _ H (Same.refl _) (show Rp _ _ _ _ _ from .bl _)⟩
theorem ev_cls {c : Nat} : EV K A (tC (.ref (A c))) (eC (.cls c)) := ev_c fun _ => .cls c
theorem ev_ty {n : String} : EV K A (tC (.ty n)) (eC (.ty n)) := ev_c fun _ => .ty n
/-! ### f-strings -/
def fFmt : List T → Option Opd
  | [.str y] => if y.length ≤ sizeLine then some (.val (.str y)) else none
  | [.int i] => if i.natAbs.log2 < 1920 then some (.val (.str (toString i))) else none
  | _ => none
def rFmt : V → Hp → VK → Prop := fun x H1 Q => (∃ y : Str, x = .str y ∧ y.length ≤ sizeLine ∧ Q (.str y) H1) ∨ ∃ i : Int, x = .int i ∧ i.natAbs.log2 < 1920 ∧ Q (.str (toString i)) H1
theorem b_fmt : B1 K A rFmt fFmt := fun H O vs ts o d0 tp e Q q => by
  match ts, e with
  | [.str y], e =>
    simp only [fFmt] at e
    split at e
    · rename_i hl
      cases e
      match vs, tp with
      | [_], .cons a .nil => rw [a.str]; exact .inl ⟨y, rfl, hl, q _ H (Same.refl _) (show Rp _ _ _ _ _ from .str _)⟩
    · cases e
  | [.int y], e =>
    simp only [fFmt] at e
    split at e
    · rename_i hl
      cases e
      match vs, tp with
      | [_], .cons a .nil => rw [a.int]; exact .inr ⟨y, rfl, hl, q _ H (Same.refl _) (show Rp _ _ _ _ _ from .str _)⟩
    · cases e
def eFmt (e : EF) : EF := eB fFmt (aC e aN)
theorem ev_fmt {te : TE} {e : EF} (he : EV K A te e) : EV K A (tFmt te) (eFmt e) := ev_un he b_fmt
def fStrI : List T → Option Opd
  | [.int i] => if i.natAbs.log2 < 1920 then some (.val (.str (toString i))) else none
  | _ => none
theorem b_strI : Bv K A QC.rStrI fStrI := fun H O vs ts o d0 tp e Q q => by
  match ts, e with
  | [.int y], e =>
    simp only [fStrI] at e
    split at e
    · rename_i hl
      cases e
      match vs, tp with
      | [_], .cons a .nil => rw [a.int]; exact ⟨y, rfl, hl, q _ H (Same.refl _) (show Rp _ _ _ _ _ from .str _)⟩
    · cases e
/-- the parts of an f-string -/
inductive JV (K : PySem.W.Frag) (A : Nat → Addr) : List TE → List EF → Prop
  | nil : JV K A [] []
  | cons {t : TE} {e : EF} {ts : List TE} {es : List EF} : EV K A t e → JV K A ts es → JV K A (t :: ts) (e :: es)
def joinF : List EF → Str → Rho → Option (Str × Rho)
  | [], acc, ρ => some (acc, ρ)
  | e :: es, acc, ρ => (e ρ).bind fun (o, ρ1) => (o.tree ρ1).bind fun t => match t with
    | .str y => if (acc ++ y).length ≤ sizeLine then joinF es (acc ++ y) ρ1 else none
    | _ => none
def eJs (es : List EF) : EF := fun ρ => (joinF es Str.empty ρ).bind fun (z, ρ1) => some (.val (.str z), ρ1)
theorem jv_run : ∀ {ts : List TE} {es : List EF}, JV K A ts es → ∀ {acc z : Str} {G : Fx} {σ : L2.St} {H : Hp} {ρ ρ' : Rho} {O : Oset}, Rel K A G σ H ρ O → joinF es acc ρ = some (z, ρ') → ∀ Q : Str → Hp → Prop, (∀ H' O', Post K A G σ H ρ O H' ρ' O' → Q z H') → tJs ts acc σ H Q
  | _, _, .nil, acc, z, G, σ, H, ρ, ρ', O, r, e, Q, q => by cases e; exact q H O (.refl r)
  | _, _, .cons he hs, acc, z, G, σ, H, ρ, ρ', O, r, e, Q, q => by
    simp only [joinF, Option.bind_eq_some_iff] at e
    obtain ⟨⟨o, ρ1⟩, h1, t, h2, h3⟩ := e
    refine he G σ H ρ O r o ρ1 h1 _ fun v H1 O0 p0 s0 => ?_
    obtain ⟨O1, p1, s1⟩ := release (vs := [v]) (os := [o]) r p0 (.cons s0 .nil)
    have tp : Top K A H1 O1 v t := (match s1 with | .cons s1 _ => s1.top p1.rel (by rw [tree_fz]; exact h2))
    split at h3
    · split at h3
      · rename_i y hl
        exact ⟨y, tp.str, hl, jv_run hs p1.rel h3 Q fun H2 O2 p2 => q H2 O2 (p1.trans p2)⟩
      · cases h3
    · cases h3
theorem ev_js {ts : List TE} {es : List EF} (h : JV K A ts es) : EV K A (QC.tJoin ts) (eJs es) := fun G σ H ρ O r o ρ' e Q q => by
  simp only [eJs, Option.bind_eq_some_iff] at e
  obtain ⟨⟨z, ρ1⟩, h1, h2⟩ := e
  cases h2
  exact jv_run h r h1 _ fun H' O' p' => q _ H' O' p' (show Rp _ _ _ _ _ from .str _)
/-! ### dicts -/
def eDNew : EF := fun ρ => some (.own (.dct []), ρ)
theorem ev_dnew : EV K A tDNewK eDNew := fun G σ H ρ O r o ρ' e Q q => by
  cases e
  intro p hp
  obtain ⟨O3, p3, r3⟩ := NewR.post (x := .own (.dct [])) r (same_new (o := .dK []) hp) ⟨p, rfl, hp, [], upd_same, .nil⟩
  exact q _ _ O3 p3 r3
def fDcp : List T → Option Opd
  | [.dct ks] => some (.own (.dct ks))
  | _ => none
theorem b_dcp : Bv K A QE.rDcp fDcp := fun H O vs ts o d0 tp e Q q => by
  match ts, e with
  | [.dct ks], e =>
    cases e
    match vs, tp with
    | [_], .cons a .nil =>
      obtain ⟨p, ws, rfl, h2, h3⟩ := a.dct
      exact ⟨p, ws, rfl, h2, fun l hl => q _ _ (same_new hl) ⟨l, rfl, hl, ws, upd_same, h3.mono (Le.of (hide_new hl))⟩⟩
def T.key : T → Option Key
  | .int i => some (.inl i)
  | .str x => some (.inr x)
  | _ => none
theorem Top.key {k : Key} (h : Top K A H O v t) (e : t.key = some k) : v = kV k := by
  cases t <;> simp only [T.key, Option.some.injEq, reduceCtorEq] at e <;> subst e
  · exact h.int
  · exact h.str
theorem Rp.key {k : Key} (h : Rp K A H v t) (e : t.key = some k) : v = kV k := by
  cases t <;> simp only [T.key, Option.some.injEq, reduceCtorEq] at e <;> subst e <;> cases h <;> rfl
def valT (kvs : List (Key × T)) (k : Key) : Option T := (kvs.find? fun kv => decide (kv.1 = k)).map (·.2)
def putKT (kvs : List (Key × T)) (k : Key) (v : T) : List (Key × T) :=
  if (kvs.any fun kv => decide (kv.1 = k)) = true then kvs.map (fun kv => if kv.1 = k then (kv.1, v) else kv) else kvs ++ [(k, v)]
theorem RpK.val {k : Key} : ∀ {vs : List (Key × V)} {ts : List (Key × T)}, RpK K A H vs ts → (∀ t, valT ts k = some t → ∃ v, valV vs k = some v ∧ Rp K A H v t) ∧ (valT ts k = none → valV vs k = none)
  | _, _, .nil => ⟨fun t e => (by cases e), fun _ => rfl⟩
  | _, _, .cons (k := k') a b => by
    obtain ⟨h1, h2⟩ := RpK.val (k := k) b
    unfold valT valV at h1 h2 ⊢
    simp only [List.find?_cons]
    by_cases e : k' = k
    · simp only [e, decide_true, Option.map_some, Option.some.injEq]
      exact ⟨fun t et => ⟨_, rfl, et ▸ a⟩, fun z => by simp at z⟩
    · simp only [e, decide_false]
      exact ⟨h1, h2⟩
theorem RpK.any {k : Key} : ∀ {vs : List (Key × V)} {ts : List (Key × T)}, RpK K A H vs ts → (vs.any fun kv => decide (kv.1 = k)) = ts.any fun kv => decide (kv.1 = k)
  | _, _, .nil => rfl
  | _, _, .cons a b => by simp only [List.any_cons, RpK.any b]
theorem RpK.put {k : Key} (hv : Rp K A H v t) {vs : List (Key × V)} {ts : List (Key × T)} (h : RpK K A H vs ts) : RpK K A H (putK vs k v) (putKT ts k t) := by
  unfold putK putKT
  rw [h.any]
  split
  · rename_i hany
    clear hany
    induction vs generalizing ts with
    | nil => cases h; exact .nil
    | cons x r ih =>
      cases h with
      | cons a b =>
        simp only [List.map_cons]
        split
        · exact .cons hv (ih b)
        · exact .cons a (ih b)
  · have app : ∀ {vs : List (Key × V)} {ts : List (Key × T)}, RpK K A H vs ts → RpK K A H (vs ++ [(k, v)]) (ts ++ [(k, t)]) := by
      intro vs
      induction vs with
      | nil => intro ts h; cases h; exact .cons hv .nil
      | cons x r ih => intro ts h; cases h with | cons a b => exact .cons a (ih b)
    exact app h
theorem RpK.len : ∀ {vs : List (Key × V)} {ts : List (Key × T)}, RpK K A H vs ts → vs.length = ts.length
  | _, _, .nil => rfl
  | _, _, .cons _ b => by simp [RpK.len b]
/-- d[k] -/
def rDGet : R2 := fun x y H2 Q => ∃ a v, x = .ref a ∧ DGet H2 a y (some v) ∧ Q v H2
def fDGet : List T → Option Opd
  | [.dct ks, k] => k.key.bind fun k => (valT ks k).map .val
  | _ => none
theorem b_dget : B2 K A rDGet fDGet := fun H O vs ts o d0 tp e Q q => by
  match ts, e with
  | [.dct ks, k], e =>
    simp only [fDGet, Option.bind_eq_some_iff, Option.map_eq_some_iff] at e
    obtain ⟨k', h1, u, h2, rfl⟩ := e
    match vs, tp with
    | [_, _], .cons a (.cons b .nil) =>
      obtain ⟨p, ws, rfl, h3, h4⟩ := a.dct
      rw [b.key h1]
      obtain ⟨w, h5, h6⟩ := (h4.val (k := k')).1 u h2
      exact ⟨p, w, rfl, .inl ⟨ws, k', h3, rfl, h5.symm⟩, q _ H (Same.refl _) h6⟩
theorem ev_dget {td ty : TE} {d y : EF} (hd : EV K A td d) (hy : EV K A ty y) : EV K A (tDGet td ty) (eB fDGet (aC d (aC y aN))) := ev_op (r := rDGet) hd hy b_dget
/-- k in d -/
def rDIn (neg : Bool) : R2 := fun y x H2 Q => ∃ a o, x = .ref a ∧ DGet H2 a y o ∧ Q (.bl (if neg then !o.isSome else o.isSome)) H2
def fDIn (neg : Bool) : List T → Option Opd
  | [k, .dct ks] => k.key.bind fun k => some (.val (.bl (if neg then !(valT ks k).isSome else (valT ks k).isSome)))
  | _ => none
theorem RpK.isS {k : Key} {vs : List (Key × V)} {ts : List (Key × T)} (h : RpK K A H vs ts) : (valV vs k).isSome = (valT ts k).isSome := by
  cases e : valT ts k with
  | none => rw [((h.val (k := k)).2 e)]; rfl
  | some u => obtain ⟨w, h1, _⟩ := (h.val (k := k)).1 u e; rw [h1]; rfl
theorem b_din {neg : Bool} : B2 K A (rDIn neg) (fDIn neg) := fun H O vs ts o d0 tp e Q q => by
  match ts, e with
  | [k, .dct ks], e =>
    simp only [fDIn, Option.bind_eq_some_iff] at e
    obtain ⟨k', h1, h2⟩ := e
    cases h2
    match vs, tp with
    | [_, _], .cons b (.cons a .nil) =>
      obtain ⟨p, ws, rfl, h3, h4⟩ := a.dct
      rw [b.key h1]
      refine ⟨p, valV ws k', rfl, .inl ⟨ws, k', h3, rfl, rfl⟩, q _ H (Same.refl _) ?_⟩
      rw [h4.isS]
      exact (show Rp _ _ _ _ _ from .bl _)
theorem ev_din {td ty : TE} {d y : EF} (hy : EV K A ty y) (hd : EV K A td d) : EV K A (tDIn ty td) (eB (fDIn false) (aC y (aC d aN))) := ev_op (r := rDIn false) hy hd b_din
theorem ev_dnin {td ty : TE} {d y : EF} (hy : EV K A ty y) (hd : EV K A td d) : EV K A (tDNotIn ty td) (eB (fDIn true) (aC y (aC d aN))) := ev_op (r := rDIn true) hy hd b_din
/-- x[k] = e, x a slot that holds a dict -/
def sDPutF (i : Nat) (y e : EF) : SF := fun ρ => match opened e ρ with
  | some (t, ρ1) => (match y ρ1 with
    | some (o, ρ2) => (match (o.tree ρ2).bind T.key, ρ2[i]? with
      | some k, some s => (match s.held with
        | some (.dct ks) => if ks.length < sizeLine then .nx (ρ2.set i (s.with (.dct (putKT ks k t)))) else .fail
        | _ => .fail)
      | _, _ => .fail)
    | none => .fail)
  | none => .fail
/-! ### enumerate -/
def enumT (ts : List T) : List T := (List.range ts.length).map fun i => .tup [.int (i : Nat), ts.getD i .non]
def iEn (f : EF) : IF := fun ρ => do
  let (t, ρ1) ← opened f ρ
  match t with
  | .lst ts => pure (enumT ts, ρ1)
  | _ => none
theorem iv_enum {te : TE} {f : EF} (he : EV K A te f) : IV K A (iEnum K (tCons te tNil)) (iEn f) := fun G σ H ρ O r ts ρ' e R q => by
  simp only [iEn, Option.bind_eq_bind, Option.bind_eq_some_iff] at e
  obtain ⟨⟨t, ρ1⟩, h1, h2⟩ := e
  split at h2
  · rename_i us h3
    dsimp only at h3
    subst h3
    cases h2
    refine opened_ok he r h1 _ fun v H1 O1 p1 x1 => ?_
    cases x1 with
    | lst h r1 =>
      rename_i a vs
      have hl : (enumT us).length = us.length := by simp [enumT]
      refine ⟨a, vs, rfl, hide_le.sqL h, q _ H1 O1 (fun H O => SqL K (hide H O) a vs ∧ RpL K A (hide H O) vs us) p1 ⟨fun H O H' O' h l => ⟨(Le.of l).sqL h.1, h.2.mono (Le.of l)⟩, fun H O i t h d hi => ?_, fun H O h => ⟨vs, hide_le.sqL h.1, by rw [h.2.len, hl]; exact Nat.le_refl _⟩⟩ ⟨h, r1⟩⟩
      have hi' : i < us.length := by have := (List.getElem?_eq_some_iff.mp hi).1; rwa [hl] at this
      obtain ⟨w, hw, rw⟩ := h.2.get (t := us[i]) (List.getElem?_eq_getElem hi')
      have et : t = .tup [.int (i : Nat), us[i]] := by
        simp [enumT, hi'] at hi
        exact hi.symm
      subst et
      refine ⟨⟨vs, w, hide_le.sqL h.1, hw⟩, fun x H' y => ?_⟩
      obtain ⟨T', x', rfl, hT, rfl, hx⟩ := y
      have := hx vs (hide_le.sqL h.1)
      rw [hw] at this; cases this
      refine ⟨same_new hT, .tup (.inl (.inl (hide_of (fun e => d T' e hT) upd_same))) (.cons (.int _) (.cons (rw.mono (Le.of (hide_newv hT))) .nil))⟩
  · cases h2
/-! ### o.m() by the object's class -/
def eDyn (m : Str) (F : Nat → FF) (e : EF) : EF := fun ρ => do
  let (t, ρ1) ← opened e ρ
  match t with
  | .obj c fs => match fs.lookup m with
    | none => (F c [.val t]).bind fun (o, _) => some (o, ρ1)
    | some _ => none
  | _ => none
theorem ev_dyn {m : Str} {F : Nat → FF} {Pc : Nat → Prop} {ta : TE} {e : EF} (he : EV K A ta e) (hF : ∀ c as r, F c as = some r → Pc c) : EV K A (QC.tDyn0 (ι := { c : Nat // Pc c }) (fun c => A c.1) m (fun c => spF K A (F c.1)) ta) (eDyn m F e) := fun G σ H ρ O r o ρ' ee Q q => by
  simp only [eDyn, Option.bind_eq_bind, Option.bind_eq_some_iff] at ee
  obtain ⟨⟨t, ρ1⟩, h1, h2⟩ := ee
  dsimp only at h2
  split at h2
  · rename_i c fs
    split at h2
    · rename_i hl
      simp only [Option.bind_eq_some_iff] at h2
      obtain ⟨⟨o', as'⟩, h3, h4⟩ := h2
      cases h4
      refine opened_ok he r h1 _ fun v H1 O1 p1 x1 => ?_
      have x1' := x1
      cases x1 with
      | obj h2 h3' =>
        rename_i p dx ws
        refine ⟨⟨c, hF _ _ _ h3⟩, p, dx, ws, rfl, (hide_some.mp h2).2, h3'.none hl, [Sl.val (.obj c fs)], O1, _, _, args_vals (ts := [.obj c fs]) (.cons x1' .nil) p1.rel.dom, h3, fun w H' Ox bk => ?_⟩
        have kp : ∀ p, O1 p → H' p = H1 p := fun p hp => bk.kp p hp (ioA_vals (ts := [.obj c fs]))
        have p3 : Post K A G σ H1 _ O1 H' _ Ox := ⟨p1.rel.called bk.up bk.sub bk.dom bk.le kp bk.lv, bk.le, bk.sub, fun p hp _ => ⟨bk.up p hp, kp p hp⟩, fun _ h => h, bk.lv⟩
        exact q w H' Ox (p1.trans p3) ((bk.res.rl p1.rel fun _ h => h).back p1.lv)
    · cases h2
  · cases h2
/-! ### x += e, ints -/
def sAug (i : Nat) (f : Int → Int → Int) (e : EF) : SF := fun ρ => match ρ[i]? with
  | some (.val (.int x)) => (match (e ρ).bind fun (o, ρ1) => (o.tree ρ1).map fun t => (t, ρ1) with
    | some (.int y, ρ1) => .nx (ρ1.set i (.val (.int (f x y))))
    | _ => .fail)
  | _ => .fail
theorem sv_aug {i : Nat} {f : Int → Int → Int} {te : TE} {e : EF} (he : EV K A te e) : SV K A (tAug i te (ipI f)) (sAug i f e) := fun G σ H ρ O D r h => by
  unfold sAug at h
  split at h
  · rename_i x hx
    split at h
    · rename_i y ρ1 hy
      simp only [Option.bind_eq_some_iff, Option.map_eq_some_iff] at hy
      obtain ⟨⟨o, ρ2⟩, h1, t, h2, h3⟩ := hy
      simp only [Prod.mk.injEq] at h3
      obtain ⟨rfl, rfl⟩ := h3
      obtain ⟨v, hv, rv⟩ := r.val i _ hx
      cases rv
      refine ⟨_, hv, he G σ H ρ O r o _ h1 _ fun v H1 O0 p0 s0 => ?_⟩
      obtain ⟨O1, p1, s1⟩ := release (vs := [v]) (os := [o]) r p0 (.cons s0 .nil)
      have tp : Top K A H1 O1 v (.int y) := (match s1 with | .cons s1 _ => s1.top p1.rel (by rw [tree_fz]; exact h2))
      rw [tp.int]
      exact ⟨x, y, rfl, rfl, h _ H1 O1 ⟨p1.rel.put (.int _), p1.le, p1.lv⟩⟩
    · exact h.elim
  · exact h.elim
/-! ### short forms -/
def e1 (f : List T → Option Opd) (a : EF) : EF := eB f (aC a aN)
def e2 (f : List T → Option Opd) (a b : EF) : EF := eB f (aC a (aC b aN))
def fAdd : List T → Option Opd := fI0 fun i j => .int (i + j)
def fSub : List T → Option Opd := fI0 fun i j => .int (i - j)
def fMul : List T → Option Opd := fI CMul fun i j => .int (i * j)
def fMod : List T → Option Opd := fI (fun _ j => 0 < j) fun i j => .int (i % j)
def fFdiv : List T → Option Opd := fI CDivW fun i j => .int (i / j)
def fPow : List T → Option Opd := fI CPow fun i j => .int (i ^ j.toNat)
def fLt : List T → Option Opd := fI0 fun i j => .bl (decide (i < j))
def fLe : List T → Option Opd := fI0 fun i j => .bl (decide (i ≤ j))
def fGt : List T → Option Opd := fI0 fun i j => .bl (decide (j < i))
def fGe : List T → Option Opd := fI0 fun i j => .bl (decide (j ≤ i))
def fNeg : List T → Option Opd := fU fun i => .int (-i)
end
end QT

set_option Elab.async false
set_option linter.all false
set_option maxRecDepth 100000
set_option maxHeartbeats 4000000
namespace QT
open PySem PySem.Spec PyProof.Rows L2 QB
section
variable {K : PySem.W.Frag} {A : Nat → Addr} {G : Fx} {σ : L2.St} {ρ ρ' : Rho} {H H' : Hp} {O : Oset} {p : Addr} {t t' : T} {v : V} {i : Nat}
/-! ### x[j] = e, x a slot -/
def readI (e : EF) : Rho → Option (T × Rho) := fun ρ => (e ρ).bind fun (o, ρ1) => (o.tree ρ1).map fun t => (t, ρ1)
theorem readI_ok {te : TE} {e : EF} (he : EV K A te e) (r : Rel K A G σ H ρ O) (h : readI e ρ = some (t, ρ')) (Q : VK) (q : ∀ v H' O', Post K A G σ H ρ O H' ρ' O' → Top K A H' O' v t → Q v H') : te σ H Q := by
  simp only [readI, Option.bind_eq_some_iff, Option.map_eq_some_iff] at h
  obtain ⟨⟨o, ρ2⟩, h1, u, h2, h3⟩ := h
  simp only [Prod.mk.injEq] at h3
  obtain ⟨rfl, rfl⟩ := h3
  refine he G σ H ρ O r o _ h1 _ fun v H1 O0 p0 s0 => ?_
  obtain ⟨O1, p1, s1⟩ := release (vs := [v]) (os := [o]) r p0 (.cons s0 .nil)
  exact q v H1 O1 p1 (match s1 with | .cons s1 _ => s1.top p1.rel (by rw [tree_fz]; exact h2))
def sSetL (i : Nat) (j e : EF) : SF := fun ρ => match opened e ρ with
  | some (t, ρ1) => (match ρ1[i]?.bind Sl.held, readI j ρ1 with
    | some _, some (.int k, ρ2) => (match ρ2[i]? with
      | some s => (match s.held with
        | some (.lst xs) => (match ixN xs.length k with
          | some n => .nx (ρ2.set i (s.with (.lst (xs.set n t))))
          | none => .fail)
        | _ => .fail)
      | none => .fail)
    | _, _ => .fail)
  | none => .fail
theorem slot_some (r : Rel K A G σ H ρ O) {s : Sl} (hs : ρ[i]? = some s) (ht : s.held = some t) : ∃ p, σ[i]? = some (some (V.ref p)) := by
  obtain ⟨_, p, h, _⟩ := held_at r hs ht
  exact ⟨p, h⟩
theorem sv_setL {te tj : TE} {e j : EF} (he : EV K A te e) (hj : EV K A tj j) : SV K A (tAsg te (gSub (tVar i) tj rSetL)) (sSetL i j e) := fun G σ H ρ O D r h => by
  unfold sSetL at h
  split at h
  · rename_i t ρ1 h1
    split at h
    · rename_i t0 k ρ2 h0 h2
      split at h
      · rename_i s h3
        split at h
        · rename_i xs h4
          split at h
          · rename_i n h5
            refine opened_ok he r h1 _ fun v H1 O1 p1 rv => ?_
            -- the slot's value does not change
            have key : ∀ w, σ[i]? = some (some w) → gSub (tVar i) tj rSetL v σ H1 D.nx := fun w hw => by
              refine ⟨w, hw, readI_ok hj p1.rel h2 _ fun u H2 O2 p2 tp => ?_⟩
              obtain ⟨hol, p, hp, hO, hx⟩ := held_at p2.rel h3 h4
              rw [hw] at hp; cases hp
              obtain ⟨ws, hw1, hw2⟩ := hx
              rw [tp.int]
              refine ⟨p, ws, k, n, rfl, rfl, hw1, by rw [hw2.len]; exact h5, ?_⟩
              have rm := p2.rel.mut (o := .lst (ws.set n v)) (t' := .lst (xs.set n t)) h3 (held_or h4) hw ⟨_, upd_same, hw2.set (rv.mono (Le.of p2.le)) n⟩
              exact h σ _ O2 ⟨rm, by rw [hide_upd hO]; exact (p1.trans p2).le, lv_upd (p1.trans p2).lv⟩
            simp only [Option.bind_eq_some_iff] at h0
            obtain ⟨s0, h01, h02⟩ := h0
            obtain ⟨p0, hp0⟩ := slot_some p1.rel h01 h02
            exact key _ hp0
          · exact h.elim
        · exact h.elim
      · exact h.elim
    · exact h.elim
  · exact h.elim
end
end QT

set_option Elab.async false
set_option linter.all false
set_option maxRecDepth 100000
set_option maxHeartbeats 4000000
namespace QT
open PySem PySem.Spec PyProof.Rows L2 QB
section
variable {K : PySem.W.Frag} {A : Nat → Addr} {G : Fx} {σ : L2.St} {ρ ρ' : Rho} {H H' : Hp} {O : Oset} {p : Addr} {t t' : T} {v : V} {i : Nat}
/-! ### calls to which slots are lent -/
/-- an argument: a tree, or a slot that is lent -/
abbrev Ag := T ⊕ Nat
def mkA : List Bool → List Opd → Rho → Option (List Ag × Rho)
  | [], [], ρ => some ([], ρ)
  | b :: fl, o :: os, ρ => match b, o with
    | true, .slot i => (match ρ[i]?.bind Sl.held with
      | some _ => (mkA fl os ρ).bind fun (as, ρ2) => some (.inr i :: as, ρ2)
      | none => (share o ρ).bind fun (t, ρ1) => (mkA fl os ρ1).bind fun (as, ρ2) => some (.inl t :: as, ρ2))
    | _, _ => (share o ρ).bind fun (t, ρ1) => (mkA fl os ρ1).bind fun (as, ρ2) => some (.inl t :: as, ρ2)
  | _, _, _ => none
def fillA (ρ : Rho) : List Ag → Option (List Sl)
  | [] => some []
  | .inl t :: r => (fillA ρ r).bind fun as => some (.val t :: as)
  | .inr i :: r => (ρ[i]?.bind Sl.held).bind fun t => (fillA ρ r).bind fun as => some (.io t :: as)
def lentA : List Ag → List Nat
  | [] => []
  | .inl _ :: r => lentA r
  | .inr i :: r => i :: lentA r
def backA : List Ag → List Sl → Rho → Option Rho
  | [], _, ρ => some ρ
  | .inl _ :: r, _ :: as, ρ => backA r as ρ
  | .inr i :: r, .io t :: as, ρ => (ρ[i]?).bind fun s => backA r as (ρ.set i (s.with t))
  | _, _, _ => none
def eCallL (F : FF) (fl : List Bool) (a : AF) : EF := fun ρ => do
  let (os, ρ1) ← a ρ
  let (gs, ρ2) ← mkA fl os ρ1
  let as ← fillA ρ2 gs
  if (lentA gs).Nodup then
    let (o, as') ← F as
    let ρ3 ← backA gs as' ρ2
    pure (o, ρ3)
  else none
/-- a value and its argument -/
def Ra (K : PySem.W.Frag) (A : Nat → Addr) (σ : L2.St) (H : Hp) (O : Oset) : V → Ag → Prop
  | v, .inl t => Rp K A (hide H O) v t
  | v, .inr i => σ[i]? = some (some v)
theorem mkA_ok : ∀ {fl : List Bool} {vs : List V} {os : List Opd} {gs : List Ag} {ρ ρ' : Rho} {O : Oset}, Rel K A G σ H ρ O → Paired (Rv K A σ H O) vs os → mkA fl os ρ = some (gs, ρ') → ∃ O', Post K A G σ H ρ O H ρ' O' ∧ Paired (Ra K A σ H O') vs gs
  | [], _, [], _, _, _, O, r, .nil, e => by cases e; exact ⟨O, .refl r, .nil⟩
  | [], _, _ :: _, _, _, _, O, r, _, e => by cases e
  | _ :: _, _, [], _, _, _, O, r, _, e => by cases e
  | b :: fl, v :: vs, o :: os, gs, ρ, ρ', O, r, .cons a c, e => by
    have sh : ((share o ρ).bind fun (t, ρ1) => (mkA fl os ρ1).bind fun (as, ρ2) => some ((.inl t : Ag) :: as, ρ2)) = some (gs, ρ') → ∃ O', Post K A G σ H ρ O H ρ' O' ∧ Paired (Ra K A σ H O') (v :: vs) gs := fun e => by
      simp only [Option.bind_eq_some_iff] at e
      obtain ⟨⟨t, ρ1⟩, h1, ⟨as, ρ2⟩, h2, h3⟩ := e
      cases h3
      obtain ⟨O1, p1, x1⟩ := share_ok r a h1
      obtain ⟨O2, p2, x2⟩ := mkA_ok p1.rel (paired_map (fun _ _ z => Rv.up z p1.le) c) h2
      exact ⟨O2, p1.trans p2, .cons (show Rp K A _ _ _ from x1.mono (Le.of p2.le)) x2⟩
    unfold mkA at e
    split at e
    · split at e
      · simp only [Option.bind_eq_some_iff] at e
        obtain ⟨⟨as, ρ2⟩, h2, h3⟩ := e
        cases h3
        obtain ⟨O2, p2, x2⟩ := mkA_ok r c h2
        exact ⟨O2, p2, .cons a x2⟩
      · exact sh e
    · exact sh e
theorem fill_get : ∀ {gs : List Ag} {as : List Sl} {vs : List V}, Paired (Ra K A σ H O) vs gs → fillA ρ gs = some as → vs.length = as.length ∧
    (∀ (k : Nat) (t : T), as[k]? = some (Sl.val t) → ∃ v, vs[k]? = some v ∧ Rp K A (hide H O) v t) ∧
    (∀ (k : Nat) (t : T), as[k]? = some (Sl.io t) → ∃ (v : V) (i : Nat), vs[k]? = some v ∧ gs[k]? = some (Sum.inr i) ∧ σ[i]? = some (some v) ∧ ρ[i]?.bind Sl.held = some t) ∧ (∀ (k : Nat) (t : T), as[k]? ≠ some (Sl.own t)) ∧
    (∀ (k i : Nat), gs[k]? = some (Sum.inr i) → ∃ t, as[k]? = some (Sl.io t))
  | [], _, _, .nil, e => by cases e; exact ⟨rfl, by simp, by simp, by simp, by simp⟩
  | .inl u :: gs, _, v :: vs, .cons a b, e => by
    simp only [fillA, Option.bind_eq_some_iff] at e
    obtain ⟨as, h1, h2⟩ := e
    cases h2
    obtain ⟨l, h3, h4, h5, h6⟩ := fill_get b h1
    refine ⟨by simp [l], fun k t e => ?_, fun k t e => ?_, fun k t e => ?_, fun k i e => ?_⟩
    · cases k with
      | zero => cases e; exact ⟨v, rfl, a⟩
      | succ k => exact h3 k t e
    · cases k with
      | zero => cases e
      | succ k => exact h4 k t e
    · cases k with
      | zero => cases e
      | succ k => exact h5 k t e
    · cases k with
      | zero => cases e
      | succ k => exact h6 k i e
  | .inr j :: gs, _, v :: vs, .cons a b, e => by
    simp only [fillA, Option.bind_eq_some_iff] at e
    obtain ⟨t0, ⟨s0, h01, h02⟩, as, h1, h2⟩ := e
    cases h2
    obtain ⟨l, h3, h4, h5, h6⟩ := fill_get b h1
    refine ⟨by simp [l], fun k t e => ?_, fun k t e => ?_, fun k t e => ?_, fun k i e => ?_⟩
    · cases k with
      | zero => cases e
      | succ k => exact h3 k t e
    · cases k with
      | zero => cases e; exact ⟨v, j, rfl, rfl, a, by rw [h01]; exact h02⟩
      | succ k => exact h4 k t e
    · cases k with
      | zero => cases e
      | succ k => exact h5 k t e
    · cases k with
      | zero => cases e; exact ⟨t0, rfl⟩
      | succ k => exact h6 k i e
theorem lent_in : ∀ {gs : List Ag} {i : Nat}, i ∈ lentA gs ↔ ∃ k : Nat, gs[k]? = some (Sum.inr i)
  | [], i => by simp [lentA]
  | .inl u :: gs, i => by
    simp only [lentA, lent_in (gs := gs)]
    constructor
    · rintro ⟨k, h⟩; exact ⟨k + 1, h⟩
    · rintro ⟨k, h⟩
      cases k with
      | zero => cases h
      | succ k => exact ⟨k, h⟩
  | .inr j :: gs, i => by
    simp only [lentA, List.mem_cons, lent_in (gs := gs)]
    constructor
    · rintro (rfl | ⟨k, h⟩)
      · exact ⟨0, rfl⟩
      · exact ⟨k + 1, h⟩
    · rintro ⟨k, h⟩
      cases k with
      | zero => cases h; exact .inl rfl
      | succ k => exact .inr ⟨k, h⟩
theorem lent_nd : ∀ {gs : List Ag} {i k l : Nat}, (lentA gs).Nodup → gs[k]? = some (Sum.inr i) → gs[l]? = some (Sum.inr i) → k = l
  | [], _, _, _, _, h, _ => by simp at h
  | .inl u :: gs, i, k, l, nd, h1, h2 => by
    cases k with
    | zero => cases h1
    | succ k =>
      cases l with
      | zero => cases h2
      | succ l => rw [lent_nd (gs := gs) nd h1 h2]
  | .inr j :: gs, i, k, l, nd, h1, h2 => by
    simp only [lentA, List.nodup_cons] at nd
    cases k with
    | zero =>
      cases h1
      cases l with
      | zero => rfl
      | succ l => exact absurd (lent_in.mpr ⟨l, h2⟩) nd.1
    | succ k =>
      cases l with
      | zero => cases h2; exact absurd (lent_in.mpr ⟨k, h1⟩) nd.1
      | succ l => rw [lent_nd (gs := gs) nd.2 h1 h2]
/-- what stands in the slots behind -/
theorem back_get : ∀ {gs : List Ag} {as : List Sl} {ρ ρ' : Rho}, (lentA gs).Nodup → backA gs as ρ = some ρ' → ρ'.length = ρ.length ∧ (∀ j : Nat, j ∉ lentA gs → ρ'[j]? = ρ[j]?) ∧
    (∀ (k i : Nat), gs[k]? = some (Sum.inr i) → ∃ (t : T) (s : Sl), as[k]? = some (Sl.io t) ∧ ρ[i]? = some s ∧ ρ'[i]? = some (s.with t))
  | [], _, ρ, ρ', _, e => by cases e; exact ⟨rfl, fun _ _ => rfl, by simp⟩
  | .inl u :: gs, [], ρ, ρ', nd, e => by cases e
  | .inl u :: gs, a :: as, ρ, ρ', nd, e => by
    simp only [backA] at e
    obtain ⟨h1, h2, h3⟩ := back_get (gs := gs) nd e
    refine ⟨h1, h2, fun k i h => ?_⟩
    cases k with
    | zero => cases h
    | succ k => exact h3 k i h
  | .inr j :: gs, [], ρ, ρ', nd, e => by cases e
  | .inr j :: gs, .no :: as, ρ, ρ', nd, e => by cases e
  | .inr j :: gs, .val _ :: as, ρ, ρ', nd, e => by cases e
  | .inr j :: gs, .own _ :: as, ρ, ρ', nd, e => by cases e
  | .inr j :: gs, .io t :: as, ρ, ρ', nd, e => by
    simp only [backA, Option.bind_eq_some_iff] at e
    obtain ⟨s, hs, e⟩ := e
    simp only [lentA, List.nodup_cons] at nd
    obtain ⟨h1, h2, h3⟩ := back_get (gs := gs) nd.2 e
    have lt : j < ρ.length := (List.getElem?_eq_some_iff.mp hs).1
    refine ⟨by rw [h1, List.length_set], fun l hl => ?_, fun k i h => ?_⟩
    · simp only [lentA, List.mem_cons, not_or] at hl
      rw [h2 l hl.2, set_ne hl.1]
    · cases k with
      | zero =>
        cases h
        refine ⟨t, s, rfl, hs, ?_⟩
        rw [h2 j nd.1, set_eq lt]
      | succ k =>
        obtain ⟨t', s', x1, x2, x3⟩ := h3 k i h
        have ne : i ≠ j := fun z => nd.1 (z ▸ lent_in.mpr ⟨k, h⟩)
        rw [set_ne ne] at x2
        exact ⟨t', s', x1, x2, x3⟩
theorem ev_callL {F : FF} {fl : List Bool} {tl : TA} {a : AF} {E : XK} (ha : AV K A tl a) : EV K A (tCall (spF K A F) [] E tl) (eCallL F fl a) := fun G σ H ρ O r o ρ' e Q q => by
  simp only [eCallL, Option.bind_eq_bind, Option.bind_eq_some_iff] at e
  obtain ⟨⟨os, ρ1⟩, h1, ⟨gs, ρ2⟩, h2, as, h3, h4⟩ := e
  split at h4
  · rename_i nd
    simp only [Option.bind_eq_some_iff] at h4
    obtain ⟨⟨o', as'⟩, h5, ρ3, h6, h7⟩ := h4
    simp only [Option.pure_def, Option.some.injEq, Prod.mk.injEq] at h7
    obtain ⟨rfl, rfl⟩ := h7
    dsimp only at h3 h5 h6 nd
    refine ha G σ H ρ O r os ρ1 h1 _ fun vs H1 O0 p0 s0 _ => ?_
    obtain ⟨O1, p1, s1⟩ := release r p0 s0
    -- the operands let go
    have h2' : mkA fl (os.map Opd.fz) ρ1 = some (gs, ρ2) := by
      have : ∀ (fl : List Bool) (os : List Opd) (ρ : Rho), mkA fl (os.map Opd.fz) ρ = mkA fl os ρ := fun fl os => by
        induction os generalizing fl with
        | nil => intro ρ; rfl
        | cons x xs ih =>
          intro ρ
          cases fl with
          | nil => rfl
          | cons b fl =>
            cases x <;> cases b <;> simp only [List.map_cons, Opd.fz, mkA, share, ih]
      rw [this]; exact h2
    obtain ⟨O2, p2, x2⟩ := mkA_ok p1.rel s1 h2'
    have p12 := p1.trans p2
    rw [List.append_nil]
    obtain ⟨hl, hv, hio, hown, hlent⟩ := fill_get x2 h3
    have r2 := p12.rel
    have at_ : ∀ (k i : Nat), gs[k]? = some (Sum.inr i) → ∃ p s t, vs[k]? = some (V.ref p) ∧ σ[i]? = some (some (V.ref p)) ∧ ρ2[i]? = some s ∧ s.held = some t ∧ hold ρ2 i ∧ O2 p ∧ Own1 K A H1 (hide H1 O2) p t ∧ as[k]? = some (Sl.io t) := fun k i hk => by
      obtain ⟨t, ht⟩ := hlent k i hk
      obtain ⟨w, i', hw, hg, hσ, hb⟩ := hio k t ht
      rw [hk] at hg; cases hg
      simp only [Option.bind_eq_some_iff] at hb
      obtain ⟨s, hs1, hs2⟩ := hb
      obtain ⟨hol, p, hp, hO, hw2⟩ := held_at r2 hs1 hs2
      rw [hσ] at hp; cases hp
      exact ⟨p, s, t, hw, hσ, hs1, hs2, hol, hO, hw2, ht⟩
    have args : Args K A vs H1 as O2 := by
      refine ⟨hl, hv, fun k t hk => ?_, hown, fun k l t u p hk1 hk2 hp1 hp2 => ?_, r2.dom⟩
      · obtain ⟨w, i, hw, hg, hσ, hb⟩ := hio k t hk
        obtain ⟨p, s, t', h8, h9, h10, h11, h12, h13, h14, h15⟩ := at_ k i hg
        rw [hk] at h15; cases h15
        exact ⟨p, h8, h13, h14⟩
      · obtain ⟨w, i, hw, hg, hσ, hb⟩ := hio k t hk1
        obtain ⟨w', i', hw', hg', hσ', hb'⟩ := hio l u hk2
        rw [hp1] at hw; cases hw
        rw [hp2] at hw'; cases hw'
        obtain ⟨p1', _, _, _, h9, _, _, h12, _⟩ := at_ k i hg
        obtain ⟨p2', _, _, _, h9', _, _, h12', _⟩ := at_ l i' hg'
        have : i = i' := r2.inj i i' p h12 h12' hσ hσ'
        subst this
        exact lent_nd nd hg hg'
    refine ⟨as, O2, _, _, args, h5, fun w H' Ox bk => ?_⟩
    obtain ⟨bl, bo, bi⟩ := back_get nd h6
    have ioL : ∀ q, ioA vs as q → ∃ i ∈ lentA gs, σ[i]? = some (some (V.ref q)) := fun q ⟨k, t, hk, hq⟩ => by
      obtain ⟨w, i, hw, hg, hσ, hb⟩ := hio k t hk
      rw [hq] at hw; cases hw
      exact ⟨i, lent_in.mpr ⟨k, hg⟩, hσ⟩
    have kp : ∀ q, O2 q → (∀ i ∈ lentA gs, σ[i]? ≠ some (some (V.ref q))) → H' q = H1 q := fun q hq n => bk.kp q hq fun z => by
      obtain ⟨i, hi, hσ⟩ := ioL q z
      exact n i hi hσ
    -- the slots behind the call
    have lk : ∀ i ∈ lentA gs, ∃ s t p t', ρ2[i]? = some s ∧ (s = .own t ∨ s = .io t) ∧ ρ3[i]? = some (s.with t') ∧ σ[i]? = some (some (V.ref p)) ∧ hold ρ2 i ∧ O2 p ∧ Own1 K A H' (hide H' Ox) p t' := fun i hi => by
      obtain ⟨k, hk⟩ := lent_in.mp hi
      obtain ⟨p, s, t, h8, h9, h10, h11, h12, h13, h14, h15⟩ := at_ k i hk
      obtain ⟨t', s', b1, b2, b3⟩ := bi k i hk
      rw [h10] at b2; cases b2
      obtain ⟨p', c1, c2⟩ := bk.io k t' b1
      rw [h8] at c1; cases c1
      exact ⟨s, t, p, t', h10, held_or h11, b3, h9, h12, h13, c2⟩
    have hs3 : ∀ j, hold ρ3 j → hold ρ2 j := fun j hj => by
      by_cases hm : j ∈ lentA gs
      · obtain ⟨_, _, _, _, _, _, _, _, h, _⟩ := lk j hm; exact h
      · obtain ⟨t, hj⟩ := hj
        rw [bo j hm] at hj
        exact ⟨t, hj⟩
    have nq : ∀ (j : Nat) (q : Addr), j ∉ lentA gs → hold ρ2 j → σ[j]? = some (some (V.ref q)) → ∀ i ∈ lentA gs, σ[i]? ≠ some (some (V.ref q)) := fun j q hm hj hσ i hi hx => by
      obtain ⟨_, _, _, _, _, _, _, _, h, _⟩ := lk i hi
      exact hm (r2.inj j i q hj h hσ hx ▸ hi)
    have rn : Rel K A G σ H' ρ3 Ox := by
      refine ⟨by rw [bl]; exact r2.len, fun j u e => ?_, fun j u e => ?_, fun j u e => ?_, fun j k q a b => r2.inj j k q (hs3 j a) (hs3 k b), bk.dom, fun p e => bk.up p (r2.sub p e), r2.isub, fun q e n => ?_, fun q e n => ?_, fun a e => bk.lv a (r2.live a e)⟩
      · by_cases hm : j ∈ lentA gs
        · obtain ⟨s, t, p, t', _, hh, b3, _⟩ := lk j hm
          rw [b3] at e
          rcases hh with rfl | rfl <;> cases e
        · rw [bo j hm] at e
          obtain ⟨w', c1, c2⟩ := r2.val j u e
          exact ⟨w', c1, c2.mono (Le.of bk.le)⟩
      · by_cases hm : j ∈ lentA gs
        · obtain ⟨s, t, p, t', a1, hh, b3, a2, a3, a4, a5⟩ := lk j hm
          rw [b3] at e
          rcases hh with rfl | rfl <;> cases e
          obtain ⟨p', c1, c2, c3, _⟩ := r2.own j t a1
          rw [a2] at c1; cases c1
          exact ⟨p, a2, bk.up p a4, c3, a5⟩
        · rw [bo j hm] at e
          obtain ⟨p', c1, c2, c3, c4⟩ := r2.own j u e
          exact ⟨p', c1, bk.up p' c2, c3, c4.mono (kp p' c2 (nq j p' hm ⟨u, .inl e⟩ c1)) (Le.of bk.le)⟩
      · by_cases hm : j ∈ lentA gs
        · obtain ⟨s, t, p, t', a1, hh, b3, a2, a3, a4, a5⟩ := lk j hm
          rw [b3] at e
          rcases hh with rfl | rfl <;> cases e
          obtain ⟨p', c1, c2, c3, _⟩ := r2.io j t a1
          rw [a2] at c1; cases c1
          exact ⟨p, a2, c2, c3, a5⟩
        · rw [bo j hm] at e
          obtain ⟨p', c1, c2, c3, c4⟩ := r2.io j u e
          exact ⟨p', c1, c2, c3, c4.mono (kp p' (r2.sub p' (r2.isub p' c2)) (nq j p' hm ⟨u, .inr e⟩ c1)) (Le.of bk.le)⟩
      · refine (kp q (r2.sub q e) fun i hi hx => ?_).trans (r2.fr q e n)
        obtain ⟨s, t, p, t', a1, hh, b3, a2, a3, a4, a5⟩ := lk i hi
        rw [hx] at a2; cases a2
        rcases hh with rfl | rfl
        · obtain ⟨p', c1, c2, c3, _⟩ := r2.own i t a1
          rw [hx] at c1; cases c1
          exact c3 e
        · obtain ⟨p', c1, c2, _⟩ := r2.io i t a1
          rw [hx] at c1; cases c1
          exact n c2
      · rcases bk.sub q e with h | h
        · exact r2.new q h n
        · exact (r2.fresh h).2.2
    have p3 : Post K A G σ H1 ρ2 O2 H' ρ3 Ox := ⟨rn, bk.le, bk.sub, fun q hq un => ⟨bk.up q hq, kp q hq fun i hi hx => by
      obtain ⟨_, _, _, _, _, _, _, _, h, _⟩ := lk i hi
      exact un i h hx⟩, hs3, bk.lv⟩
    exact q w H' Ox (p12.trans p3) ((bk.res.rl r2 hs3).back p12.lv)
  · cases h4
end
end QT

set_option Elab.async false
set_option linter.all false
set_option maxRecDepth 100000
set_option maxHeartbeats 4000000
namespace QT
open PySem PySem.Spec PyProof.Rows L2 QB
section
variable {K : PySem.W.Frag} {A : Nat → Addr} {G : Fx} {σ : L2.St} {ρ ρ' : Rho} {H H' : Hp} {O : Oset} {p : Addr} {t t' : T} {v : V} {i : Nat}
/-! ### a comprehension over what a slot holds: it is put aside meanwhile -/
def eLcX (en : Bool) (i : Nat) (s : T → Rho → Option Rho) (tt : BF) (el : EF) (vs : List Nat) : EF := fun ρ => match ρ[i]? with
  | none => none
  | some s0 => match s0.held with
    | some (.lst ts) => if ts.length < sizeLine then
        (compF s tt el vs (if en then enumT ts else ts) (wipeR (ρ.set i .no) vs)).bind fun (us, ρ2) => some (.own (.lst us), ρ2.set i s0)
      else none
    | _ => eLc (if en then iEn (eVar i) else iL (eVar i)) s tt el vs ρ
theorem compF_len {s : T → Rho → Option Rho} {tt : BF} {el : EF} {vs : List Nat} : True := trivial
/-- a slot that was put aside holds its thing again -/
theorem Rel.again {s0 : Sl} (r : Rel K A G σ H ρ O) (hi : σ[i]? = some (some (V.ref p))) (hO : O p) (un : unheld σ ρ p) (hw : Own1 K A H (hide H O) p t) (hh : (s0 = .own t ∧ ¬ G.O0 p) ∨ (s0 = .io t ∧ G.I p ∧ G.σ0[i]? = some (some (V.ref p)))) : Rel K A G σ H (ρ.set i s0) O := by
  have nh : ∀ j q, hold ρ j → σ[j]? = some (some (V.ref q)) → q ≠ p := fun j q h e x => un j h (x ▸ e)
  have hs : ∀ j, hold (ρ.set i s0) j → j = i ∨ (j ≠ i ∧ hold ρ j) := fun j hj => by
    rcases hold_set hj with ⟨h, _⟩ | h
    · exact .inl h
    · exact .inr h
  refine ⟨by rw [List.length_set]; exact r.len, fun j u e => ?_, fun j u e => ?_, fun j u e => ?_, fun j k q h1 h2 e1 e2 => ?_, r.dom, r.sub, r.isub, r.fr, r.new, r.live⟩
  · rcases set_get e with ⟨rfl, e'⟩ | ⟨n, e⟩
    · rcases hh with ⟨rfl, _⟩ | ⟨rfl, _⟩ <;> cases e'
    · exact r.val j u e
  · rcases set_get e with ⟨rfl, e'⟩ | ⟨n, e⟩
    · rcases hh with ⟨rfl, n0⟩ | ⟨rfl, _⟩ <;> cases e'
      exact ⟨p, hi, hO, n0, hw⟩
    · exact r.own j u e
  · rcases set_get e with ⟨rfl, e'⟩ | ⟨n, e⟩
    · rcases hh with ⟨rfl, _⟩ | ⟨rfl, h1, h2⟩ <;> cases e'
      exact ⟨p, hi, h1, h2, hw⟩
    · exact r.io j u e
  · rcases hs j h1 with rfl | ⟨n1, b1⟩ <;> rcases hs k h2 with rfl | ⟨n2, b2⟩
    · rfl
    · rw [hi] at e1; cases e1; exact absurd rfl (nh k p b2 e2)
    · rw [hi] at e2; cases e2; exact absurd rfl (nh j p b1 e1)
    · exact r.inj j k q b1 b2 e1 e2
theorem ev_lcX {en : Bool} {wi : TI} {g : TG} {tt : TT} {te : TE} {vs is : List Nat} {s : T → Rho → Option Rho} {bt : BF} {el : EF} (hw : wi = if en then iEnum K (tCons (tVar i) tNil) else iList K (tVar i)) (hg : GV K A is g s) (ht : TV K A tt bt) (he : EV K A te el) (hv : ∀ j ∈ is, j ∈ vs) : EV K A (tLc wi g tt te vs) (eLcX en i s bt el vs) := fun G σ H ρ O r o ρf e Q q => by
  have hV : EV K A (tLc wi g tt te vs) (eLc (if en then iEn (eVar i) else iL (eVar i)) s bt el vs) := by
    subst hw
    cases en with
    | true => exact ev_lc (iv_enum ev_var) hg ht he hv
    | false => exact ev_lc (iv_lst ev_var) hg ht he hv
  unfold eLcX at e
  cases hs0 : ρ[i]? with
  | none => rw [hs0] at e; cases e
  | some s0 =>
    rw [hs0] at e
    dsimp only at e
    split at e
    · rename_i ts ht0
      split at e
      · rename_i hsz
        simp only [Option.bind_eq_some_iff] at e
        obtain ⟨⟨us, ρe⟩, h3, h4⟩ := e
        simp only [Option.some.injEq, Prod.mk.injEq] at h4
        obtain ⟨rfl, rfl⟩ := h4
        obtain ⟨hol, a, ha, hO, hown⟩ := held_at r hs0 ht0
        obtain ⟨ws, hw1, hw2⟩ := hown
        have rk : Rel K A G σ H (ρ.set i .no) O := r.kill
        have hsk : ∀ j, hold (ρ.set i .no) j → j ≠ i ∧ hold ρ j := fun j hj => by
          rcases hold_set hj with ⟨_, _, hx | hx⟩ | hx
          · cases hx
          · cases hx
          · exact hx
        have una : unheld σ (ρ.set i .no) a := fun j hj ej => (hsk j hj).1 (r.inj j i a (hsk j hj).2 hol ej ha)
        have Iv0 : ∀ H' O', (O' a ∧ H' a = some (.lst ws) ∧ RpL K A (hide H' O') ws ts) → SqL K H' a ws := fun H' O' h => SqL.of h.2.1
        have hl : (if en then enumT ts else ts).length = ts.length := by cases en <;> simp [enumT]
        have fin : ∀ v H' O', Post K A G σ H (ρ.set i .no) O H' ρe O' → Rl K A σ H H' ρe O' v (.own (.lst us)) → Q v H' := fun v H' O' p2 r2 => by
          obtain ⟨k1, k2⟩ := p2.keep a hO una
          have un2 : unheld σ ρe a := una.up p2.hs
          have own2 : Own1 K A H' (hide H' O') a (.lst ts) := ⟨ws, k2.trans hw1, hw2.mono (Le.of p2.le)⟩
          have hh : (s0 = .own (.lst ts) ∧ ¬ G.O0 a) ∨ (s0 = .io (.lst ts) ∧ G.I a ∧ G.σ0[i]? = some (some (V.ref a))) := by
            rcases held_or ht0 with e | e
            · subst e
              obtain ⟨p', c1, _, c3, _⟩ := r.own i _ hs0
              rw [ha] at c1; cases c1
              exact .inl ⟨rfl, c3⟩
            · subst e
              obtain ⟨p', c1, c2, c3, _⟩ := r.io i _ hs0
              rw [ha] at c1; cases c1
              exact .inr ⟨rfl, c2, c3⟩
          have r3 := p2.rel.again ha k1 un2 own2 hh
          have hs3 : ∀ j, hold (ρe.set i s0) j → hold ρ j := fun j hj => by
            rcases hold_set hj with ⟨e, _⟩ | ⟨_, h⟩
            · subst e; exact hol
            · exact (hsk j (p2.hs j h)).2
          refine q v H' O' ⟨r3, p2.le, p2.sub, fun x hx un => p2.keep x hx fun j hj => un j (hsk j hj).2, hs3, p2.lv⟩ ?_
          obtain ⟨D, e1, tm⟩ := r2
          refine ⟨D, e1, tm.new, tm.hid, fun j hj ej => ?_, tm.own⟩
          rcases hold_set hj with ⟨e, _⟩ | ⟨_, h⟩
          · subst e
            rw [ha] at ej; cases ej
            exact r.dom a hO tm.new
          · exact tm.un j h ej
        subst hw
        cases en with
        | false =>
          refine ⟨_, ha, a, rfl, ⟨ws, SqL.of hw1⟩, ?_⟩
          refine lc_at hg ht he hv rk (ts := ts) (Iv := fun H' O' => O' a ∧ H' a = some (.lst ws) ∧ RpL K A (hide H' O') ws ts) (Ka := fun x => x = a) ⟨fun H1 O1 H2 O2 h l k => ?_, fun H1 O1 k t h d hi => ?_, fun H1 O1 h => ⟨ws, SqL.of h.2.1, by rw [h.2.2.len]; exact Nat.le_refl _⟩⟩ ⟨hO, hw1, hw2⟩ (fun x hx => by subst hx; exact ⟨hO, una⟩) hsz h3 fin
          · obtain ⟨k1, k2⟩ := k a rfl
            exact ⟨k1, k2.trans h.2.1, h.2.2.mono (Le.of l)⟩
          · obtain ⟨w, hw, rw⟩ := h.2.2.get hi
            refine ⟨⟨ws, w, SqL.of h.2.1, hw⟩, fun x H' y => ?_⟩
            obtain ⟨rfl, y⟩ := y
            have := y ws (SqL.of h.2.1)
            rw [hw] at this; cases this
            exact ⟨Same.refl _, rw⟩
        | true =>
          refine ⟨_, ha, a, ws, rfl, SqL.of hw1, ?_⟩
          have hle : (enumT ts).length = ts.length := by simp [enumT]
          refine lc_at hg ht he hv rk (ts := enumT ts) (Iv := fun H' O' => O' a ∧ H' a = some (.lst ws) ∧ RpL K A (hide H' O') ws ts) (Ka := fun x => x = a) ⟨fun H1 O1 H2 O2 h l k => ?_, fun H1 O1 k t h d hi => ?_, fun H1 O1 h => ⟨ws, SqL.of h.2.1, by rw [h.2.2.len, hle]; exact Nat.le_refl _⟩⟩ ⟨hO, hw1, hw2⟩ (fun x hx => by subst hx; exact ⟨hO, una⟩) (by rw [hle]; exact hsz) h3 fin
          · obtain ⟨k1, k2⟩ := k a rfl
            exact ⟨k1, k2.trans h.2.1, h.2.2.mono (Le.of l)⟩
          · have hi' : k < ts.length := by have := (List.getElem?_eq_some_iff.mp hi).1; rwa [hle] at this
            obtain ⟨w, hw, rw⟩ := h.2.2.get (t := ts[k]) (List.getElem?_eq_getElem hi')
            have et : t = .tup [.int (k : Nat), ts[k]] := by
              simp [enumT, hi'] at hi
              exact hi.symm
            subst et
            refine ⟨⟨ws, w, SqL.of h.2.1, hw⟩, fun x H' y => ?_⟩
            obtain ⟨T', x', rfl, hT, rfl, hx⟩ := y
            have := hx ws (SqL.of h.2.1)
            rw [hw] at this; cases this
            refine ⟨same_new hT, .tup (.inl (.inl (hide_of (fun e => d T' e hT) upd_same))) (.cons (.int _) (.cons (rw.mono (Le.of (hide_newv hT))) .nil))⟩
      · cases e
    · exact hV G σ H ρ O r o ρf e Q q
end
end QT

set_option Elab.async false
set_option linter.all false
set_option maxRecDepth 100000
set_option maxHeartbeats 4000000
/-! Own layer: the end: the promise of law. -/
namespace QT
open PySem PySem.Spec PyProof.Rows L2 QB
def spLaw (K : PySem.W.Frag) : Sp := fun vs H Q _ => ∃ (a : Addr) (ns : List Int), vs = [.ref a] ∧ SqL K H a (ns.map V.int) ∧ ns.length ≤ 63 ∧ ∀ H', Q (.bl true) H'
theorem hide_none {H : Hp} : hide H (fun _ => False) = H := by
  funext a
  unfold hide
  simp
theorem rp_ints {K : PySem.W.Frag} {A : Nat → Addr} {H : Hp} : ∀ ns : List Int, RpL K A H (ns.map V.int) (ns.map T.int)
  | [] => .nil
  | n :: r => .cons (.int n) (rp_ints r)
theorem law_sp {K : PySem.W.Frag} {A : Nat → Addr} {F : FF} (hF : ∀ ns : List Int, ns.length ≤ 63 → ∃ rest, F [.val (.lst (ns.map .int))] = some (.val (.bl true), rest)) {vs : List V} {H : Hp} {Q : VK} {E : XK} (h : spLaw K vs H Q E) : spF K A F vs H Q E := by
  obtain ⟨a, ns, rfl, hs, hl, q⟩ := h
  obtain ⟨rest, e⟩ := hF ns hl
  refine ⟨_, fun _ => False, _, _, ⟨rfl, fun i t hi => ?_, fun i t hi => ?_, fun i t hi => ?_, fun i j t u p hi => ?_, fun _ h => h.elim⟩, e, fun v H' Ox b => ?_⟩
  · match i, hi with
    | 0, hi =>
      have : t = .lst (ns.map .int) := by simpa using hi.symm
      subst this
      exact ⟨_, rfl, by rw [hide_none]; exact .lst hs (rp_ints ns)⟩
    | i + 1, hi => simp at hi
  · match i, hi with
    | 0, hi => simp at hi
    | i + 1, hi => simp at hi
  · match i, hi with
    | 0, hi => simp at hi
    | i + 1, hi => simp at hi
  · match i, hi with
    | 0, hi => simp at hi
    | i + 1, hi => simp at hi
  · have r : Rp K A (hide H' Ox) v (.bl true) := b.res
    cases r
    exact q _
theorem fnG_imp {P : Program} {w : World} {K : PySem.W.Frag} {mg : Str → Option Value} {base : Heap} {k : Nat} {f : Addr} {fd : FuncData} {ps : List Str} {sp sp' : Sp} (h : QG.FnG P w K mg base k f fd ps sp) (i : ∀ vs H Q E, sp' vs H Q E → sp vs H Q E) : QG.FnG P w K mg base k f fd ps sp' :=
  ⟨fun vs H Q E e => h.len vs H Q E (i _ _ _ _ e), fun A outer s H args us vs Q E hg hr e0 hb r hsp => h.run A outer s H args us vs Q E hg hr e0 hb r (i _ _ _ _ hsp)⟩
theorem fnOk_imp {P : Program} {w : World} {K : PySem.W.Frag} {mg : Str → Option Value} {base : Heap} {k : Nat} {f : Addr} {fd : FuncData} {ps : List Str} {sp sp' : Sp} (h : FnOk P w K mg base CX0 k f fd ps sp) (i : ∀ vs H Q E, sp' vs H Q E → sp vs H Q E) : FnOk P w K mg base CX0 k f fd ps sp' :=
  ⟨fun vs H Q E e => h.len vs H Q E (i _ _ _ _ e), fun A outer s H args us vs Q E hr e0 hb r hsp => h.run A outer s H args us vs Q E hr e0 hb r (i _ _ _ _ hsp)⟩
end QT

set_option Elab.async false
set_option linter.all false
set_option maxRecDepth 100000
set_option maxHeartbeats 4000000
/-! Own layer: the head by one kernel run, facts of defs and classes read by a Hook of its own. -/
namespace QH
open PySem PySem.Spec PyProof.Rows L2 QB QT
/-- the objects that some names of the top stand for -/
def roots (xs : List Str) (g : Addr → Option Obj) : List Addr := match g mainGlobals with
  | some o => xs.filterMap fun x => match PySem.W.nsIn [(mainGlobals, o)] mainGlobals x with
    | some (some (.ref a)) => some a
    | _ => none
  | none => []
def growN (g : Addr → Option Obj) : Nat → List Addr → List Addr
  | 0, as => as
  | n + 1, as => growN g n (He.growD g as)
def asN (n : Nat) (xs : List Str) (g : Addr → Option Obj) : List Addr := mainGlobals :: growN g n (roots xs g)
abbrev AlB : Type := Bool × List He.FnW
def obsB (ex : PySem.W.Frag → Bool) (fn : List He.DefD) (K : PySem.W.Frag) : AlB := (ex K && fn.all fun d => d.ok K, fn.map fun d => He.fnW K d.at_)
def valB (fn : List He.DefD) : AlB := (true, fn.map He.DefD.val)
def SaysB (ex : PySem.W.Frag → Bool) (fn : List He.DefD) (K : PySem.W.Frag) : Prop := obsB ex fn K = valB fn
def obsBG (n : Nat) (xs : List Str) (ex : PySem.W.Frag → Bool) (fn : List He.DefD) (g : Addr → Option Obj) : AlB := obsB ex fn (He.frG g (asN n xs g))
def hookB (n : Nat) (xs : List Str) (ex : PySem.W.Frag → Bool) (fn : List He.DefD) : PySem.W.Hook where
  α := AlB
  obs := fun s => obsBG n xs ex fn s.heap.get?
  val := fun _ => valB fn
  says := fun _ h => ∃ K : PySem.W.Frag, K.In h ∧ SaysB ex fn K
  of := fun _ _ e => ⟨_, He.frG_in, e⟩
  keeps := fun _ _ _ ⟨K, hK, c⟩ k => ⟨K, PySem.W.Frag.In.keeps hK k, c⟩
theorem obsBG_eq {n : Nat} {xs : List Str} {ex : PySem.W.Frag → Bool} {fn : List He.DefD} {g : Addr → Option Obj} {s : Shared} (h : ∀ a, g a = s.heap.get? a) : obsBG n xs ex fn g = (hookB n xs ex fn).obs s := by
  have e : g = s.heap.get? := funext h
  rw [e] <;> rfl
section
variable {ex : PySem.W.Frag → Bool} {fn : List He.DefD} {K : PySem.W.Frag}
theorem SaysB.exK (c : SaysB ex fn K) : ex K = true := (He.ba (show (ex K && fn.all fun d => d.ok K) = true from congrArg (fun z : AlB => z.1) c)).1
theorem SaysB.def_ (c : SaysB ex fn K) (i : Nat) {d : He.DefD} (h : fn[i]? = some d := by rfl) : ∃ fd, FunD K d.name d.qual d.params d.body d.scope (d.dvs K) (d.kws K) (He.fAd K d.at_) fd := by
  have c2 := (He.ba (show (ex K && fn.all fun d => d.ok K) = true from congrArg (fun z : AlB => z.1) c)).2
  have e : fn.map (fun d => He.fnW K d.at_) = fn.map He.DefD.val := congrArg (fun z : AlB => z.2) c
  have e2 : (fn.map fun d => He.fnW K d.at_)[i]? = (fn.map He.DefD.val)[i]? := by rw [e]
  rw [List.getElem?_map, List.getElem?_map, h] at e2
  exact He.DefD.funD (Option.some.inj e2) (List.all_eq_true.mp c2 d (List.mem_of_getElem? h))
end
/-! ### classes -/
def Acl (cn : List Str) (K : PySem.W.Frag) (c : Nat) : Addr := He.ga K (cn.getD (min c (cn.length - 1)) Str.empty)
def oB (a b : Option Bool) : Bool := decide (a = b)
theorem oB_ok {a b : Option Bool} (h : oB a b = true) : a = b := of_decide_eq_true h
def clsB (K : PySem.W.Frag) (C : Addr) (fl : List Str) : Bool := PySem.W.plainGet K C Str.empty && (PySem.W.hasDictIn K C && (PySem.W.plainOver K C && (He.eqO (PySem.W.findIn K (.ref C) "__setattr__") (some (some (.builtin "object.__setattr__"))) &&
  (He.eqO (PySem.W.findIn K (.ref C) "__class__") (some (some (.builtin "object.__class__"))) && (oB (PySem.W.mroIn K C (.type "object")) (some true) && (oB (PySem.W.kitOne K (.ref C) (.ref C)) (some true) && fl.all fun f => He.eqO (PySem.W.findIn K (.ref C) f) (some none)))))))
/-- all that the own classes and the free names ask -/
def topB (cn fl bl : List Str) (sub : Nat → Nat → Bool) (K : PySem.W.Frag) : Bool := He.eqO (PySem.W.specialIn K (.builtin "object.__class__") "__get__") (some (some (.builtin "getset_descriptor.__get__"))) && (oB (PySem.W.takesIn K (.builtin "object.__class__")) (some true) &&
  (((List.range cn.length).all fun c => clsB K (Acl cn K c) fl) && (((List.range cn.length).all fun c => (List.range cn.length).all fun d => oB (PySem.W.kitOne K (.ref (Acl cn K c)) (.ref (Acl cn K d))) (some (sub c d))) && ((cn.all fun x => (He.Fa.glo x).ok K) && bl.all fun x => (He.Fa.free x).ok K))))
theorem min_in {n : Nat} (h : n ≠ 0) (c : Nat) : min c (n - 1) ∈ List.range n := List.mem_range.mpr (by omega)
theorem Acl_min {cn : List Str} {K : PySem.W.Frag} (c : Nat) : Acl cn K (min c (cn.length - 1)) = Acl cn K c := by
  unfold Acl
  rw [show min (min c (cn.length - 1)) (cn.length - 1) = min c (cn.length - 1) by omega]
theorem cls_of {K : PySem.W.Frag} {C : Addr} {fl : List Str} (h : clsB K C fl = true) : Cls K C := by
  obtain ⟨c1, h⟩ := He.ba h
  obtain ⟨c2, h⟩ := He.ba h
  obtain ⟨c3, h⟩ := He.ba h
  obtain ⟨c4, h⟩ := He.ba h
  exact ⟨c1, c2, c3, He.eqO_ok c4⟩
section
variable {cn fl bl : List Str} {sub : Nat → Nat → Bool} {K : PySem.W.Frag} {h : Heap} {mg : Str → Option Value}
theorem cls_at (t : topB cn fl bl sub K = true) (hn : cn.length ≠ 0) (c : Nat) : clsB K (Acl cn K c) fl = true := by
  obtain ⟨_, t⟩ := He.ba t
  obtain ⟨_, t⟩ := He.ba t
  obtain ⟨t, _⟩ := He.ba t
  have := List.all_eq_true.mp t _ (min_in hn c)
  rwa [Acl_min] at this
theorem kits_of (t : topB cn fl bl sub K = true) (hn : cn.length ≠ 0) (hs : ∀ c d, sub c d = sub (min c (cn.length - 1)) (min d (cn.length - 1))) : Kits K (Acl cn K) sub := by
  have C := cls_at t hn
  obtain ⟨t1, t⟩ := He.ba t
  obtain ⟨t2, t⟩ := He.ba t
  obtain ⟨_, t⟩ := He.ba t
  obtain ⟨t3, _⟩ := He.ba t
  refine ⟨fun c => ?_, fun c d => ?_⟩
  · have h := C c
    have k1 := cls_of h
    obtain ⟨c1, h⟩ := He.ba h
    obtain ⟨c2, h⟩ := He.ba h
    obtain ⟨c3, h⟩ := He.ba h
    obtain ⟨c4, h⟩ := He.ba h
    obtain ⟨c5, h⟩ := He.ba h
    obtain ⟨c6, h⟩ := He.ba h
    obtain ⟨c7, h⟩ := He.ba h
    exact ⟨k1, He.eqO_ok c5, He.eqO_ok t1, oB_ok t2, oB_ok c6, oB_ok c7⟩
  · have := oB_ok (List.all_eq_true.mp (List.all_eq_true.mp t3 _ (min_in hn c)) _ (min_in hn d))
    rw [Acl_min, Acl_min] at this
    rw [this, ← hs]
theorem fl_of (t : topB cn fl bl sub K = true) (hn : cn.length ≠ 0) (c : Nat) (f : Str) (hf : f ∈ fl) : Cls K (Acl cn K c) ∧ NoAttr K (Acl cn K c) f := by
  have h := cls_at t hn c
  have k1 := cls_of h
  obtain ⟨c1, h⟩ := He.ba h
  obtain ⟨c2, h⟩ := He.ba h
  obtain ⟨c3, h⟩ := He.ba h
  obtain ⟨c4, h⟩ := He.ba h
  obtain ⟨c5, h⟩ := He.ba h
  obtain ⟨c6, h⟩ := He.ba h
  obtain ⟨c7, h⟩ := He.ba h
  exact ⟨k1, He.eqO_ok (List.all_eq_true.mp h f hf)⟩
theorem glo_of (t : topB cn fl bl sub K = true) (X : K.In h) (G : h.Ns mainGlobals mg) (c : Nat) {x : Str} (e : cn[c]? = some x := by rfl) : mg x = some (.ref (Acl cn K c)) := by
  obtain ⟨_, t⟩ := He.ba t
  obtain ⟨_, t⟩ := He.ba t
  obtain ⟨_, t⟩ := He.ba t
  obtain ⟨_, t⟩ := He.ba t
  obtain ⟨t, _⟩ := He.ba t
  have lt : c < cn.length := by
    by_cases z : c < cn.length
    · exact z
    · rw [List.getElem?_eq_none (by omega)] at e; cases e
  have := He.glo_ok X G (List.all_eq_true.mp t x (List.mem_of_getElem? e))
  unfold Acl
  rw [show min c (cn.length - 1) = c by omega, List.getD_eq_getElem?_getD, e]
  exact this
theorem free_of (t : topB cn fl bl sub K = true) (X : K.In h) (G : h.Ns mainGlobals mg) {x : Str} (e : x ∈ bl) : mg x = none := by
  obtain ⟨_, t⟩ := He.ba t
  obtain ⟨_, t⟩ := He.ba t
  obtain ⟨_, t⟩ := He.ba t
  obtain ⟨_, t⟩ := He.ba t
  obtain ⟨_, t⟩ := He.ba t
  exact He.free_ok X G (List.all_eq_true.mp t x e)
end
/-! ### defs -/
theorem fun_of {K : PySem.W.Frag} {x qual : Str} {st : Stmt} {dvs : List V} {kws : List (Str × V)} {f : Addr} {fd : FuncData} (F : FunD K x qual (C8.fnArgs st) (C8.fnBody st) (C8.fnScope st) dvs kws f fd) : C8.Fun K x qual st f fd := by
  obtain ⟨oc, od, dV, kV, doc, pm, an, cdv, ct, osl, e, lk, hcd, _, _⟩ := F.ex
  exact ⟨oc, od, dV, kV, doc, pm, an, cdv, ct, osl, e, lk, hcd⟩
theorem dd_of {K : PySem.W.Frag} {mg : Str → Option Value} {x : Str} {st : Stmt} {ps : List Str} {kws : List (Str × V)} {fd : FuncData} {f : Addr} (F : FunD K x x (C8.fnArgs st) (C8.fnBody st) (C8.fnScope st) [] kws f fd) (g : mg x = some (.ref f))
    (b : ∀ (kV doc pm : Value) (an : Option Addr) (cdv ct : Value) (us : List Value), us.length = ps.length → bindArgs (PySem.W.fnOf x x (C8.fnArgs st) (C8.fnBody st) (C8.fnScope st) .none kV doc pm an cdv ct) ⟨us, []⟩ = pure (ps.zip us)) : Dd K mg x st ps := by
  refine ⟨f, fd, ⟨fun_of F, g, F.kp⟩, F.bindsN b, ?_⟩
  obtain ⟨oc, od, dV, kV, doc, pm, an, cdv, ct, osl, rfl, lk, hcd, hD, _⟩ := F.ex
  rcases hD with ⟨_, rfl⟩ | ⟨e, _⟩
  · rfl
  · exact absurd rfl e
/-! ### the end: the law's call -/
theorem walk_ofGE {l : PySem.W.OpenLaw} {n k : Nat} {q : Program} {loose : List Str} {XP : (Str → Option Value) → Heap → Prop} {YP : World → Heap → Prop} {d : DefRec} {x : Str}
    (hn : l.most = some n) (hn2 : n ≤ sizeLine) (hdf : d.params.defaults = []) (hr : Room k callerA)
    (F : ∀ (w : World) (mg : Str → Option Value) (fa : Addr) (h : Heap), YP w h → h.Ns mainGlobals mg → mg d.name = some (.ref fa) →
      ∃ (K : PySem.W.Frag) (fd : FuncData) (sp : Sp), K.In h ∧ (∀ (s : Shared) (u : Value), BindsTo s fd ⟨[u], []⟩ [(x, u)]) ∧
        (∀ (H : Hp) (a : Addr) (ns : List Int), ns.length ≤ n → Only H → SqL K H a (ns.map V.int) → sp [.ref a] H (fun v _ => v = .bl true) fun _ _ _ => False) ∧
        ∀ base : Heap, K.In base → base.Ns mainGlobals mg → QG.FnG l.prog w K mg base k fa fd [x] sp) :
    PySem.W.WalkO q loose XP YP l.row.toRowW d [] (fun f vs => PySem.call f vs) := by
  refine Att.attach_call hn hdf fun w s₀ s₁ mg mb fa o pm cd doc a vs ns G Y ho hd hcd hmg hobj hints hlen hg => ?_
  obtain ⟨K, fd, sp, KX, hb, hsp, hF⟩ := F w mg fa _ Y G.T.g hmg
  exact QG.law_callG KX G.T.g G.T.b G.T.builtins G.T.nolimit hg hobj hints (Nat.le_trans hlen hn2) hr hF hb (fun H hO hS => hsp H a ns hlen hO hS)
end QH

set_option Elab.async false
set_option linter.all false
set_option maxRecDepth 100000
set_option maxHeartbeats 4000000
/-! Own layer: mathematics of mirrors: how the functions over trees run. -/
namespace QT
open PySem PySem.Spec PyProof.Rows L2 QB
theorem fAdd_i {i j : Int} : fAdd [.int i, .int j] = some (.val (.int (i + j))) := rfl
theorem fSub_i {i j : Int} : fSub [.int i, .int j] = some (.val (.int (i - j))) := rfl
theorem fMul_r {i j : Int} (h1 : -18446744073709551616 < j) (h2 : j < 18446744073709551616) : fMul [.int i, .int j] = some (.val (.int (i * j))) := if_pos (.inr ⟨h1, h2⟩)
theorem fMul_l {i j : Int} (h1 : -18446744073709551616 < i) (h2 : i < 18446744073709551616) : fMul [.int i, .int j] = some (.val (.int (i * j))) := if_pos (.inl ⟨h1, h2⟩)
theorem fMod_p {i j : Int} (h : 0 < j) : fMod [.int i, .int j] = some (.val (.int (i % j))) := if_pos h
theorem log_small {j : Int} (h : j < 2 ^ 64) (h0 : 0 < j) : j.natAbs.log2 < 9000 := by
  have h1 : j.natAbs < 2 ^ 64 := by omega
  have h2 : j.natAbs ≠ 0 := by omega
  have := (Nat.log2_lt h2).mpr h1
  omega
theorem fFdiv_p {i j : Int} (h : 0 < j) (h2 : j < 18446744073709551616) : fFdiv [.int i, .int j] = some (.val (.int (i / j))) := if_pos ⟨h, log_small h2 h⟩
theorem fLt_i {i j : Int} : fLt [.int i, .int j] = some (.val (.bl (decide (i < j)))) := rfl
theorem fLe_i {i j : Int} : fLe [.int i, .int j] = some (.val (.bl (decide (i ≤ j)))) := rfl
theorem fGt_i {i j : Int} : fGt [.int i, .int j] = some (.val (.bl (decide (j < i)))) := rfl
theorem fGe_i {i j : Int} : fGe [.int i, .int j] = some (.val (.bl (decide (j ≤ i)))) := rfl
theorem fIxL_0 {x : T} {r : List T} : fIxL [.lst (x :: r), .int 0] = some (.val x) := by
  simp [fIxL, L2.atI, ixN]
theorem ixN_nat {n : Nat} {i : Int} (h0 : 0 ≤ i) (h1 : i < n) : ixN n i = some i.toNat := by
  unfold ixN; rw [if_pos h0, if_pos h1]
theorem fIxL_n {xs : List T} {i : Int} {x : T} (h0 : 0 ≤ i) (h : xs[i.toNat]? = some x) : fIxL [.lst xs, .int i] = some (.val x) := by
  have hl : i.toNat < xs.length := (List.getElem?_eq_some_iff.mp h).1
  simp only [fIxL, L2.atI, ixN_nat h0 (show i < xs.length by omega), Option.bind_some, h, Option.map_some]
theorem fIxL_1 {x y : T} {r : List T} : fIxL [.lst (x :: y :: r), .int 1] = some (.val y) := fIxL_n (by decide) rfl
theorem fEq_i {i j : Int} : fEq false [.int i, .int j] = some (.val (.bl (decide (i = j)))) := by
  simp [fEq, T.fv, scal]
theorem fNe_i {i j : Int} : fEq true [.int i, .int j] = some (.val (.bl (!decide (i = j)))) := by
  simp [fEq, T.fv, scal]
theorem fEq_s {i j : Str} : fEq false [.str i, .str j] = some (.val (.bl (decide (i = j)))) := by
  simp [fEq, T.fv, scal]
theorem fNe_s {i j : Str} : fEq true [.str i, .str j] = some (.val (.bl (!decide (i = j)))) := by
  simp [fEq, T.fv, scal]
theorem ixN_10 : ixN 1 0 = some 0 := rfl
theorem ixN_20 : ixN 2 0 = some 0 := rfl
theorem ixN_21 : ixN 2 1 = some 1 := rfl
theorem ixN_30 : ixN 3 0 = some 0 := rfl
theorem ixN_31 : ixN 3 1 = some 1 := rfl
theorem ixN_32 : ixN 3 2 = some 2 := rfl
theorem ofS_eq {a b : String} : (Str.ofString a = Str.ofString b) = (a = b) := by
  apply propext
  constructor
  · intro h
    rw [Str.ofString_eq_toList, Str.ofString_eq_toList] at h
    have h2 : a.toList.map Char.toNat = b.toList.map Char.toNat := by
      have := congrArg (fun z : Str => z.cps.toList) h
      simpa using this
    have h3 : a.toList = b.toList := by
      have inj : ∀ {xs ys : List Char}, xs.map Char.toNat = ys.map Char.toNat → xs = ys := by
        intro xs
        induction xs with
        | nil => intro ys h; cases ys with
          | nil => rfl
          | cons _ _ => cases h
        | cons x r ih => intro ys h; cases ys with
          | nil => cases h
          | cons y s =>
            simp only [List.map_cons, List.cons.injEq] at h
            have : x = y := Char.ext (UInt32.toNat_inj.mp h.1)
            rw [this, ih h.2]
      exact inj h2
    exact String.toList_inj.mp h3
  · rintro rfl; rfl
theorem ofS_beq {a b : String} : (Str.ofString a == Str.ofString b) = (a == b) := by
  rw [Bool.eq_iff_iff, beq_iff_eq, beq_iff_eq, ofS_eq]
/-! ### loops -/
/-- each turn goes on and keeps P -/
theorem loop_inv {s : T → Rho → Option Rho} {b : SF} (P : Rho → Prop) : ∀ {ts : List T} {ρ : Rho}, P ρ → (∀ t ∈ ts, ∀ ρ, P ρ → ∃ ρ1 ρ2, s t ρ = some ρ1 ∧ b ρ1 = .nx ρ2 ∧ P ρ2) → ∃ ρ', loopF s b ts ρ = .nx ρ' ∧ P ρ'
  | [], ρ, h, _ => ⟨ρ, rfl, h⟩
  | t :: r, ρ, h, hs => by
    obtain ⟨ρ1, ρ2, h1, h2, h3⟩ := hs t (by simp) ρ h
    obtain ⟨ρ', h4, h5⟩ := loop_inv P (ts := r) h3 (fun u hu => hs u (by simp [hu]))
    exact ⟨ρ', by simp only [loopF, h1, h2, h4], h5⟩
/-- .. by the place -/
theorem loop_at {s : T → Rho → Option Rho} {b : SF} (P : Nat → Rho → Prop) : ∀ {ts : List T} {ρ : Rho} (k : Nat), P k ρ → (∀ (i : Nat) t, ts[i]? = some t → ∀ ρ, P (k + i) ρ → ∃ ρ1 ρ2, s t ρ = some ρ1 ∧ b ρ1 = .nx ρ2 ∧ P (k + i + 1) ρ2) → ∃ ρ', loopF s b ts ρ = .nx ρ' ∧ P (k + ts.length) ρ'
  | [], ρ, k, h, _ => ⟨ρ, rfl, h⟩
  | t :: r, ρ, k, h, hs => by
    obtain ⟨ρ1, ρ2, h1, h2, h3⟩ := hs 0 t rfl ρ h
    obtain ⟨ρ', h4, h5⟩ := loop_at P (ts := r) (k + 1) h3 (fun i u hu ρ hp => by
      have := hs (i + 1) u hu ρ (by rw [show k + (i + 1) = k + 1 + i by omega]; exact hp)
      rw [show k + (i + 1) + 1 = k + 1 + i + 1 by omega] at this
      exact this)
    exact ⟨ρ', by simp only [loopF, h1, h2, h4], by rw [List.length_cons, show k + (r.length + 1) = k + 1 + r.length by omega]; exact h5⟩
/-- a comprehension whose element is a function of the item; the slots stay -/
theorem comp_map {s : T → Rho → Option Rho} {el : EF} {vs : List Nat} {f : T → T} {ρ : Rho} : ∀ {ts : List T}, (∀ t ∈ ts, ∃ ρ1 ρ3, s t ρ = some ρ1 ∧ opened el ρ1 = some (f t, ρ3) ∧ wipeR ρ3 vs = ρ) → compF s bYes el vs ts ρ = some (ts.map f, ρ)
  | [], _ => rfl
  | t :: r, h => by
    obtain ⟨ρ1, ρ3, h1, h2, h3⟩ := h t (by simp)
    have ih := comp_map (ts := r) (fun u hu => h u (by simp [hu]))
    simp only [compF, h1, bYes, Option.bind_some, if_true, h2, h3, ih, List.map_cons]
/-- .. with a test -/
theorem comp_filter {s : T → Rho → Option Rho} {bt : BF} {el : EF} {vs : List Nat} {p : T → Bool} {f : T → T} {ρ : Rho} : ∀ {ts : List T}, (∀ t ∈ ts, ∃ ρ1 ρ2, s t ρ = some ρ1 ∧ bt ρ1 = some (p t, ρ2) ∧ (p t = true → ∃ ρ3, opened el ρ2 = some (f t, ρ3) ∧ wipeR ρ3 vs = ρ) ∧ (p t = false → wipeR ρ2 vs = ρ)) → compF s bt el vs ts ρ = some ((ts.filter p).map f, ρ)
  | [], _ => rfl
  | t :: r, h => by
    obtain ⟨ρ1, ρ2, h1, h2, h3, h4⟩ := h t (by simp)
    have ih := comp_filter (ts := r) (fun u hu => h u (by simp [hu]))
    cases hp : p t with
    | true =>
      obtain ⟨ρ3, h5, h6⟩ := h3 hp
      simp only [compF, h1, h2, Option.bind_some, hp, if_true, h5, h6, ih, List.filter_cons, List.map_cons]
    | false =>
      have h5 := h4 hp
      simp only [compF, h1, h2, Option.bind_some, hp, Bool.false_eq_true, if_false, h5, ih, List.filter_cons]
/-- .. that draws: Q of the items made, P of the slots -/
theorem comp_inv {s : T → Rho → Option Rho} {el : EF} {vs : List Nat} (P : Rho → Prop) (R : T → T → Prop) : ∀ {ts : List T} {ρ : Rho}, P ρ → (∀ t ∈ ts, ∀ ρ, P ρ → ∃ ρ1 u ρ3, s t ρ = some ρ1 ∧ opened el ρ1 = some (u, ρ3) ∧ R t u ∧ P (wipeR ρ3 vs)) → ∃ us ρ', compF s bYes el vs ts ρ = some (us, ρ') ∧ Paired R ts us ∧ P ρ'
  | [], ρ, h, _ => ⟨[], ρ, rfl, .nil, h⟩
  | t :: r, ρ, h, hs => by
    obtain ⟨ρ1, u, ρ3, h1, h2, h3, h4⟩ := hs t (by simp) ρ h
    obtain ⟨us, ρ', h5, h6, h7⟩ := comp_inv P R (ts := r) h4 (fun u hu => hs u (by simp [hu]))
    exact ⟨u :: us, ρ', by simp only [compF, h1, bYes, Option.bind_some, if_true, h2, h5], .cons h3 h6, h7⟩
theorem enum_mem {ts : List T} {t : T} (h : t ∈ enumT ts) : ∃ (i : Nat) (x : T), ts[i]? = some x ∧ t = .tup [.int (i : Nat), x] := by
  unfold enumT at h
  obtain ⟨i, hi, rfl⟩ := List.mem_map.mp h
  have hi := List.mem_range.mp hi
  exact ⟨i, ts[i], List.getElem?_eq_getElem hi, by simp [List.getD_eq_getElem?_getD, List.getElem?_eq_getElem hi]⟩
theorem rng_mem {n : Nat} {t : T} (h : t ∈ rngT 0 n) : ∃ i : Nat, i < n ∧ t = .int (i : Int) := by
  unfold rngT at h
  obtain ⟨i, hi, rfl⟩ := List.mem_map.mp h
  exact ⟨i, List.mem_range.mp hi, by simp⟩
theorem cut_sub {xs : List T} {lo hi : Option Int} {x : T} (h : x ∈ cutT xs lo hi) : x ∈ xs := List.mem_of_mem_drop (List.mem_of_mem_take h)
theorem fPow_i {i j : Int} (h0 : 0 ≤ j) (h1 : j ≤ 1000000) (h2 : i.natAbs < 18446744073709551616) : fPow [.int i, .int j] = some (.val (.int (i ^ j.toNat))) := if_pos ⟨h0, h1, h2⟩
end QT

set_option Elab.async false
set_option linter.all false
set_option maxRecDepth 100000
set_option maxHeartbeats 4000000
/-! Own layer: the mirrors run step by step (printed by mkqv.py). -/
namespace QT
open PySem PySem.Spec PyProof.Rows L2 QB

/-! statements -/
def kSeq : Out → SF → Out
  | .nx ρ1, b => b ρ1
  | o, _ => o
def kIf : Option (Bool × Rho) → SF → SF → Out
  | some (true, ρ1), a, _ => a ρ1
  | some (false, ρ1), _, b => b ρ1
  | none, _, _ => .fail
def kPut : Option Rho → Out
  | some ρ => .nx ρ
  | none => .fail
def kAsg (i : Nat) : Option (Opd × Rho) → Out
  | some (o, ρ1) => kPut (put1 i o ρ1)
  | none => .fail
def kMapS (i : Nat) : Option (T × Rho) → Option Rho
  | some (t, ρ1) => some (ρ1.set i (.val t))
  | none => none
def kShS (i : Nat) (ρ : Rho) : Option Sl → Option (T × Rho)
  | some (.val t) => some (t, ρ)
  | some (.own t) => some (t, ρ.set i (.val t))
  | _ => none
def kAsgT1 (is : List Nat) : Option (T × Rho) → Out
  | some (.tup ts, ρ2) => kPut (QT.putAll is (ts.map fun t => (false, t)) ρ2)
  | _ => .fail
def kAsgT (is : List Nat) : Option (Opd × Rho) → Out
  | some (.ot xs, ρ1) => kPut (QT.putAll is xs ρ1)
  | some (o, ρ1) => kAsgT1 is (share o ρ1)
  | none => .fail
def kPar2 (is : List Nat) : Option (List (Bool × T) × Rho) → Out
  | some (xs, ρ2) => kPut (QT.putAll is xs ρ2)
  | none => .fail
def kPar (is : List Nat) : Option (List Opd × Rho) → Out
  | some (os, ρ1) => kPar2 is (ocm os ρ1)
  | none => .fail
def kRetS (ρ : Rho) : Option Sl → Out
  | some (.val t) => .rt (.val t) ρ
  | some (.own t) => .rt (.own t) ρ
  | _ => .fail
def kRet : Option (Opd × Rho) → Out
  | some (o, ρ1) => ret1 o ρ1
  | none => .fail
def kDrop : Option (Opd × Rho) → Out
  | some (_, ρ1) => .nx ρ1
  | none => .fail
def kFor (s : T → Rho → Option Rho) (b : SF) : Option (List T × Rho) → Out
  | some (ts, ρ1) => loopF s b ts ρ1
  | none => .fail
def kLoop2 (s : T → Rho → Option Rho) (b : SF) (r : List T) : Out → Out
  | .nx ρ2 => loopF s b r ρ2
  | .ct ρ2 => loopF s b r ρ2
  | .bk ρ2 => .nx ρ2
  | o => o
def kLoop (s : T → Rho → Option Rho) (b : SF) (r : List T) : Option Rho → Out
  | some ρ1 => kLoop2 s b r (b ρ1)
  | none => .fail
def kWh2 (c : BF) (b : SF) (n : Nat) : Out → Out
  | .nx ρ2 => whileF c b n ρ2
  | .ct ρ2 => whileF c b n ρ2
  | .bk ρ2 => .nx ρ2
  | o => o
def kWh (c : BF) (b : SF) (n : Nat) : Option (Bool × Rho) → Out
  | none => .fail
  | some (false, ρ1) => .nx ρ1
  | some (true, ρ1) => kWh2 c b n (b ρ1)
def kSF2 (i : Nat) (f : Str) (t : T) (ρ : Rho) (s : Sl) : Option T → Out
  | some (.obj c fs) => if fs.length < 1000 then .nx (ρ.set i (s.with (.obj c (putT f t fs)))) else .fail
  | _ => .fail
def kSF1 (i : Nat) (f : Str) (t : T) (ρ : Rho) : Option Sl → Out
  | some s => kSF2 i f t ρ s s.held
  | none => .fail
def kSF (i : Nat) (f : Str) : Option (T × Rho) → Out
  | some (t, ρ1) => kSF1 i f t ρ1 ρ1[i]?
  | none => .fail
def kSL4 (i : Nat) (t : T) (ρ : Rho) (s : Sl) (xs : List T) : Option Nat → Out
  | some n => .nx (ρ.set i (s.with (.lst (xs.set n t))))
  | none => .fail
def kSL3 (i : Nat) (t : T) (k : Int) (ρ : Rho) (s : Sl) : Option T → Out
  | some (.lst xs) => kSL4 i t ρ s xs (ixN xs.length k)
  | _ => .fail
def kSL2 (i : Nat) (t : T) (k : Int) (ρ : Rho) : Option Sl → Out
  | some s => kSL3 i t k ρ s s.held
  | none => .fail
def kSL1 (i : Nat) (t : T) : Option T → Option (T × Rho) → Out
  | some _, some (.int k, ρ2) => kSL2 i t k ρ2 ρ2[i]?
  | _, _ => .fail
def kSL (i : Nat) (j : EF) : Option (T × Rho) → Out
  | some (t, ρ1) => kSL1 i t (ρ1[i]?.bind Sl.held) (readI j ρ1)
  | none => .fail
/-! values -/
def kT1 (ρ : Rho) : Option T → Option (T × Rho)
  | some t => some (t, ρ)
  | none => none
def kBE1 (ρ : Rho) : Option T → Option (Bool × Rho)
  | some (.bl b) => some (b, ρ)
  | _ => none
def kBE : Option (Opd × Rho) → Option (Bool × Rho)
  | some (o, ρ1) => kBE1 ρ1 (o.tree ρ1)
  | none => none
def kBT2 (ρ : Rho) : Option Bool → Option (Bool × Rho)
  | some b => some (b, ρ)
  | none => none
def kBT1 (ρ : Rho) : Option T → Option (Bool × Rho)
  | some t => kBT2 ρ t.truth
  | none => none
def kBT : Option (Opd × Rho) → Option (Bool × Rho)
  | some (o, ρ1) => kBT1 ρ1 (o.tree ρ1)
  | none => none
def kBAnd (b : BF) : Option (Bool × Rho) → Option (Bool × Rho)
  | some (true, ρ1) => b ρ1
  | some (false, ρ1) => some (false, ρ1)
  | none => none
def kBOr (b : BF) : Option (Bool × Rho) → Option (Bool × Rho)
  | some (true, ρ1) => some (true, ρ1)
  | some (false, ρ1) => b ρ1
  | none => none
def kBNot : Option (Bool × Rho) → Option (Bool × Rho)
  | some (x, ρ1) => some (!x, ρ1)
  | none => none
def kEIf (a b : EF) : Option (Bool × Rho) → Option (Opd × Rho)
  | some (true, ρ1) => a ρ1
  | some (false, ρ1) => b ρ1
  | none => none
def kEAnd (b : EF) : Option (Bool × Rho) → Option (Opd × Rho)
  | some (true, ρ1) => b ρ1
  | some (false, ρ1) => some (.val (.bl false), ρ1)
  | none => none
def kEOr (b : EF) : Option (Bool × Rho) → Option (Opd × Rho)
  | some (true, ρ1) => some (.val (.bl true), ρ1)
  | some (false, ρ1) => b ρ1
  | none => none
def kENot : Option (Bool × Rho) → Option (Opd × Rho)
  | some (x, ρ1) => some (.val (.bl (!x)), ρ1)
  | none => none
def kC2 (o : Opd) : Option (List Opd × Rho) → Option (List Opd × Rho)
  | some (os, ρ2) => some (o :: os, ρ2)
  | none => none
def kC1 (r : AF) : Option (Opd × Rho) → Option (List Opd × Rho)
  | some (o, ρ1) => kC2 o (r ρ1)
  | none => none
def kB2 (ρ : Rho) : Option Opd → Option (Opd × Rho)
  | some o => some (o, ρ)
  | none => none
def kB1 (f : List T → Option Opd) (ρ : Rho) : Option (List T) → Option (Opd × Rho)
  | some ts => kB2 ρ (f ts)
  | none => none
def kB (f : List T → Option Opd) : Option (List Opd × Rho) → Option (Opd × Rho)
  | some (os, ρ1) => kB1 f ρ1 (trees ρ1 os)
  | none => none
def kTr2 (t : T) : Option (List T) → Option (List T)
  | some ts => some (t :: ts)
  | none => none
def kTr1 (ρ : Rho) (r : List Opd) : Option T → Option (List T)
  | some t => kTr2 t (trees ρ r)
  | none => none
def kTree : Option Sl → Option T
  | some (.val t) => some t
  | some (.own t) => some t
  | some (.io t) => some t
  | _ => none
def kSh2 (t : T) : Option (List T × Rho) → Option (List T × Rho)
  | some (ts, ρ2) => some (t :: ts, ρ2)
  | none => none
def kSh1 (r : List Opd) : Option (T × Rho) → Option (List T × Rho)
  | some (t, ρ1) => kSh2 t (shareL r ρ1)
  | none => none
def kOp : Option (Opd × Rho) → Option (T × Rho)
  | some (o, ρ1) => share o ρ1
  | none => none
def kRd : Option (Opd × Rho) → Option (T × Rho)
  | some (o, ρ1) => kT1 ρ1 (o.tree ρ1)
  | none => none
def kTup : Option (List T × Rho) → Option (Opd × Rho)
  | some (ts, ρ2) => if ts.length ≤ sizeLine then some (.val (.tup ts), ρ2) else none
  | none => none
def kTup1 : Option (List Opd × Rho) → Option (Opd × Rho)
  | some (os, ρ1) => kTup (shareL os ρ1)
  | none => none
def kLst : Option (List T × Rho) → Option (Opd × Rho)
  | some (ts, ρ2) => if ts.length ≤ sizeLine then some (.own (.lst ts), ρ2) else none
  | none => none
def kLst1 : Option (List Opd × Rho) → Option (Opd × Rho)
  | some (os, ρ1) => kLst (shareL os ρ1)
  | none => none
def kOT : Option (List (Bool × T) × Rho) → Option (Opd × Rho)
  | some (xs, ρ2) => if xs.length ≤ sizeLine then some (.ot xs, ρ2) else none
  | none => none
def kOT1 : Option (List Opd × Rho) → Option (Opd × Rho)
  | some (os, ρ1) => kOT (ocm os ρ1)
  | none => none
def kOc2 (b : Bool) (t : T) : Option (List (Bool × T) × Rho) → Option (List (Bool × T) × Rho)
  | some (xs, ρ2) => some ((b, t) :: xs, ρ2)
  | none => none
def kOc1 (r : List Opd) : Option (T × Rho) → Option (List (Bool × T) × Rho)
  | some (t, ρ1) => kOc2 false t (ocm r ρ1)
  | none => none
def kSl3 (ρ : Rho) (f : T → Option Int → Option Int → Option Opd) (x y : Option Int) : Option T → Option (Opd × Rho)
  | some t => kB2 ρ (f t x y)
  | none => none
def kSl2 (f : T → Option Int → Option Int → Option Opd) (o : Opd) (x : Option Int) : Option (Option Int × Rho) → Option (Opd × Rho)
  | some (y, ρ3) => kSl3 ρ3 f x y (o.tree ρ3)
  | none => none
def kSl1 (f : T → Option Int → Option Int → Option Opd) (o : Opd) (h : OF) : Option (Option Int × Rho) → Option (Opd × Rho)
  | some (x, ρ2) => kSl2 f o x (h ρ2)
  | none => none
def kSl (f : T → Option Int → Option Int → Option Opd) (l h : OF) : Option (Opd × Rho) → Option (Opd × Rho)
  | some (o, ρ1) => kSl1 f o h (l ρ1)
  | none => none
def kOS1 (ρ : Rho) : Option T → Option (Option Int × Rho)
  | some (.int i) => some (some i, ρ)
  | _ => none
def kOS : Option (Opd × Rho) → Option (Option Int × Rho)
  | some (o, ρ1) => kOS1 ρ1 (o.tree ρ1)
  | none => none
def kCa2 (ρ : Rho) : Option (Opd × List Sl) → Option (Opd × Rho)
  | some (o, _) => some (o, ρ)
  | none => none
def kCa1 (F : FF) : Option (List T × Rho) → Option (Opd × Rho)
  | some (ts, ρ2) => kCa2 ρ2 (F (ts.map Sl.val))
  | none => none
def kCa (F : FF) : Option (List Opd × Rho) → Option (Opd × Rho)
  | some (os, ρ1) => kCa1 F (shareL os ρ1)
  | none => none
def kLe4 (o : Opd) : Option Rho → Option (Opd × Rho)
  | some ρ3 => some (o, ρ3)
  | none => none
def kLe3 (gs : List Ag) (ρ : Rho) : Option (Opd × List Sl) → Option (Opd × Rho)
  | some (o, as') => kLe4 o (backA gs as' ρ)
  | none => none
def kLe2 (F : FF) (gs : List Ag) (ρ : Rho) : Option (List Sl) → Option (Opd × Rho)
  | some as => if (lentA gs).Nodup then kLe3 gs ρ (F as) else none
  | none => none
def kLe1 (F : FF) : Option (List Ag × Rho) → Option (Opd × Rho)
  | some (gs, ρ2) => kLe2 F gs ρ2 (fillA ρ2 gs)
  | none => none
def kLe (F : FF) (fl : List Bool) : Option (List Opd × Rho) → Option (Opd × Rho)
  | some (os, ρ1) => kLe1 F (mkA fl os ρ1)
  | none => none
def kMk2 (ρ : Rho) (o : Opd) : Option Sl → Option (Opd × Rho)
  | some s1 => (match o, s1 with
    | .val .non, Sl.io t' => some (.own t', ρ)
    | _, _ => none)
  | none => none
def kMk1 (ρ : Rho) : Option (Opd × List Sl) → Option (Opd × Rho)
  | some (o, as') => kMk2 ρ o as'[0]?
  | none => none
def kMk0 (c : Nat) (F : FF) (ds : List T) : Option (List T × Rho) → Option (Opd × Rho)
  | some (ts, ρ2) => kMk1 ρ2 (F (Sl.io (.obj c []) :: (ts ++ ds).map Sl.val))
  | none => none
def kMk (c : Nat) (F : FF) (ds : List T) : Option (List Opd × Rho) → Option (Opd × Rho)
  | some (os, ρ1) => kMk0 c F ds (shareL os ρ1)
  | none => none
def kMu4 (i : Nat) (ρ : Rho) (s : Sl) : Option (T × T) → Option (Opd × Rho)
  | some (t', u) => some (.val u, ρ.set i (s.with t'))
  | none => none
def kMu3 (g : T → List T → Option (T × T)) (i : Nat) (ts : List T) (ρ : Rho) (s : Sl) : Option T → Option (Opd × Rho)
  | some t => kMu4 i ρ s (g t ts)
  | none => none
def kMu2 (g : T → List T → Option (T × T)) (i : Nat) (ts : List T) (ρ : Rho) : Option Sl → Option (Opd × Rho)
  | some s => kMu3 g i ts ρ s s.held
  | none => none
def kMu1 (g : T → List T → Option (T × T)) (i : Nat) : Option (List T × Rho) → Option (Opd × Rho)
  | some (ts, ρ2) => kMu2 g i ts ρ2 ρ2[i]?
  | none => none
def kMu0 (g : T → List T → Option (T × T)) (i : Nat) : Option (List Opd × Rho) → Option (Opd × Rho)
  | some (os, ρ1) => kMu1 g i (shareL os ρ1)
  | none => none
def kMuT (T' : String) (g : T → List T → Option (T × T)) (i : Nat) (a : AF) (ρ : Rho) : Option T → Option (Opd × Rho)
  | some t0 => if tyT T' t0 then kMu0 g i (a ρ) else none
  | none => none
def kMu (T' : String) (g : T → List T → Option (T × T)) (i : Nat) (a : AF) (ρ : Rho) : Option Sl → Option (Opd × Rho)
  | some s0 => kMuT T' g i a ρ s0.held
  | none => none
def kLc2 : Option (List T × Rho) → Option (Opd × Rho)
  | some (us, ρ2) => some (.own (.lst us), ρ2)
  | none => none
def kLc (s : T → Rho → Option Rho) (tt : BF) (el : EF) (vs : List Nat) : Option (List T × Rho) → Option (Opd × Rho)
  | some (ts, ρ1) => if ts.length < sizeLine then kLc2 (compF s tt el vs ts (wipeR ρ1 vs)) else none
  | none => none
def kLX2 (i : Nat) (s0 : Sl) : Option (List T × Rho) → Option (Opd × Rho)
  | some (us, ρ2) => some (.own (.lst us), ρ2.set i s0)
  | none => none
def kLX1 (en : Bool) (i : Nat) (s : T → Rho → Option Rho) (tt : BF) (el : EF) (vs : List Nat) (ρ : Rho) (s0 : Sl) : Option T → Option (Opd × Rho)
  | some (.lst ts) => if ts.length < sizeLine then kLX2 i s0 (compF s tt el vs (if en then enumT ts else ts) (wipeR (ρ.set i .no) vs)) else none
  | _ => eLc (if en then iEn (eVar i) else iL (eVar i)) s tt el vs ρ
def kLX (en : Bool) (i : Nat) (s : T → Rho → Option Rho) (tt : BF) (el : EF) (vs : List Nat) (ρ : Rho) : Option Sl → Option (Opd × Rho)
  | some s0 => kLX1 en i s tt el vs ρ s0 s0.held
  | none => none
def kIL : Option (T × Rho) → Option (List T × Rho)
  | some (.lst ts, ρ1) => some (ts, ρ1)
  | _ => none
def kIT : Option (T × Rho) → Option (List T × Rho)
  | some (.tup ts, ρ1) => some (ts, ρ1)
  | _ => none
def kIEn : Option (T × Rho) → Option (List T × Rho)
  | some (.lst ts, ρ1) => some (enumT ts, ρ1)
  | _ => none
def kIR2 (ρ : Rho) : Option (List T) → Option (List T × Rho)
  | some [.int j] => if -(2 ^ 62) ≤ j ∧ j < 2 ^ 62 then some (rngT 0 j.toNat, ρ) else none
  | _ => none
def kIR : Option (List Opd × Rho) → Option (List T × Rho)
  | some (os, ρ1) => kIR2 ρ1 (trees ρ1 os)
  | none => none
def kDy3 (ρ : Rho) (F : Nat → FF) (c : Nat) (fs : List (Str × T)) : Option T → Option (Opd × Rho)
  | none => kCa2 ρ (F c [.val (.obj c fs)])
  | some _ => none
def kDy (m : Str) (F : Nat → FF) : Option (T × Rho) → Option (Opd × Rho)
  | some (.obj c fs, ρ1) => kDy3 ρ1 F c fs (fs.lookup m)
  | _ => none
def kJ3 (es : List EF) (z : Str) (ρ : Rho) (y : Str) : Option (Str × Rho) := if (z ++ y).length ≤ sizeLine then joinF es (z ++ y) ρ else none
def kJ2 (es : List EF) (z : Str) (ρ : Rho) : Option T → Option (Str × Rho)
  | some (.str y) => kJ3 es z ρ y
  | _ => none
def kJ1 (es : List EF) (z : Str) : Option (Opd × Rho) → Option (Str × Rho)
  | some (o, ρ1) => kJ2 es z ρ1 (o.tree ρ1)
  | none => none
def kJs : Option (Str × Rho) → Option (Opd × Rho)
  | some (z, ρ1) => some (.val (.str z), ρ1)
  | none => none
def kJn1 (a : Str) (ρ : Rho) : Option T → Option (Opd × Rho)
  | some t => kB2 ρ (fJoin a t)
  | none => none
def kJn (a : Str) : Option (Opd × Rho) → Option (Opd × Rho)
  | some (o, ρ1) => kJn1 a ρ1 (o.tree ρ1)
  | none => none
def kCo4 (u : T) : Option (List T × Rho) → Option (List T × Rho)
  | some (us, ρ4) => some (u :: us, ρ4)
  | none => none
def kRun : Out → Option (Opd × List Sl)
  | .rt o ρ => some (o, ρ)
  | .nx ρ => some (.val .non, ρ)
  | _ => none
def kVar (i : Nat) (ρ : Rho) : Option Sl → Option (Opd × Rho)
  | some (.val _) => some (.slot i, ρ)
  | some (.own _) => some (.slot i, ρ)
  | some (.io _) => some (.slot i, ρ)
  | _ => none
theorem asgT_aux {is : List Nat} {y : Option (T × Rho)} : (match y with | some (.tup ts, ρ2) => (match QT.putAll is (ts.map fun t => (false, t)) ρ2 with | some ρ3 => Out.nx ρ3 | none => .fail) | _ => Out.fail) = kAsgT1 is y := by
  rcases y with _ | ⟨t, ρ2⟩
  · rfl
  · cases t <;> first | rfl | (dsimp only [kAsgT1]; cases QT.putAll is _ ρ2 <;> rfl)
theorem sSeq_v {a b : SF} {ρ : Rho} : sSeq a b ρ = kSeq (a ρ) b := by unfold sSeq; cases a ρ <;> rfl
theorem sIf_v {c : BF} {a b : SF} {ρ : Rho} : sIf c a b ρ = kIf (c ρ) a b := by unfold sIf; rcases c ρ with _ | ⟨_ | _, _⟩ <;> rfl
theorem sAsg_v {i : Nat} {f : EF} {ρ : Rho} : sAsg i f ρ = kAsg i (f ρ) := by unfold sAsg; rcases f ρ with _ | ⟨o, ρ1⟩; rfl; (show (match put1 i o ρ1 with | some ρ2 => Out.nx ρ2 | none => .fail) = kPut (put1 i o ρ1)); cases put1 i o ρ1 <;> rfl
theorem put1_own {i : Nat} {t : T} {ρ : Rho} : put1 i (.own t) ρ = some (ρ.set i (.own t)) := rfl
theorem put1_val {i : Nat} {t : T} {ρ : Rho} : put1 i (.val t) ρ = some (ρ.set i (.val t)) := rfl
theorem put1_ot {i : Nat} {xs : List (Bool × T)} {ρ : Rho} : put1 i (.ot xs) ρ = some (ρ.set i (.val (.tup (xs.map (·.2))))) := rfl
theorem put1_slot {i j : Nat} {ρ : Rho} : put1 i (.slot j) ρ = kMapS i (kShS j ρ ρ[j]?) := by show (share (.slot j) ρ).map _ = _; unfold share; dsimp only; cases h : ρ[j]? with | none => rfl | some s => cases s <;> rfl
theorem sAsgT_v {is : List Nat} {f : EF} {ρ : Rho} : sAsgT is f ρ = kAsgT is (f ρ) := by unfold sAsgT; rcases f ρ with _ | ⟨o, ρ1⟩; rfl; cases o with | ot xs => (show (match QT.putAll is xs ρ1 with | some ρ3 => Out.nx ρ3 | none => .fail) = kPut (QT.putAll is xs ρ1)); cases QT.putAll is xs ρ1 <;> rfl | val t => exact asgT_aux | own t => exact asgT_aux | slot j => exact asgT_aux
theorem sPar_v {is : List Nat} {a : AF} {ρ : Rho} : sPar is a ρ = kPar is (a ρ) := by unfold sPar; rcases a ρ with _ | ⟨os, ρ1⟩; rfl; (show (match ocm os ρ1 with | some (xs, ρ2) => (match QT.putAll is xs ρ2 with | some ρ3 => Out.nx ρ3 | none => .fail) | none => .fail) = kPar2 is (ocm os ρ1)); rcases ocm os ρ1 with _ | ⟨xs, ρ2⟩; rfl; (show (match QT.putAll is xs ρ2 with | some ρ3 => Out.nx ρ3 | none => .fail) = kPut (QT.putAll is xs ρ2)); cases QT.putAll is xs ρ2 <;> rfl
theorem sRet_v {f : EF} {ρ : Rho} : sRet f ρ = kRet (f ρ) := by unfold sRet; rcases f ρ with _ | ⟨o, ρ1⟩ <;> rfl
theorem ret1_val {t : T} {ρ : Rho} : ret1 (.val t) ρ = .rt (.val t) ρ := rfl
theorem ret1_own {t : T} {ρ : Rho} : ret1 (.own t) ρ = .rt (.own t) ρ := rfl
theorem ret1_ot {xs : List (Bool × T)} {ρ : Rho} : ret1 (.ot xs) ρ = .rt (.ot xs) ρ := rfl
theorem ret1_slot {j : Nat} {ρ : Rho} : ret1 (.slot j) ρ = kRetS ρ ρ[j]? := by unfold ret1; dsimp only; cases h : ρ[j]? with | none => rfl | some s => cases s <;> rfl
theorem sRetN_v {ρ : Rho} : sRetN ρ = .rt (.val .non) ρ := rfl
theorem sDrop_v {f : EF} {ρ : Rho} : sDrop f ρ = kDrop (f ρ) := by unfold sDrop; rcases f ρ with _ | ⟨o, ρ1⟩ <;> rfl
theorem sNext_v {ρ : Rho} : sNext ρ = .nx ρ := rfl
theorem sBreak_v {ρ : Rho} : sBreak ρ = .bk ρ := rfl
theorem sCont_v {ρ : Rho} : sCont ρ = .ct ρ := rfl
theorem sFor_v {it : IF} {s : T → Rho → Option Rho} {b : SF} {ρ : Rho} : sFor it s b ρ = kFor s b (it ρ) := by unfold sFor; rcases it ρ with _ | ⟨o, ρ1⟩ <;> rfl
theorem sWhile_v {n : Rho → Nat} {c : BF} {b : SF} {ρ : Rho} : sWhile n c b ρ = whileF c b (n ρ) ρ := rfl
theorem sSetF_v {i : Nat} {f : Str} {e : EF} {ρ : Rho} : sSetF i f e ρ = kSF i f (opened e ρ) := by unfold sSetF; rcases opened e ρ with _ | ⟨t, ρ1⟩; rfl; dsimp only [kSF, kSF1]; cases h : ρ1[i]? with | none => rfl | some s => (dsimp only [kSF1]; cases h2 : s.held with | none => rfl | some u => cases u <;> rfl)
theorem sSetL_v {i : Nat} {j e : EF} {ρ : Rho} : sSetL i j e ρ = kSL i j (opened e ρ) := by unfold sSetL; rcases opened e ρ with _ | ⟨t, ρ1⟩; rfl; dsimp only [kSL]; cases h0 : ρ1[i]?.bind Sl.held with | none => rfl | some u => (rcases h1 : readI j ρ1 with _ | ⟨k, ρ2⟩; rfl; cases k <;> first | rfl | (dsimp only [kSL1]; cases h : ρ2[i]? with | none => rfl | some s => (dsimp only [kSL2]; cases h2 : s.held with | none => rfl | some u => cases u <;> first | rfl | (dsimp only [kSL3]; cases ixN _ _ <;> rfl))))
theorem bE_v {e : EF} {ρ : Rho} : bE e ρ = kBE (e ρ) := by simp only [bE]; rcases e ρ with _ | ⟨o, ρ1⟩; rfl; (show (o.tree ρ1).bind _ = kBE1 ρ1 (o.tree ρ1)); cases o.tree ρ1 with | none => rfl | some t => cases t <;> rfl
theorem bT_v {e : EF} {ρ : Rho} : bT e ρ = kBT (e ρ) := by simp only [bT]; rcases e ρ with _ | ⟨o, ρ1⟩; rfl; (show (o.tree ρ1).bind _ = kBT1 ρ1 (o.tree ρ1)); cases o.tree ρ1 with | none => rfl | some t => (show t.truth.bind _ = kBT2 ρ1 t.truth); cases t.truth <;> rfl
theorem bAnd_v {a b : BF} {ρ : Rho} : bAnd a b ρ = kBAnd b (a ρ) := by simp only [bAnd]; rcases a ρ with _ | ⟨_ | _, ρ1⟩ <;> rfl
theorem bOr_v {a b : BF} {ρ : Rho} : bOr a b ρ = kBOr b (a ρ) := by simp only [bOr]; rcases a ρ with _ | ⟨_ | _, ρ1⟩ <;> rfl
theorem bNot_v {a : BF} {ρ : Rho} : bNot a ρ = kBNot (a ρ) := by simp only [bNot]; rcases a ρ with _ | ⟨_, ρ1⟩ <;> rfl
theorem bYes_v {ρ : Rho} : bYes ρ = some (true, ρ) := rfl
theorem eIf_v {c : BF} {a b : EF} {ρ : Rho} : eIf c a b ρ = kEIf a b (c ρ) := by simp only [eIf]; rcases c ρ with _ | ⟨_ | _, ρ1⟩ <;> rfl
theorem eAnd_v {a b : EF} {ρ : Rho} : eAnd a b ρ = kEAnd b (bE a ρ) := by simp only [eAnd]; rcases bE a ρ with _ | ⟨_ | _, ρ1⟩ <;> rfl
theorem eOr_v {a b : EF} {ρ : Rho} : eOr a b ρ = kEOr b (bE a ρ) := by simp only [eOr]; rcases bE a ρ with _ | ⟨_ | _, ρ1⟩ <;> rfl
theorem eNot_v {a : EF} {ρ : Rho} : eNot a ρ = kENot (bE a ρ) := by simp only [eNot]; rcases bE a ρ with _ | ⟨_, ρ1⟩ <;> rfl
theorem aN_v {ρ : Rho} : aN ρ = some ([], ρ) := rfl
theorem aC_v {e : EF} {r : AF} {ρ : Rho} : aC e r ρ = kC1 r (e ρ) := by simp only [aC]; rcases e ρ with _ | ⟨o, ρ1⟩; rfl; (show (r ρ1).bind _ = kC2 o (r ρ1)); rcases r ρ1 with _ | ⟨os, ρ2⟩ <;> rfl
theorem eB_v {f : List T → Option Opd} {a : AF} {ρ : Rho} : eB f a ρ = kB f (a ρ) := by simp only [eB]; rcases a ρ with _ | ⟨os, ρ1⟩; rfl; (show (trees ρ1 os).bind _ = kB1 f ρ1 (trees ρ1 os)); cases trees ρ1 os with | none => rfl | some ts => (show (f ts).bind _ = kB2 ρ1 (f ts)); cases f ts <;> rfl
theorem e1_v {f : List T → Option Opd} {a : EF} {ρ : Rho} : e1 f a ρ = eB f (aC a aN) ρ := rfl
theorem e2_v {f : List T → Option Opd} {a b : EF} {ρ : Rho} : e2 f a b ρ = eB f (aC a (aC b aN)) ρ := rfl
theorem eVar_v {i : Nat} {ρ : Rho} : eVar i ρ = kVar i ρ ρ[i]? := by unfold eVar kVar; cases h : ρ[i]? with | none => rfl | some s => cases s <;> rfl
theorem eC_v {t : T} {ρ : Rho} : eC t ρ = some (.val t, ρ) := rfl
theorem trees_nil {ρ : Rho} : trees ρ [] = some [] := rfl
theorem trees_cons {ρ : Rho} {o : Opd} {r : List Opd} : trees ρ (o :: r) = kTr1 ρ r (o.tree ρ) := by simp only [trees]; cases o.tree ρ with | none => rfl | some t => (show (trees ρ r).bind _ = kTr2 t (trees ρ r)); cases trees ρ r <;> rfl
theorem tree_val {ρ : Rho} {t : T} : (Opd.val t).tree ρ = some t := rfl
theorem tree_own {ρ : Rho} {t : T} : (Opd.own t).tree ρ = some t := rfl
theorem tree_ot {ρ : Rho} {xs : List (Bool × T)} : (Opd.ot xs).tree ρ = some (.tup (xs.map (·.2))) := rfl
theorem tree_slot {ρ : Rho} {i : Nat} : (Opd.slot i).tree ρ = kTree ρ[i]? := by unfold Opd.tree; dsimp only; cases h : ρ[i]? with | none => rfl | some s => cases s <;> rfl
theorem share_val {ρ : Rho} {t : T} : share (.val t) ρ = some (t, ρ) := rfl
theorem share_own {ρ : Rho} {t : T} : share (.own t) ρ = some (t, ρ) := rfl
theorem share_ot {ρ : Rho} {xs : List (Bool × T)} : share (.ot xs) ρ = some (.tup (xs.map (·.2)), ρ) := rfl
theorem share_slot {ρ : Rho} {i : Nat} : share (.slot i) ρ = kShS i ρ ρ[i]? := by unfold share; dsimp only; cases h : ρ[i]? with | none => rfl | some s => cases s <;> rfl
theorem shareL_nil {ρ : Rho} : shareL [] ρ = some ([], ρ) := rfl
theorem shareL_cons {ρ : Rho} {o : Opd} {r : List Opd} : shareL (o :: r) ρ = kSh1 r (share o ρ) := by simp only [shareL]; rcases share o ρ with _ | ⟨t, ρ1⟩; rfl; (show (shareL r ρ1).bind _ = kSh2 t (shareL r ρ1)); rcases shareL r ρ1 with _ | ⟨ts, ρ2⟩ <;> rfl
theorem opened_v {e : EF} {ρ : Rho} : opened e ρ = kOp (e ρ) := by simp only [opened]; rcases e ρ with _ | ⟨o, ρ1⟩ <;> rfl
theorem readI_v {e : EF} {ρ : Rho} : readI e ρ = kRd (e ρ) := by unfold readI; rcases e ρ with _ | ⟨o, ρ1⟩; rfl; (show (o.tree ρ1).map _ = kT1 ρ1 (o.tree ρ1)); cases o.tree ρ1 <;> rfl
theorem eTup_v {a : AF} {ρ : Rho} : eTup a ρ = kTup1 (a ρ) := by simp only [eTup]; rcases a ρ with _ | ⟨os, ρ1⟩; rfl; (show (shareL os ρ1).bind _ = kTup (shareL os ρ1)); rcases shareL os ρ1 with _ | ⟨ts, ρ2⟩ <;> rfl
theorem eLst_v {a : AF} {ρ : Rho} : eLst a ρ = kLst1 (a ρ) := by simp only [eLst]; rcases a ρ with _ | ⟨os, ρ1⟩; rfl; (show (shareL os ρ1).bind _ = kLst (shareL os ρ1)); rcases shareL os ρ1 with _ | ⟨ts, ρ2⟩ <;> rfl
theorem eOT_v {a : AF} {ρ : Rho} : eOT a ρ = kOT1 (a ρ) := by simp only [eOT]; rcases a ρ with _ | ⟨os, ρ1⟩; rfl; (show (ocm os ρ1).bind _ = kOT (ocm os ρ1)); rcases ocm os ρ1 with _ | ⟨ts, ρ2⟩ <;> rfl
theorem ocm_nil {ρ : Rho} : ocm [] ρ = some ([], ρ) := rfl
theorem ocm_own {ρ : Rho} {t : T} {r : List Opd} : ocm (.own t :: r) ρ = kOc2 true t (ocm r ρ) := by simp only [ocm]; rcases ocm r ρ with _ | ⟨ts, ρ2⟩ <;> rfl
theorem ocm_val {ρ : Rho} {t : T} {r : List Opd} : ocm (.val t :: r) ρ = kOc1 r (share (.val t) ρ) := by simp only [ocm]; rcases share (.val t) ρ with _ | ⟨t, ρ1⟩; rfl; (show (ocm r ρ1).bind _ = kOc2 false t (ocm r ρ1)); rcases ocm r ρ1 with _ | ⟨ts, ρ2⟩ <;> rfl
theorem ocm_slot {ρ : Rho} {i : Nat} {r : List Opd} : ocm (.slot i :: r) ρ = kOc1 r (share (.slot i) ρ) := by simp only [ocm]; rcases share (.slot i) ρ with _ | ⟨t, ρ1⟩; rfl; (show (ocm r ρ1).bind _ = kOc2 false t (ocm r ρ1)); rcases ocm r ρ1 with _ | ⟨ts, ρ2⟩ <;> rfl
theorem eSl_v {f : T → Option Int → Option Int → Option Opd} {e : EF} {l h : OF} {ρ : Rho} : eSl f e l h ρ = kSl f l h (e ρ) := by simp only [eSl]; rcases e ρ with _ | ⟨o, ρ1⟩; rfl; (show (l ρ1).bind _ = kSl1 f o h (l ρ1)); rcases l ρ1 with _ | ⟨x, ρ2⟩; rfl; (show (h ρ2).bind _ = kSl2 f o x (h ρ2)); rcases h ρ2 with _ | ⟨y, ρ3⟩; rfl; (show (o.tree ρ3).bind _ = kSl3 ρ3 f x y (o.tree ρ3)); cases o.tree ρ3 with | none => rfl | some t => (show (f t x y).bind _ = kB2 ρ3 (f t x y)); cases f t x y <;> rfl
theorem oNo_v {ρ : Rho} : oNo ρ = some (none, ρ) := rfl
theorem oSome_v {e : EF} {ρ : Rho} : oSome e ρ = kOS (e ρ) := by simp only [oSome]; rcases e ρ with _ | ⟨o, ρ1⟩; rfl; (show (o.tree ρ1).bind _ = kOS1 ρ1 (o.tree ρ1)); cases o.tree ρ1 with | none => rfl | some t => cases t <;> rfl
theorem eCall_v {F : FF} {a : AF} {ρ : Rho} : eCall F a ρ = kCa F (a ρ) := by simp only [eCall]; rcases a ρ with _ | ⟨os, ρ1⟩; rfl; (show (shareL os ρ1).bind _ = kCa1 F (shareL os ρ1)); rcases shareL os ρ1 with _ | ⟨ts, ρ2⟩; rfl; (show (F (ts.map Sl.val)).bind _ = kCa2 ρ2 (F (ts.map Sl.val))); rcases F (ts.map Sl.val) with _ | ⟨o, _⟩ <;> rfl
theorem eCallL_v {F : FF} {fl : List Bool} {a : AF} {ρ : Rho} : eCallL F fl a ρ = kLe F fl (a ρ) := by simp only [eCallL]; rcases a ρ with _ | ⟨os, ρ1⟩; rfl; (show (mkA fl os ρ1).bind _ = kLe1 F (mkA fl os ρ1)); rcases mkA fl os ρ1 with _ | ⟨gs, ρ2⟩; rfl; (show (fillA ρ2 gs).bind _ = kLe2 F gs ρ2 (fillA ρ2 gs)); cases fillA ρ2 gs with | none => rfl | some as => (dsimp only [kLe2, Option.bind_some]; split; (show (F as).bind _ = kLe3 gs ρ2 (F as)); rcases F as with _ | ⟨o, as2⟩; rfl; (show (backA gs as2 ρ2).bind _ = kLe4 o (backA gs as2 ρ2)); cases backA gs as2 ρ2 <;> rfl; rfl)
theorem eMake_v {c : Nat} {F : FF} {ds : List T} {a : AF} {ρ : Rho} : eMake c F ds a ρ = kMk c F ds (a ρ) := by simp only [eMake]; rcases a ρ with _ | ⟨os, ρ1⟩; rfl; (show (shareL os ρ1).bind _ = kMk0 c F ds (shareL os ρ1)); rcases shareL os ρ1 with _ | ⟨ts, ρ2⟩; rfl; (show (F (Sl.io (.obj c []) :: (ts ++ ds).map Sl.val)).bind _ = kMk1 ρ2 (F (Sl.io (.obj c []) :: (ts ++ ds).map Sl.val))); rcases F (Sl.io (.obj c []) :: (ts ++ ds).map Sl.val) with _ | ⟨o, as2⟩; rfl; (show (as2[0]?).bind _ = kMk2 ρ2 o as2[0]?); cases as2[0]? <;> rfl
theorem eMut_v {T' : String} {g : T → List T → Option (T × T)} {i : Nat} {a : AF} {ρ : Rho} : eMut T' g i a ρ = kMu T' g i a ρ ρ[i]? := by
  simp only [eMut]
  cases ρ[i]? with
  | none => rfl
  | some s0 =>
    show s0.held.bind _ = kMuT T' g i a ρ s0.held
    cases s0.held with
    | none => rfl
    | some t0 =>
      dsimp only [kMuT, Option.bind_some]
      split
      · show (a ρ).bind _ = kMu0 g i (a ρ)
        rcases a ρ with _ | ⟨os, ρ1⟩
        · rfl
        · show (shareL os ρ1).bind _ = kMu1 g i (shareL os ρ1)
          rcases shareL os ρ1 with _ | ⟨ts, ρ2⟩
          · rfl
          · show (ρ2[i]?).bind _ = kMu2 g i ts ρ2 ρ2[i]?
            cases ρ2[i]? with
            | none => rfl
            | some s =>
              show s.held.bind _ = kMu3 g i ts ρ2 s s.held
              cases s.held with
              | none => rfl
              | some t =>
                show (g t ts).bind _ = kMu4 i ρ2 s (g t ts)
                rcases g t ts with _ | ⟨t', u⟩ <;> rfl
      · rfl
theorem eLc_v {it : IF} {s : T → Rho → Option Rho} {tt : BF} {el : EF} {vs : List Nat} {ρ : Rho} : eLc it s tt el vs ρ = kLc s tt el vs (it ρ) := by simp only [eLc]; rcases it ρ with _ | ⟨ts, ρ1⟩; rfl; dsimp only [kLc, Option.bind_eq_bind, Option.bind_some]; split; (show (compF s tt el vs ts (wipeR ρ1 vs)).bind _ = kLc2 (compF s tt el vs ts (wipeR ρ1 vs))); rcases compF s tt el vs ts (wipeR ρ1 vs) with _ | ⟨us, ρ2⟩ <;> rfl; rfl
theorem eLcX_v {en : Bool} {i : Nat} {s : T → Rho → Option Rho} {tt : BF} {el : EF} {vs : List Nat} {ρ : Rho} : eLcX en i s tt el vs ρ = kLX en i s tt el vs ρ ρ[i]? := by
  unfold eLcX
  cases ρ[i]? with
  | none => rfl
  | some s0 =>
    dsimp only [kLX]
    cases s0.held with
    | none => rfl
    | some u =>
      cases u <;> try rfl
      rename_i ts
      dsimp only [kLX1]
      split
      · rcases compF s tt el vs (if en then enumT ts else ts) (wipeR (ρ.set i .no) vs) with _ | ⟨us, ρ2⟩ <;> rfl
      · rfl
theorem iL_v {f : EF} {ρ : Rho} : iL f ρ = kIL (opened f ρ) := by simp only [iL]; rcases opened f ρ with _ | ⟨t, ρ1⟩; rfl; cases t <;> rfl
theorem iT_v {f : EF} {ρ : Rho} : iT f ρ = kIT (opened f ρ) := by simp only [iT]; rcases opened f ρ with _ | ⟨t, ρ1⟩; rfl; cases t <;> rfl
theorem iEn_v {f : EF} {ρ : Rho} : iEn f ρ = kIEn (opened f ρ) := by simp only [iEn]; rcases opened f ρ with _ | ⟨t, ρ1⟩; rfl; cases t <;> rfl
theorem iR1_v {a : AF} {ρ : Rho} : iR1 a ρ = kIR (a ρ) := by simp only [iR1]; rcases a ρ with _ | ⟨os, ρ1⟩; rfl; (show (trees ρ1 os).bind _ = kIR2 ρ1 (trees ρ1 os)); cases trees ρ1 os with | none => rfl | some ts => (unfold kIR2; dsimp only [Option.bind_some]; split <;> split <;> simp_all)
theorem eDyn_v {m : Str} {F : Nat → FF} {e : EF} {ρ : Rho} : eDyn m F e ρ = kDy m F (opened e ρ) := by
  simp only [eDyn]
  rcases opened e ρ with _ | ⟨t, ρ1⟩
  · rfl
  · cases t <;> try rfl
    rename_i c fs
    dsimp only [kDy, Option.bind_eq_bind, Option.bind_some]
    cases List.lookup m fs with
    | some _ => rfl
    | none =>
      show (F c [.val (.obj c fs)]).bind _ = kCa2 ρ1 (F c [.val (.obj c fs)])
      rcases F c [.val (.obj c fs)] with _ | ⟨o, _⟩ <;> rfl
theorem eJs_v {es : List EF} {ρ : Rho} : eJs es ρ = kJs (joinF es Str.empty ρ) := by unfold eJs; rcases joinF es Str.empty ρ with _ | ⟨z, ρ1⟩ <;> rfl
theorem joinF_nil {z : Str} {ρ : Rho} : joinF [] z ρ = some (z, ρ) := rfl
theorem joinF_cons {e : EF} {es : List EF} {z : Str} {ρ : Rho} : joinF (e :: es) z ρ = kJ1 es z (e ρ) := by simp only [joinF]; rcases e ρ with _ | ⟨o, ρ1⟩; rfl; (show (o.tree ρ1).bind _ = kJ2 es z ρ1 (o.tree ρ1)); cases o.tree ρ1 with | none => rfl | some t => cases t <;> rfl
theorem eFmt_v {e : EF} {ρ : Rho} : eFmt e ρ = eB fFmt (aC e aN) ρ := rfl
theorem eFld_v {f : Str} {e : EF} {ρ : Rho} : eFld f e ρ = eB (fFld f) (aC e aN) ρ := rfl
theorem eJoin_v {a : Str} {e : EF} {ρ : Rho} : eJoin a e ρ = kJn a (e ρ) := by simp only [eJoin]; rcases e ρ with _ | ⟨o, ρ1⟩; rfl; (show (o.tree ρ1).bind _ = kJn1 a ρ1 (o.tree ρ1)); cases o.tree ρ1 with | none => rfl | some t => (show (fJoin a t).bind _ = kB2 ρ1 (fJoin a t)); cases fJoin a t <;> rfl
theorem eDNew_v {ρ : Rho} : eDNew ρ = some (.own (.dct []), ρ) := rfl
theorem runF_v {k n : Nat} {B : SF} {as : List Sl} : runF k n B as = if as.length = k then kRun (B (as ++ List.replicate (n - k) .no)) else none := by unfold runF; split; cases B (as ++ List.replicate (n - k) .no) <;> rfl; rfl
theorem loopF_nil {s : T → Rho → Option Rho} {b : SF} {ρ : Rho} : loopF s b [] ρ = .nx ρ := rfl
theorem fFld_v {f : Str} {c : Nat} {fs : List (Str × T)} : fFld f [.obj c fs] = (fs.lookup f).map .val := rfl
end QT

set_option Elab.async false
set_option linter.all false
set_option maxRecDepth 100000
set_option maxHeartbeats 4000000
/-! The law k16 in plain Lean: blocks, the order of first blocks. -/
namespace Fo
open PySem PySem.Spec PyProof.Rows L2
inductive Kd where
  | tell | first | member | edition
  deriving DecidableEq
inductive Bk where
  | fst (n : Str) (af : List Str) | mem (n : Str)
  deriving DecidableEq
def rdy (taken af : List Str) : Bool := af.all (fun n => decide (n ∈ taken))
def fo : Nat → List (Str × List Str) → List Str → List Str
  | 0, _, t => t
  | k + 1, l, t => match l.findIdx? (fun b => rdy t b.2) with
    | none => t
    | some i => match l[i]? with
      | none => t
      | some b => fo k (l.eraseIdx i) (t ++ [b.1])
def firsts : List Bk → List (Str × List Str)
  | [] => []
  | .fst n af :: r => (n, af) :: firsts r
  | .mem _ :: r => firsts r
def Bk.isFst : Bk → Bool
  | .fst _ _ => true
  | .mem _ => false
theorem ll0 : (Str.ofString "first ").length = 6 := by decide
theorem ll1 : (Str.ofString "routine ").length = 8 := by decide
theorem ll2 : (Str.ofString " at ").length = 4 := by decide
theorem ll3 : (Str.ofString " default").length = 8 := by decide
theorem ll4 : (Str.ofString " after ").length = 7 := by decide
theorem ll5 : (Str.ofString " ").length = 1 := by decide
theorem ll6 : (Str.ofString "abcdefghijklmnopqrstuvwxyz").length = 26 := by decide
theorem ll7 : (Str.ofString "abcdefghijklmnopqrstuvwxyz0123456789").length = 36 := by decide
theorem lle : Str.empty.length = 0 := rfl
theorem itST {A B : Prop} {x : Str} (q : A) : if decide (V.str x = V.str x) = true then A else B := by rw [if_pos (decide_eq_true rfl)]; exact q
theorem itSF {A B : Prop} {x y : Str} (h : x ≠ y) (q : B) : if decide (V.str x = V.str y) = true then A else B := by rw [if_neg (by simp [h])]; exact q
/-! names -/
def Nm (n : Str) : Prop := n.length ≤ 1000 ∧ PyData.strOk n = true
theorem sk_app {a b : Str} (h1 : PyData.strOk a = true) (h2 : PyData.strOk b = true) : PyData.strOk (a ++ b) = true := by
  unfold PyData.strOk at h1 h2 ⊢
  rw [Str.cps_append, Array.all_append, h1, h2]
  rfl
theorem ch {z : Str} {i : Int} (h : PyData.strOk z = true) (h0 : 0 ≤ i) (h1 : i < z.length) : ∃ c, atI z.cps.toList i = some c ∧ PyData.strOk ⟨#[c]⟩ = true := by
  have hl : i.toNat < z.cps.toList.length := by
    have : z.length = z.cps.size := rfl
    rw [Array.length_toList]
    omega
  have hat : atI z.cps.toList i = some z.cps.toList[i.toNat] := by
    unfold atI ixN
    rw [if_pos h0, if_pos (by omega)]
    exact List.getElem?_eq_getElem hl
  refine ⟨z.cps.toList[i.toNat], hat, ?_⟩
  have h2 : ∀ x ∈ z.cps, x < 0x110000 := by
    intro x hx
    have := Array.all_eq_true_iff_forall_mem.mp h x hx
    simpa using this
  have h3 := h2 _ (Array.mem_toList_iff.mp (List.getElem_mem hl))
  simp [PyData.strOk]
  simpa using h3
theorem sk_join {sep : Str} (h : PyData.strOk sep = true) : ∀ {ss : List Str}, (∀ s ∈ ss, PyData.strOk s = true) → PyData.strOk (Str.join sep ss) = true
  | [], _ => (by decide +kernel : PyData.strOk Str.empty = true)
  | [x], hs => hs x List.mem_cons_self
  | x :: y :: r, hs => by
    show PyData.strOk (x ++ sep ++ Str.join sep (y :: r)) = true
    exact sk_app (sk_app (hs x List.mem_cons_self) h) (sk_join h fun s h' => hs s (List.mem_cons_of_mem _ h'))
theorem sum_le {ss : List Str} {k : Nat} (h : ∀ s ∈ ss, s.length ≤ k) : (ss.map (·.length)).sum ≤ ss.length * k := by
  induction ss with
  | nil => simp
  | cons a r ih =>
    simp only [List.map_cons, List.sum_cons, List.length_cons, Nat.succ_mul]
    have h1 := h a List.mem_cons_self
    have h2 := ih fun s hs => h s (List.mem_cons_of_mem _ hs)
    omega
theorem join_nm {ss : List Str} (h : ∀ s ∈ ss, s.length ≤ 1 ∧ PyData.strOk s = true) (hl : ss.length ≤ 20) : (Txt.join (Str.ofString "") ss).length ≤ 20 ∧ PyData.strOk (Txt.join (Str.ofString "") ss) = true := by
  have e : Txt.join (Str.ofString "") ss = Str.join (Str.ofString "") ss := StrLaws.glued_eq_join _ _
  rw [e]
  refine ⟨?_, sk_join (by decide +kernel) fun s hs => (h s hs).2⟩
  have h1 := StrLaws.join_length_le (Str.ofString "") ss
  have h2 := sum_le (k := 1) fun s hs => (h s hs).1
  have h3 : (Str.ofString "").length = 0 := by decide
  rw [h3] at h1
  omega
def onS (g : Str → Str) : V → Option V := fun x => match x with | .str o => some (.str (g o)) | _ => none
theorem fm_str (g : Str → Str) : ∀ os : List Str, (os.map V.str).filterMap (onS g) = (os.map g).map V.str
  | [] => rfl
  | a :: r => by
    show V.str (g a) :: (List.filterMap (onS g) (r.map V.str)) = _
    rw [fm_str g r]
    rfl
/-! where they stand -/
section
variable {K : PySem.W.Frag} {A : Kd → Addr} {H H' : Hp}
def BkAt (A : Kd → Addr) (H : Hp) (o : Addr) : Bk → Prop
  | .fst n af => ∃ dx t r, H o = some (.ins (A .first) dx [("name", .str n), ("after", .ref t), ("rows", .ref r)]) ∧ H t = some (.tup (af.map V.str))
  | .mem n => ∃ dx r, H o = some (.ins (A .member) dx [("name", .str n), ("access", .str "open"), ("tag", .int 0), ("is_default", .bl false), ("rows", .ref r)])
def Bk.kd : Bk → Kd
  | .fst _ _ => .first
  | .mem _ => .member
def Bk.head : Bk → Str
  | .fst n af => if af = [] then "first " ++ n else "first " ++ n ++ " after " ++ Txt.join " " af
  | .mem n => "routine " ++ n ++ " " ++ "open"
def Bk.ok : Bk → Prop
  | .fst n af => Nm n ∧ af.length ≤ 3 ∧ ∀ a ∈ af, Nm a
  | .mem n => Nm n
theorem BkAt.mono {o : Addr} {b : Bk} (s : Same H H') (h : BkAt A H o b) : BkAt A H' o b := by
  cases b with
  | fst n af => obtain ⟨dx, t, r, h1, h2⟩ := h; exact ⟨dx, t, r, s _ _ h1, s _ _ h2⟩
  | mem n => obtain ⟨dx, r, h1⟩ := h; exact ⟨dx, r, s _ _ h1⟩
theorem bks_mono (s : Same H H') : ∀ {os : List Addr} {bs : List Bk}, Paired (BkAt A H) os bs → Paired (BkAt A H') os bs
  | _, _, .nil => .nil
  | _, _, .cons a b => .cons (a.mono s) (bks_mono s b)
theorem BkAt.fr {o x : Addr} {b : Bk} {C dx : Addr} (ho : H o = some (.ins C dx [])) (f : QB.Fr o H H') (h : BkAt A H x b) : BkAt A H' x b := by
  have ne : ∀ {y : Addr} {u : HO}, H y = some u → (∀ C' dx', u ≠ .ins C' dx' []) → H' y = some u := fun {y u} e n => f y u (fun e2 => by subst e2; rw [ho] at e; cases e; exact n _ _ rfl) e
  cases b with
  | fst n af => obtain ⟨dx, t, r, h1, h2⟩ := h; exact ⟨dx, t, r, ne h1 (by simp), ne h2 (by simp)⟩
  | mem n => obtain ⟨dx, r, h1⟩ := h; exact ⟨dx, r, ne h1 (by simp)⟩
theorem BkAt.ins {o : Addr} {b : Bk} (h : BkAt A H o b) : ∃ dx fs, H o = some (.ins (A b.kd) dx fs) ∧ fs.lookup ("head" : Str) = none := by
  cases b with
  | fst n af => obtain ⟨dx, t, r, h1, h2⟩ := h; exact ⟨dx, _, h1, rfl⟩
  | mem n => obtain ⟨dx, r, h1⟩ := h; exact ⟨dx, _, h1, rfl⟩
/-- the addresses of the blocks that p takes -/
def pickP (p : Bk → Bool) : List Addr → List Bk → List Addr
  | o :: os, b :: bs => if p b then o :: pickP p os bs else pickP p os bs
  | _, _ => []
abbrev pick : List Addr → List Bk → List Addr := pickP Bk.isFst
theorem pick_ok {p : Bk → Bool} : ∀ {os : List Addr} {bs : List Bk}, Paired (BkAt A H) os bs → Paired (BkAt A H) (pickP p os bs) (bs.filter p)
  | _, _, .nil => .nil
  | _, _, .cons (a := o) (b := b) a r => by
    unfold pickP
    rw [List.filter_cons]
    by_cases h : p b = true
    · rw [if_pos h, if_pos h]; exact .cons a (pick_ok r)
    · rw [if_neg h, if_neg h]; exact pick_ok r
theorem pick_snoc {p : Bk → Bool} : ∀ (os : List Addr) (bs : List Bk) (o : Addr) (b : Bk), os.length = bs.length → pickP p (os ++ [o]) (bs ++ [b]) = pickP p os bs ++ (if p b then [o] else [])
  | [], [], o, b, _ => by cases h : p b <;> simp [pickP, h]
  | x :: os, y :: bs, o, b, h => by
    have ih := pick_snoc (p := p) os bs o b (by simpa using h)
    show pickP p (x :: (os ++ [o])) (y :: (bs ++ [b])) = _
    unfold pickP
    rw [ih]
    split <;> simp
  | [], _ :: _, _, _, h => by simp at h
  | _ :: _, [], _, _, h => by simp at h
theorem pick_take {p : Bk → Bool} {os : List Addr} {bs : List Bk} {i : Nat} {o : Addr} {b : Bk} (h1 : os[i]? = some o) (h2 : bs[i]? = some b) (hl : os.length = bs.length) : pickP p (os.take (i + 1)) (bs.take (i + 1)) = pickP p (os.take i) (bs.take i) ++ (if p b then [o] else []) := by
  rw [List.take_add_one, List.take_add_one, h1, h2]
  exact pick_snoc _ _ _ _ (by simp [hl])
end
theorem in_strs (x : Str) (ns : List Str) : inV (.str x) (ns.map V.str) = decide (x ∈ ns) := by
  unfold inV
  induction ns with
  | nil => rfl
  | cons y r ih =>
    rw [List.map_cons, List.any_cons, ih]
    have : eqV (.str y) (.str x) = decide (y = x) := by
      simp [eqV]
      by_cases h : y = x <;> simp [h]
    rw [this]
    by_cases h : x = y
    · subst h; simp
    · have h' : ¬ y = x := fun e => h e.symm
      simp [h, h']
theorem flat_strs : ∀ ns : List Str, (ns.map V.str).all flatV = true
  | [] => rfl
  | y :: r => by rw [List.map_cons, List.all_cons, flat_strs r]; rfl
section
variable {K : PySem.W.Frag} {H : Hp} {Q : VK} {p : Addr} {ns : List Str} {x : Str}
theorem inSL (hp : SqL K H p (ns.map V.str)) (h : Q (.bl (decide (x ∈ ns))) H) : rIn K false (.str x) (.ref p) H Q := ⟨p, _, rfl, .inl hp, rfl, flat_strs ns, by rw [in_strs]; exact h⟩
theorem niSL (hp : SqL K H p (ns.map V.str)) (h : Q (.bl (!decide (x ∈ ns))) H) : rIn K true (.str x) (.ref p) H Q := ⟨p, _, rfl, .inl hp, rfl, flat_strs ns, by rw [in_strs]; exact h⟩
theorem inST (hp : SqT K H p (ns.map V.str)) (h : Q (.bl (decide (x ∈ ns))) H) : rIn K false (.str x) (.ref p) H Q := ⟨p, _, rfl, .inr hp, rfl, flat_strs ns, by rw [in_strs]; exact h⟩
theorem niST (hp : SqT K H p (ns.map V.str)) (h : Q (.bl (!decide (x ∈ ns))) H) : rIn K true (.str x) (.ref p) H Q := ⟨p, _, rfl, .inr hp, rfl, flat_strs ns, by rw [in_strs]; exact h⟩
theorem popat {l : Addr} {xs : List V} {i : Int} {k : Nat} {y : V} (hl : H l = some (.lst xs)) (h1 : i = (k : Int)) (h2 : xs[k]? = some y) (hk : k < 2 ^ 62) (h : Q y (upd H l (.lst (xs.eraseIdx k)))) : rPopAt (.ref l) [.int i] H Q := by
  subst h1
  refine ⟨l, xs, k, k, y, rfl, rfl, hl, by omega, by omega, ?_, h2, h⟩
  have : k < xs.length := (List.getElem?_eq_some_iff.mp h2).1
  unfold seqIndex?
  simp
  omega
end
/-! places -/
def idxs {α : Type} (q : α → Bool) : Nat → List α → List Nat
  | _, [] => []
  | k, f :: r => if q f then k :: idxs q (k + 1) r else idxs q (k + 1) r
theorem idxs_snoc {α : Type} (q : α → Bool) : ∀ (l : List α) (k : Nat) (f : α), idxs q k (l ++ [f]) = idxs q k l ++ (if q f then [k + l.length] else [])
  | [], k, f => by simp [idxs]
  | g :: r, k, f => by
    have ih := idxs_snoc q r (k + 1) f
    show (if q g then k :: idxs q (k + 1) (r ++ [f]) else idxs q (k + 1) (r ++ [f])) = _
    rw [ih]
    have e : k + 1 + r.length = k + (g :: r).length := by simp; omega
    rw [e]
    show _ = (if q g then k :: idxs q (k + 1) r else idxs q (k + 1) r) ++ _
    split <;> simp
theorem idxs_head {α : Type} (q : α → Bool) : ∀ (l : List α) (k : Nat), (idxs q k l).head? = (l.findIdx? q).map (· + k)
  | [], _ => rfl
  | f :: r, k => by
    have ih := idxs_head q r (k + 1)
    rw [List.findIdx?_cons]
    show (if q f then k :: idxs q (k + 1) r else idxs q (k + 1) r).head? = _
    cases h : q f with
    | true => simp
    | false =>
      simp only [Bool.false_eq_true, if_false]
      rw [ih]
      cases List.findIdx? q r with
      | none => rfl
      | some i => simp; omega
theorem fo_none {k : Nat} {l : List (Str × List Str)} {t : List Str} (h : idxs (fun b => rdy t b.2) 0 l = []) : fo k l t = t := by
  cases k with
  | zero => rfl
  | succ k =>
    have e := idxs_head (fun b : Str × List Str => rdy t b.2) l 0
    rw [h] at e
    unfold fo
    cases hf : l.findIdx? (fun b => rdy t b.2) with
    | none => rfl
    | some i => rw [hf] at e; simp at e
theorem fo_some {k : Nat} {l : List (Str × List Str)} {t : List Str} {i : Nat} {r : List Nat} {b : Str × List Str} (h : idxs (fun b => rdy t b.2) 0 l = i :: r) (hb : l[i]? = some b) : fo (k + 1) l t = fo k (l.eraseIdx i) (t ++ [b.1]) := by
  have e := idxs_head (fun b : Str × List Str => rdy t b.2) l 0
  rw [h] at e
  cases hf : l.findIdx? (fun b => rdy t b.2) with
  | none => rw [hf] at e; simp at e
  | some j =>
    rw [hf] at e
    simp at e
    subst e
    show (match l.findIdx? (fun b => rdy t b.2) with
      | none => t
      | some i => match l[i]? with
        | none => t
        | some b => fo k (l.eraseIdx i) (t ++ [b.1])) = _
    rw [hf]
    simp only [hb]
theorem idxs_lt {α : Type} (q : α → Bool) : ∀ (l : List α) (k i : Nat), i ∈ idxs q k l → k ≤ i ∧ i < k + l.length
  | [], _, _, h => by simp [idxs] at h
  | f :: r, k, i, h => by
    have ih := idxs_lt q r (k + 1) i
    have h' : i ∈ (if q f then k :: idxs q (k + 1) r else idxs q (k + 1) r) := h
    simp only [List.length_cons]
    split at h'
    · rcases List.mem_cons.mp h' with e | e
      · omega
      · have := ih e; omega
    · have := ih h'; omega
theorem firsts_fil : ∀ bs : List Bk, bs.filter Bk.isFst = (firsts bs).map fun f => Bk.fst f.1 f.2
  | [] => rfl
  | .fst n af :: r => by
    show Bk.fst n af :: r.filter Bk.isFst = _
    rw [firsts_fil r]
    rfl
  | .mem n :: r => firsts_fil r
theorem paired_map {α β γ : Type} {R : α → β → Prop} {g : γ → β} : ∀ {xs : List α} {ys : List γ}, Paired R xs (ys.map g) → Paired (fun a c => R a (g c)) xs ys
  | [], [], _ => .nil
  | _ :: _, _ :: _, .cons a b => .cons a (paired_map b)
theorem paired_erase {α β : Type} {R : α → β → Prop} : ∀ {xs : List α} {ys : List β} (i : Nat), Paired R xs ys → Paired R (xs.eraseIdx i) (ys.eraseIdx i)
  | _, _, _, .nil => .nil
  | _, _, 0, .cons a b => b
  | _, _, i + 1, .cons a b => .cons a (paired_erase i b)
theorem er_map {α β : Type} (f : α → β) : ∀ (xs : List α) (i : Nat), (xs.map f).eraseIdx i = (xs.eraseIdx i).map f
  | [], _ => rfl
  | _ :: _, 0 => rfl
  | a :: r, i + 1 => by
    show f a :: (r.map f).eraseIdx i = f a :: (r.eraseIdx i).map f
    rw [er_map f r i]
/-! all but lists are kept -/
section
variable {A : Kd → Addr} {H H' : Hp}
def Kp (H H' : Hp) : Prop := ∀ b u, H b = some u → (∀ xs, u ≠ .lst xs) → H' b = some u
theorem Kp.of (s : Same H H') : Kp H H' := fun b u e _ => s b u e
theorem Kp.trans {H'' : Hp} (h1 : Kp H H') (h2 : Kp H' H'') : Kp H H'' := fun b u e n => h2 b u (h1 b u e n) n
theorem Kp.fr {p : Addr} {xs : List V} (hp : H p = some (.lst xs)) (f : QB.Fr p H H') : Kp H H' := fun b u e n => f b u (fun e2 => by subst e2; rw [hp] at e; cases e; exact n _ rfl) e
theorem Kp.upd {l : Addr} {xs ys : List V} (hl : H l = some (.lst xs)) : Kp H (upd H l (.lst ys)) := fun b u e n => by
  rw [upd_ne (fun e2 => by subst e2; rw [hl] at e; cases e; exact n _ rfl)]
  exact e
theorem BkAt.kp {o : Addr} {b : Bk} (k : Kp H H') (h : BkAt A H o b) : BkAt A H' o b := by
  cases b with
  | fst n af => obtain ⟨dx, t, r, h1, h2⟩ := h; exact ⟨dx, t, r, k _ _ h1 (by simp), k _ _ h2 (by simp)⟩
  | mem n => obtain ⟨dx, r, h1⟩ := h; exact ⟨dx, r, k _ _ h1 (by simp)⟩
theorem bks_kp (k : Kp H H') : ∀ {os : List Addr} {bs : List Bk}, Paired (BkAt A H) os bs → Paired (BkAt A H') os bs
  | _, _, .nil => .nil
  | _, _, .cons a b => .cons (a.kp k) (bks_kp k b)
end
theorem firsts_app : ∀ xs ys : List Bk, firsts (xs ++ ys) = firsts xs ++ firsts ys
  | [], _ => rfl
  | .fst n af :: r, ys => by
    show (n, af) :: firsts (r ++ ys) = (n, af) :: (firsts r ++ firsts ys)
    rw [firsts_app r ys]
  | .mem n :: r, ys => firsts_app r ys
theorem firsts_ins (bs : List Bk) (i : Nat) (n : Str) : firsts (bs.take i ++ [.mem n] ++ bs.drop i) = firsts bs := by
  rw [firsts_app, firsts_app]
  show firsts (bs.take i) ++ [] ++ firsts (bs.drop i) = firsts bs
  rw [List.append_nil, ← firsts_app, List.take_append_drop]
theorem paired_ins {α β : Type} {R : α → β → Prop} : ∀ {xs : List α} {ys : List β} (i : Nat) {x : α} {y : β}, Paired R xs ys → R x y → Paired R (xs.take i ++ [x] ++ xs.drop i) (ys.take i ++ [y] ++ ys.drop i)
  | _, _, i, _, _, .nil, h => by simp; exact .cons h .nil
  | _, _, 0, _, _, .cons a b, h => by simp; exact .cons h (.cons a b)
  | _, _, i + 1, _, _, .cons a b, h => by
    simp only [List.take_succ_cons, List.drop_succ_cons, List.cons_append]
    exact .cons a (paired_ins i b h)
/-! what the law draws -/
theorem fo_one (n : Str) : fo 1 [(n, [])] [] = [n] := by simp [fo, rdy]
theorem fo_two (a b : Str) : fo 2 [(a, []), (b, [])] [] = [a, b] := by
  have h3 : ∀ t, rdy t ([] : List Str) = true := fun _ => rfl
  simp [fo, List.findIdx?_cons, h3]
theorem fo_way1 (a b x : Str) (r : List Str) (h : ∀ y ∈ x :: r, y = b) : fo 2 [(a, x :: r), (b, [])] [] = [b, a] := by
  have h1 : rdy [] (x :: r) = false := by simp [rdy]
  have h2 : rdy [b] (x :: r) = true := by
    unfold rdy
    rw [List.all_eq_true]
    intro y hy
    rw [h y hy]
    simp
  have h3 : rdy [] ([] : List Str) = true := rfl
  simp [fo, List.findIdx?_cons, h1, h2, h3]
theorem fo_way2 (a b : Str) (r : List Str) (h : ∀ y ∈ r, y = a) : fo 2 [(a, []), (b, r)] [] = [a, b] := by
  have h2 : rdy [a] r = true := by
    unfold rdy
    rw [List.all_eq_true]
    intro y hy
    rw [h y hy]
    simp
  have h3 : rdy [] ([] : List Str) = true := rfl
  simp [fo, List.findIdx?_cons, h2, h3]
end Fo

set_option Elab.async false
set_option linter.all false
set_option maxRecDepth 100000
set_option maxHeartbeats 4000000
namespace L16
open PySem PySem.Spec PyProof.Rows L2 QB QT
def sub (c d : Nat) : Bool := (([[true, false, false, false], [false, true, false, false], [false, false, true, false], [false, false, false, true]] : List (List Bool)).getD (min c 3) []).getD (min d 3) false
theorem sub_min {c d : Nat} : sub c d = sub (min c 3) (min d 3) := by unfold sub; rw [Nat.min_eq_left (Nat.min_le_right c 3), Nat.min_eq_left (Nat.min_le_right d 3)]
-- is_ready: slots 0 block, 1 taken, 2 name
def B_is_ready : SF :=
  (sSeq (sFor (iT (eFld "after" (eVar 0))) (pN 2)
  (sIf (bE (e2 (fIn true) (eVar 2) (eVar 1)))
  (sRet (eC (.bl false)))
  sNext))
  (sRet (eC (.bl true))))
def F_is_ready : FF := runF 2 3 B_is_ready
-- Tell.__init__: slots 0 self, 1 value
def B_Tell_init : SF :=
  (sSetF 0 "value" (eVar 1))
def F_Tell_init : FF := runF 2 2 B_Tell_init
-- First.__init__: slots 0 self, 1 name, 2 after, 3 rows
def B_First_init : SF :=
  (sSeq (sSetF 0 "name" (eVar 1))
  (sSeq (sSetF 0 "after" (eB fTupl (aC (eVar 2) aN)))
  (sSetF 0 "rows" (eB fTupl (aC (eVar 3) aN)))))
def F_First_init : FF := runF 4 4 B_First_init
-- First.head: slots 0 self
def B_First_head : SF :=
  (sSeq (sIf (bNot (bT (eFld "after" (eVar 0))))
  (sRet (eJs [(eC (.str "first ")), (eFmt (eFld "name" (eVar 0)))]))
  sNext)
  (sRet (eJs [(eC (.str "first ")), (eFmt (eFld "name" (eVar 0))), (eC (.str " after ")), (eFmt (eJoin " " (eFld "after" (eVar 0))))])))
def F_First_head : FF := runF 1 1 B_First_head
-- Member.__init__: slots 0 self, 1 name, 2 access, 3 tag, 4 is_default, 5 rows
def B_Member_init : SF :=
  (sSeq (sSetF 0 "name" (eVar 1))
  (sSeq (sSetF 0 "access" (eVar 2))
  (sSeq (sSetF 0 "tag" (eVar 3))
  (sSeq (sSetF 0 "is_default" (eVar 4))
  (sSetF 0 "rows" (eB fTupl (aC (eVar 5) aN)))))))
def F_Member_init : FF := runF 6 6 B_Member_init
-- Member.head: slots 0 self, 1 line
def B_Member_head : SF :=
  (sSeq (sAsg 1 (eJs [(eC (.str "routine ")), (eFmt (eFld "name" (eVar 0))), (eC (.str " ")), (eFmt (eFld "access" (eVar 0)))]))
  (sSeq (sIf (bE (e2 (fEq true) (eFld "tag" (eVar 0)) (eC (.int 0))))
  (sAsg 1 (eJs [(eFmt (eVar 1)), (eC (.str " at ")), (eFmt (eFld "tag" (eVar 0)))]))
  sNext)
  (sSeq (sIf (bE (eFld "is_default" (eVar 0)))
  (sAsg 1 (eJs [(eFmt (eVar 1)), (eC (.str " default"))]))
  sNext)
  (sRet (eVar 1)))))
def F_Member_head : FF := runF 1 2 B_Member_head
-- _law_bag: slots 0 _law_script, 1 _law_at, 2 _law_cell, 3 _law_mixed, 4 _law_k, 5 _law_each
def B_bag : SF :=
  (sSeq (sAsg 2 (eIf (bE (e2 fLt (eVar 1) (eB fLen (aC (eVar 0) aN)))) (e2 fIxL (eVar 0) (eVar 1)) (eC (.int 0))))
  (sSeq (sAsg 3 (e2 fAdd (e2 fMul (eC (.int 5381)) (eVar 1)) (eC (.int 977))))
  (sSeq (sFor (iEn (eSl fSlL (eVar 0) oNo (oSome (eC (.int 60))))) (pT 2 (pCons (pN 4) (pCons (pN 5) pNil)))
  (sAsg 3 (e2 fMod (eB fInt (aC (e2 fAdd (e2 fAdd (e2 fMul (eVar 3) (eC (.int 40014))) (e2 fMod (eB fInt (aC (eVar 5) aN)) (eC (.int 2147483563)))) (e2 fMul (eC (.int 331)) (eVar 4))) aN)) (eC (.int 2147483399)))))
  (sRet (eLst (aC (eIf (bE (e2 fGe (eB fAbs (aC (eVar 2) aN)) (e2 fPow (eC (.int 10)) (eC (.int 18))))) (eB fAbs (aC (eVar 2) aN)) (eC (.int 0))) (aC (eVar 3) aN)))))))
def F_bag : FF := runF 2 6 B_bag
-- _law_take: slots 0 _law_bag_here, 1 _law_many, 2 _law_digit
def B_take : SF :=
  (sSeq (sIf (bE (e2 fGt (e2 fIxL (eVar 0) (eC (.int 0))) (eC (.int 0))))
  (sSeq (sAsg 2 (e2 fMod (eB fInt (aC (e2 fIxL (eVar 0) (eC (.int 0))) aN)) (eVar 1)))
  (sSeq (sSetL 0 (eC (.int 0)) (e2 fFdiv (e2 fIxL (eVar 0) (eC (.int 0))) (eVar 1)))
  (sRet (eVar 2))))
  sNext)
  (sSeq (sSetL 0 (eC (.int 1)) (e2 fMod (eB fInt (aC (e2 fAdd (e2 fMul (e2 fIxL (eVar 0) (eC (.int 1))) (eC (.int 48271))) (eC (.int 90001))) aN)) (eC (.int 2147483629))))
  (sRet (e2 fMod (e2 fFdiv (e2 fMod (eB fInt (aC (e2 fMul (e2 fFdiv (e2 fIxL (eVar 0) (eC (.int 1))) (eC (.int 11))) (eC (.int 39373))) aN)) (eC (.int 2147483647))) (eC (.int 64))) (eVar 1)))))
def F_take : FF := runF 2 3 B_take
-- first_order: slots 0 edition, 1 taken, 2 left, 3 ready, 4 at, 5 block
def B_first_order : SF :=
  (sSeq (sAsg 1 (eLst aN))
  (sSeq (sAsg 2 (eB fLst (aC (eFld "firsts" (eVar 0)) aN)))
  (sSeq (sWhile (fun _ => 1000) (bT (eVar 2))
  (sSeq (sAsg 3 (eLcX true 2 (pT 2 (pCons (pN 4) (pCons (pN 5) pNil))) (bE (eCallL F_is_ready [false, true] (aC (eVar 5) (aC (eVar 1) aN)))) (eVar 4) [4, 5]))
  (sSeq (sIf (bNot (bT (eVar 3)))
  sBreak
  sNext)
  (sDrop (eMut "list" gAppend 1 (aC (eFld "name" (eMut "list" gPopAt 2 (aC (e2 fIxL (eVar 3) (eC (.int 0))) aN))) aN))))))
  (sRet (eVar 1)))))
def F_first_order : FF := runF 1 6 B_first_order
-- _law_of: slots 0 _law_bag_here, 1 _law_some
def B_of : SF :=
  (sRet (e2 fIxL (eVar 1) (eCallL F_take [true, false] (aC (eVar 0) (aC (eB fLen (aC (eVar 1) aN)) aN)))))
def F_of : FF := runF 2 2 B_of
-- Edition.__init__: slots 0 self, 1 name, 2 numbers, 3 cells, 4 wants, 5 blocks, 6 block
def B_Edition_init : SF :=
  (sSeq (sSetF 0 "name" (eVar 1))
  (sSeq (sSetF 0 "numbers" (eB fDcp (aC (eVar 2) aN)))
  (sSeq (sSetF 0 "cells" (eB fDcp (aC (eVar 3) aN)))
  (sSeq (sSetF 0 "wants" (eB fTupl (aC (eVar 4) aN)))
  (sSeq (sSetF 0 "blocks" (eB fTupl (aC (eVar 5) aN)))
  (sSeq (sSetF 0 "firsts" (eB fTupl (aC (eLc (iT (eVar 5)) (pN 6) (bE (eB (fIsi sub) (aC (eVar 6) (aC (eC (.cls 1)) aN)))) (eVar 6) [6]) aN)))
  (sSetF 0 "members" (eB fTupl (aC (eLc (iT (eVar 5)) (pN 6) (bE (eB (fIsi sub) (aC (eVar 6) (aC (eC (.cls 2)) aN)))) (eVar 6) [6]) aN)))))))))
def F_Edition_init : FF := runF 6 7 B_Edition_init
-- _law_names: slots 0 _law_bag_here, 1 _law_many, 2 _law_letters, 3 _law_signs, 4 _law_stem, 5 _law_k, 6 _law_start, 7 _law_is_behind, 8 _law_some, 9 _law_one
def B_names : SF :=
  (sSeq (sAsgT [2, 3] (eOT (aC (eC (.str "abcdefghijklmnopqrstuvwxyz")) (aC (eC (.str "abcdefghijklmnopqrstuvwxyz0123456789")) aN))))
  (sSeq (sAsg 4 (eJoin "" (eLc (iR1 (aC (eCallL F_of [true, false] (aC (eVar 0) (aC (eLst (aC (eC (.int 0)) (aC (eC (.int 0)) (aC (eC (.int 1)) (aC (eC (.int 2)) (aC (eC (.int 10)) aN)))))) aN))) aN)) (pN 5) bYes (e2 fIxS (eVar 3) (eCallL F_take [true, false] (aC (eVar 0) (aC (eC (.int 36)) aN)))) [5])))
  (sSeq (sAsgT [6, 7] (eOT (aC (eCallL F_take [true, false] (aC (eVar 0) (aC (eC (.int 26)) aN))) (aC (e2 (fEq false) (eCallL F_take [true, false] (aC (eVar 0) (aC (eC (.int 2)) aN))) (eC (.int 0))) aN))))
  (sSeq (sAsg 8 (eLc (iR1 (aC (eVar 1) aN)) (pN 5) bYes (e2 fIxS (eVar 2) (e2 fMod (e2 fAdd (eVar 6) (e2 fMul (eC (.int 7)) (eVar 5))) (eC (.int 26)))) [5]))
  (sRet (eLcX false 8 (pN 9) bYes (eIf (bE (eVar 7)) (e2 fAddS (e2 fAddS (e2 fIxS (eVar 2) (eVar 6)) (eVar 4)) (eVar 9)) (e2 fAddS (eVar 9) (eVar 4))) [9]))))))
def F_names : FF := runF 2 10 B_names
-- _law_blocks: slots 0 _law_bag_here, 1 _law_names_here, 2 _law_many, 3 _law_rows, 4 _law_some, 5 _law_name, 6 _law_way, 7 _law_often, 8 _law_first, 9 _law_k, 10 _law_second
def B_blocks : SF :=
  (sSeq (sAsgT [2, 3] (eOT (aC (eCallL F_take [true, false] (aC (eVar 0) (aC (eC (.int 3)) aN))) (aC (eLst (aC (eMake 0 F_Tell_init [] (aC (eTup (aC (eC (.str "number")) (aC (eC (.int 1)) aN))) aN)) aN)) aN))))
  (sSeq (sAsg 4 (eIf (bE (e2 (fEq false) (eCallL F_take [true, false] (aC (eVar 0) (aC (eC (.int 2)) aN))) (eC (.int 0)))) (eSl fSlL (eVar 1) oNo (oSome (eVar 2))) (e1 fRevL (eSl fSlL (eVar 1) oNo (oSome (eVar 2))))))
  (sSeq (sIf (bE (e2 fLt (eVar 2) (eC (.int 2))))
  (sRet (eOT (aC (eLcX false 4 (pN 5) bYes (eMake 1 F_First_init [] (aC (eVar 5) (aC (eTup aN) (aC (eVar 3) aN)))) [5]) (aC (eVar 4) aN))))
  sNext)
  (sSeq (sPar [6, 7] (aC (eCallL F_take [true, false] (aC (eVar 0) (aC (eC (.int 3)) aN))) (aC (e2 fAdd (eC (.int 1)) (eCallL F_take [true, false] (aC (eVar 0) (aC (eC (.int 3)) aN)))) aN)))
  (sSeq (sAsg 8 (eMake 1 F_First_init [] (aC (e2 fIxL (eVar 4) (eC (.int 0))) (aC (eIf (bE (e2 (fEq false) (eVar 6) (eC (.int 1)))) (eB fTupl (aC (eLc (iR1 (aC (eVar 7) aN)) (pN 9) bYes (e2 fIxL (eVar 4) (eC (.int 1))) [9]) aN)) (eTup aN)) (aC (eVar 3) aN)))))
  (sSeq (sAsg 10 (eMake 1 F_First_init [] (aC (e2 fIxL (eVar 4) (eC (.int 1))) (aC (eIf (bE (e2 (fEq false) (eVar 6) (eC (.int 2)))) (eB fTupl (aC (eLc (iR1 (aC (eVar 7) aN)) (pN 9) bYes (e2 fIxL (eVar 4) (eC (.int 0))) [9]) aN)) (eTup aN)) (aC (eVar 3) aN)))))
  (sRet (eOT (aC (eLst (aC (eVar 8) (aC (eVar 10) aN))) (aC (eIf (bE (e2 (fEq false) (eVar 6) (eC (.int 1)))) (eLst (aC (e2 fIxL (eVar 4) (eC (.int 1))) (aC (e2 fIxL (eVar 4) (eC (.int 0))) aN))) (eVar 4)) aN))))))))))
def F_blocks : FF := runF 2 11 B_blocks
def M_head (c : Nat) : FF := match c with | 1 => F_First_head | 2 => F_Member_head | _ => fun _ => none
theorem M_head_in : ∀ c as r, M_head c as = some r → (c = 1 ∨ c = 2) := fun c as r h => by
  unfold M_head at h
  split at h
  all_goals first | simp_all | (exact nomatch h)
-- law: slots 0 _law_script, 1 _law_at, 2 _law_bag_here, 3 _law_names_here, 4 _law_blocks_here, 5 _law_due, 6 _law_name, 7 _law_place, 8 _law_edition, 9 _law_heads, 10 _law_block, 11 _law_found, 12 _law_empty
def B_law : SF :=
  (sSeq (sFor (iR1 (aC (eB fMax (aC (eC (.int 1)) (aC (eB fMin (aC (eC (.int 6)) (aC (eB fLen (aC (eVar 0) aN)) aN))) aN))) aN)) (pN 1)
  (sSeq (sAsg 2 (eCall F_bag (aC (eVar 0) (aC (eVar 1) aN))))
  (sSeq (sAsg 3 (eCallL F_names [true, false] (aC (eVar 2) (aC (eC (.int 3)) aN))))
  (sSeq (sAsgT [4, 5] (eCallL F_blocks [true, false] (aC (eVar 2) (aC (eVar 3) aN))))
  (sSeq (sFor (iL (eSl fSlL (eVar 3) oNo (oSome (eCallL F_take [true, false] (aC (eVar 2) (aC (eC (.int 4)) aN)))))) (pN 6)
  (sSeq (sAsg 7 (eCallL F_take [true, false] (aC (eVar 2) (aC (e2 fAdd (eB fLen (aC (eVar 4) aN)) (eC (.int 1))) aN))))
  (sDrop (eMut "list" gInsert 4 (aC (eVar 7) (aC (eMake 2 F_Member_init [] (aC (eVar 6) (aC (eC (.str "open")) (aC (eC (.int 0)) (aC (eC (.bl false)) (aC (eLst (aC (eMake 0 F_Tell_init [] (aC (eTup (aC (eC (.str "number")) (aC (eC (.int 2)) aN))) aN)) aN)) aN)))))) aN))))))
  (sSeq (sAsg 8 (eMake 3 F_Edition_init [] (aC (eC (.str "book")) (aC eDNew (aC eDNew (aC (eTup aN) (aC (eB fTupl (aC (eVar 4) aN)) aN)))))))
  (sSeq (sAsg 9 (eLc (iT (eFld "blocks" (eVar 8))) (pN 10) bYes (eDyn "head" M_head (eVar 10)) [10]))
  (sSeq (sAsg 11 (eCall F_first_order (aC (eVar 8) aN)))
  (sSeq (sIf (bOr (bNot (bE (eB (fIsi sub) (aC (eVar 11) (aC (eC (.ty "list")) aN))))) (bE (e2 (fEq true) (eB fRepr (aC (eVar 11) aN)) (eB fRepr (aC (eVar 5) aN)))))
  (sRet (eC (.bl false)))
  sNext)
  (sSeq (sDrop (eMut "list" gAppend 11 (aC (eC (.str "x")) aN)))
  (sSeq (sIf (bOr (bE (e2 (fEq true) (eB fRepr (aC (eCall F_first_order (aC (eVar 8) aN)) aN)) (eB fRepr (aC (eVar 5) aN)))) (bE (e2 (fEqD true) (eLc (iT (eFld "blocks" (eVar 8))) (pN 10) bYes (eDyn "head" M_head (eVar 10)) [10]) (eVar 9))))
  (sRet (eC (.bl false)))
  sNext)
  (sSeq (sAsg 12 (eMake 3 F_Edition_init [] (aC (eC (.str "page")) (aC eDNew (aC eDNew (aC (eTup aN) (aC (eB fTupl (aC (eLcX false 4 (pN 10) (bE (eB (fIsi sub) (aC (eVar 10) (aC (eC (.cls 2)) aN)))) (eVar 10) [10]) aN)) aN)))))))
  (sIf (bOr (bE (e2 (fEqD true) (eCall F_first_order (aC (eVar 12) aN)) (eLst aN))) (bE (e2 (fEq true) (eB fRepr (aC (eCall F_first_order (aC (eVar 8) aN)) aN)) (eB fRepr (aC (eVar 5) aN)))))
  (sRet (eC (.bl false)))
  sNext)))))))))))))
  (sRet (eC (.bl true))))
def F_law : FF := runF 1 13 B_law
end L16

set_option Elab.async false
set_option linter.all false
set_option maxRecDepth 100000
set_option maxHeartbeats 4000000
namespace L16
open PySem PySem.Spec PyProof.Rows L2 QB QT
structure Md (K : PySem.W.Frag) (C : Addr) (m qual : Str) (st : Stmt) (ps : List Str) : Prop where
  ex : ∃ (f : Addr) (fd : FuncData), Cls K C ∧ Meth K C m f ∧ C8.Fun K m qual st f fd ∧ Binds K fd ps []
structure Mi (K : PySem.W.Frag) (mg : Str → Option Value) (x : Str) (C : Addr) (qual : Str) (st : Stmt) (ps : List Str) (dvs : List V) : Prop where
  ex : ∃ (f : Addr) (fd : FuncData) (ds : List Value), Mk K C f ∧ mg x = some (.ref C) ∧ C8.Fun K "__init__" qual st f fd ∧ Binds K fd ps ds ∧ Vals dvs ds
def topS (i : Nat) : Stmt := PySem.Challenge.pw_quietedition_k16_first_blocks.main.body.getD i (.Pass ⟨0, 0, 0, 0⟩)
abbrev s_is_ready : Stmt := topS 2
theorem sc_is_ready : FnScope ["block", "taken", "name"] ["block", "taken"] (C8.fnScope s_is_ready) := C8.fnScope_by (by decide +kernel)
abbrev s_Tell_init : Stmt := inClass (topS 10) 0
theorem sc_Tell_init : FnScope ["self", "value"] ["self", "value"] (C8.fnScope s_Tell_init) := C8.fnScope_by (by decide +kernel)
abbrev s_First_init : Stmt := inClass (topS 67) 0
theorem sc_First_init : FnScope ["self", "name", "after", "rows"] ["self", "name", "after", "rows"] (C8.fnScope s_First_init) := C8.fnScope_by (by decide +kernel)
abbrev s_First_head : Stmt := inClass (topS 67) 2
theorem sc_First_head : FnScope ["self"] ["self"] (C8.fnScope s_First_head) := C8.fnScope_by (by decide +kernel)
abbrev s_Member_init : Stmt := inClass (topS 68) 0
theorem sc_Member_init : FnScope ["self", "name", "access", "tag", "is_default", "rows"] ["self", "name", "access", "tag", "is_default", "rows"] (C8.fnScope s_Member_init) := C8.fnScope_by (by decide +kernel)
abbrev s_Member_head : Stmt := inClass (topS 68) 2
theorem sc_Member_head : FnScope ["self", "line"] ["self"] (C8.fnScope s_Member_head) := C8.fnScope_by (by decide +kernel)
abbrev s_bag : Stmt := topS 73
theorem sc_bag : FnScope ["_law_script", "_law_at", "_law_cell", "_law_mixed", "_law_k", "_law_each"] ["_law_script", "_law_at"] (C8.fnScope s_bag) := C8.fnScope_by (by decide +kernel)
abbrev s_take : Stmt := topS 74
theorem sc_take : FnScope ["_law_bag_here", "_law_many", "_law_digit"] ["_law_bag_here", "_law_many"] (C8.fnScope s_take) := C8.fnScope_by (by decide +kernel)
abbrev s_first_order : Stmt := topS 3
theorem sc_first_order : FnScope ["edition", "taken", "left", "ready", "at", "block"] ["edition"] (C8.fnScope s_first_order) := C8.fnScope_by (by decide +kernel)
abbrev s_of : Stmt := topS 75
theorem sc_of : FnScope ["_law_bag_here", "_law_some"] ["_law_bag_here", "_law_some"] (C8.fnScope s_of) := C8.fnScope_by (by decide +kernel)
abbrev s_Edition_init : Stmt := inClass (topS 69) 0
theorem sc_Edition_init : FnScope ["self", "name", "numbers", "cells", "wants", "blocks", "block"] ["self", "name", "numbers", "cells", "wants", "blocks"] (C8.fnScope s_Edition_init) := C8.fnScope_by (by decide +kernel)
abbrev s_names : Stmt := topS 76
theorem sc_names : FnScope ["_law_bag_here", "_law_many", "_law_letters", "_law_signs", "_law_stem", "_law_k", "_law_start", "_law_is_behind", "_law_some", "_law_one"] ["_law_bag_here", "_law_many"] (C8.fnScope s_names) := C8.fnScope_by (by decide +kernel)
abbrev s_blocks : Stmt := topS 77
theorem sc_blocks : FnScope ["_law_bag_here", "_law_names_here", "_law_many", "_law_rows", "_law_some", "_law_name", "_law_way", "_law_often", "_law_first", "_law_k", "_law_second"] ["_law_bag_here", "_law_names_here"] (C8.fnScope s_blocks) := C8.fnScope_by (by decide +kernel)
abbrev s_law : Stmt := topS 78
theorem sc_law : FnScope ["_law_script", "_law_at", "_law_bag_here", "_law_names_here", "_law_blocks_here", "_law_due", "_law_name", "_law_place", "_law_edition", "_law_heads", "_law_block", "_law_found", "_law_empty"] ["_law_script"] (C8.fnScope s_law) := C8.fnScope_by (by decide +kernel)
structure Top (K : PySem.W.Frag) (mg : Str → Option Value) (A : Nat → Addr) : Prop where
  d_is_ready : Dd K mg "is_ready" s_is_ready ["block", "taken"]
  i_Tell1 : Mi K mg "Tell" (A 0) "Tell.__init__" s_Tell_init ["self", "value"] []
  i_First3 : Mi K mg "First" (A 1) "First.__init__" s_First_init ["self", "name", "after", "rows"] []
  m_First_head : Md K (A 1) "head" "First.head" s_First_head ["self"]
  i_Member5 : Mi K mg "Member" (A 2) "Member.__init__" s_Member_init ["self", "name", "access", "tag", "is_default", "rows"] []
  m_Member_head : Md K (A 2) "head" "Member.head" s_Member_head ["self"]
  d_bag : Dd K mg "_law_bag" s_bag ["_law_script", "_law_at"]
  d_take : Dd K mg "_law_take" s_take ["_law_bag_here", "_law_many"]
  d_first_order : Dd K mg "first_order" s_first_order ["edition"]
  d_of : Dd K mg "_law_of" s_of ["_law_bag_here", "_law_some"]
  i_Edition5 : Mi K mg "Edition" (A 3) "Edition.__init__" s_Edition_init ["self", "name", "numbers", "cells", "wants", "blocks"] []
  d_names : Dd K mg "_law_names" s_names ["_law_bag_here", "_law_many"]
  d_blocks : Dd K mg "_law_blocks" s_blocks ["_law_bag_here", "_law_names_here"]
  d_law : Dd K mg "law" s_law ["_law_script"]
  g_Tell : mg "Tell" = some (.ref (A 0))
  g_First : mg "First" = some (.ref (A 1))
  g_Member : mg "Member" = some (.ref (A 2))
  g_Edition : mg "Edition" = some (.ref (A 3))
  kits : Kits K A sub
  fl : ∀ c (f : Str), f ∈ ([("after" : Str), "firsts", "name", "value", "rows", "access", "tag", "is_default", "numbers", "cells", "wants", "blocks", "members"] : List Str) → Cls K (A c) ∧ NoAttr K (A c) f
  z_abs : mg "abs" = none
  z_dict : mg "dict" = none
  z_enumerate : mg "enumerate" = none
  z_int : mg "int" = none
  z_isinstance : mg "isinstance" = none
  z_len : mg "len" = none
  z_list : mg "list" = none
  z_max : mg "max" = none
  z_min : mg "min" = none
  z_range : mg "range" = none
  z_repr : mg "repr" = none
  z_tuple : mg "tuple" = none
end L16

set_option Elab.async false
set_option linter.all false
set_option maxRecDepth 100000
set_option maxHeartbeats 4000000
namespace L16
open PySem PySem.Spec PyProof.Rows L2 QB QT
section
variable {P : Program} {w : World} {K : PySem.W.Frag} {mg : Str → Option Value} {A : Nat → Addr} {base : Heap}
theorem met_of {m qual : Str} {C : Addr} {st : Stmt} {N ps : List Str} {k : Nat} {sp : Sp} (d : Md K C m qual st ps) (S : FnScope N ps (C8.fnScope st)) (len : ∀ vs H Q E, sp vs H Q E → vs.length = ps.length)
    (hbody : ∀ (f : Addr) (cdv : Value) (A : Around) (outer : List Env) (s : Shared) (H : Hp) (vs : List V) (Q : VK) (E : XK), Room k (A.deeper (envOfC qual (C8.fnScope st) s.heap.objs.size f cdv)) → sp vs H Q E →
      ∃ t, PSs (cxOf CX0 P w K mg base N qual (C8.fnScope st) f cdv A outer s H E).nox (C8.fnBody st) t ∧ t { nx := fun _ H' => Q .non H', rt := Q } (start N vs) H) : C8.Met P w K mg base (k + 1) C m sp [] := by
  obtain ⟨f, fd, hc, hm, F, b⟩ := d.ex
  exact C8.met0 hc hm F b S len (hbody f)
theorem mak_of {x qual : Str} {C : Addr} {st : Stmt} {N ps : List Str} {dvs : List V} {k : Nat} {sp : Sp} (d : Mi K mg x C qual st ps dvs) (S : FnScope N ps (C8.fnScope st)) (len : ∀ vs H Q E, sp vs H Q E → vs.length = ps.length)
    (hbody : ∀ (f : Addr) (cdv : Value) (A : Around) (outer : List Env) (s : Shared) (H : Hp) (vs : List V) (Q : VK) (E : XK), Room k (A.deeper (envOfC qual (C8.fnScope st) s.heap.objs.size f cdv)) → sp vs H Q E →
      ∃ t, PSs (cxOf CX0 P w K mg base N qual (C8.fnScope st) f cdv A outer s H E).nox (C8.fnBody st) t ∧ t { nx := fun _ H' => Q .non H', rt := Q } (start N vs) H) : C8.Mak P w K mg base (k + 1) x C sp dvs := by
  obtain ⟨f, fd, ds, M, hm, F, b, v⟩ := d.ex
  exact C8.mak0 M hm F b v S len (hbody f)
theorem met_mono {m : Str} {C : Addr} {j k : Nat} {sp : Sp} (h : C8.Met P w K mg base j C m sp []) (hk : j ≤ k) : C8.Met P w K mg base k C m sp [] := by
  obtain ⟨f, fd, ps, ds, a, b, c, d, e⟩ := h.ex
  exact ⟨f, fd, ps, ds, a, b, c.mono hk, d, e⟩
theorem ok_is_ready (T : Top K mg A) : C8.Cal P w K mg base 1 "is_ready" (spF K A F_is_ready) [] := by

  refine cal_of T.d_is_ready sc_is_ready (fun _ _ _ _ h => spF_len h) (fun f cdv AA outer s H vs Q E hr h => ⟨_, (pss_cons (ps_for PassesOwn.never rfl (pi_tup (pe_fld (pv 0) rfl)) (pg_name (i := 2) sc_is_ready.nd rfl (Or.inl rfl))
      (pss_one (ps_if (pt_cmpR op_notIn_seq (pv 2) (pv 1) rfl)
      (pss_one (ps_ret pe_bl))
      pss_nil)))
      (pss_one (ps_ret pe_bl))), ?_⟩)
  try dsimp only [cxOf]
  exact fn_run (N := ["block", "taken", "name"]) (k := 2)
      (sv_seq (sv_for (iv_tup (ev_fld ev_var (fun c => T.fl c _ (by decide +kernel)))) gv_name
      (sv_if (tv_test (ev_op ev_var ev_var b_in))
      (sv_ret ev_bl)
      sv_next))
      (sv_ret ev_bl)) h
theorem mk_Tell1 (T : Top K mg A) : C8.Mak P w K mg base 1 "Tell" (A 0) (spF K A F_Tell_init) [] := by

  refine mak_of T.i_Tell1 sc_Tell_init (fun _ _ _ _ h => spF_len h) (fun f cdv AA outer s H vs Q E hr h => ⟨_, (pss_one (ps_fld (pv 0) (pv 1) rfl)), ?_⟩)
  try dsimp only [cxOf]
  exact fn_run (N := ["self", "value"]) (k := 2)
      (sv_fld ev_var (fun c => T.fl c _ (by decide +kernel))) h
theorem mk_First3 (T : Top K mg A) : C8.Mak P w K mg base 1 "First" (A 1) (spF K A F_First_init) [] := by

  refine mak_of T.i_First3 sc_First_init (fun _ _ _ _ h => spF_len h) (fun f cdv AA outer s H vs Q E hr h => ⟨_, (pss_cons (ps_fld (pv 0) (pv 1) rfl)
      (pss_cons (ps_fld (pv 0) (pe_callTy c_tup (by rfl) T.z_tuple (by decide +kernel) (pa_cons (pv 2) pa_nil)) rfl)
      (pss_one (ps_fld (pv 0) (pe_callTy c_tup (by rfl) T.z_tuple (by decide +kernel) (pa_cons (pv 3) pa_nil)) rfl)))), ?_⟩)
  try dsimp only [cxOf]
  exact fn_run (N := ["self", "name", "after", "rows"]) (k := 4)
      (sv_seq (sv_fld ev_var (fun c => T.fl c _ (by decide +kernel)))
      (sv_seq (sv_fld (ev_cb (av_cons ev_var av_nil) b_tupl) (fun c => T.fl c _ (by decide +kernel)))
      (sv_fld (ev_cb (av_cons ev_var av_nil) b_tupl) (fun c => T.fl c _ (by decide +kernel))))) h
theorem ok_First_head (T : Top K mg A) : C8.Met P w K mg base 1 (A 1) "head" (spF K A F_First_head) [] := by

  refine met_of T.m_First_head sc_First_head (fun _ _ _ _ h => spF_len h) (fun f cdv AA outer s H vs Q E hr h => ⟨_, (pss_cons (ps_if (pt_not (pt_tru (pe_fld (pv 0) rfl) (by intro _; rfl)))
      (pss_one (ps_ret (QC.pe_join (PJ.cons pe_str (PJ.cons (pe_fmt (pe_fld (pv 0) rfl)) PJ.nil)))))
      pss_nil)
      (pss_one (ps_ret (QC.pe_join (PJ.cons pe_str (PJ.cons (pe_fmt (pe_fld (pv 0) rfl)) (PJ.cons pe_str (PJ.cons (pe_fmt (QE.pe_strJ pe_str (pe_fld (pv 0) rfl))) PJ.nil)))))))), ?_⟩)
  try dsimp only [cxOf]
  exact fn_run (N := ["self"]) (k := 1)
      (sv_seq (sv_if (tv_not (tv_tru (ev_fld ev_var (fun c => T.fl c _ (by decide +kernel)))))
      (sv_ret (ev_js (JV.cons ev_str (JV.cons (ev_fmt (ev_fld ev_var (fun c => T.fl c _ (by decide +kernel)))) JV.nil))))
      sv_next)
      (sv_ret (ev_js (JV.cons ev_str (JV.cons (ev_fmt (ev_fld ev_var (fun c => T.fl c _ (by decide +kernel)))) (JV.cons ev_str (JV.cons (ev_fmt (ev_strJ (ev_fld ev_var (fun c => T.fl c _ (by decide +kernel))))) JV.nil))))))) h
theorem mk_Member5 (T : Top K mg A) : C8.Mak P w K mg base 1 "Member" (A 2) (spF K A F_Member_init) [] := by

  refine mak_of T.i_Member5 sc_Member_init (fun _ _ _ _ h => spF_len h) (fun f cdv AA outer s H vs Q E hr h => ⟨_, (pss_cons (ps_fld (pv 0) (pv 1) rfl)
      (pss_cons (ps_fld (pv 0) (pv 2) rfl)
      (pss_cons (ps_fld (pv 0) (pv 3) rfl)
      (pss_cons (ps_fld (pv 0) (pv 4) rfl)
      (pss_one (ps_fld (pv 0) (pe_callTy c_tup (by rfl) T.z_tuple (by decide +kernel) (pa_cons (pv 5) pa_nil)) rfl)))))), ?_⟩)
  try dsimp only [cxOf]
  exact fn_run (N := ["self", "name", "access", "tag", "is_default", "rows"]) (k := 6)
      (sv_seq (sv_fld ev_var (fun c => T.fl c _ (by decide +kernel)))
      (sv_seq (sv_fld ev_var (fun c => T.fl c _ (by decide +kernel)))
      (sv_seq (sv_fld ev_var (fun c => T.fl c _ (by decide +kernel)))
      (sv_seq (sv_fld ev_var (fun c => T.fl c _ (by decide +kernel)))
      (sv_fld (ev_cb (av_cons ev_var av_nil) b_tupl) (fun c => T.fl c _ (by decide +kernel))))))) h
theorem ok_Member_head (T : Top K mg A) : C8.Met P w K mg base 1 (A 2) "head" (spF K A F_Member_head) [] := by

  refine met_of T.m_Member_head sc_Member_head (fun _ _ _ _ h => spF_len h) (fun f cdv AA outer s H vs Q E hr h => ⟨_, (pss_cons (ps_set (i := 1) sc_Member_head.nd rfl (Or.inl rfl) (QC.pe_join (PJ.cons pe_str (PJ.cons (pe_fmt (pe_fld (pv 0) rfl)) (PJ.cons pe_str (PJ.cons (pe_fmt (pe_fld (pv 0) rfl)) PJ.nil))))))
      (pss_cons (ps_if (pt_cmpR op_ne (pe_fld (pv 0) rfl) pe_int (nomark _))
      (pss_one (ps_set (i := 1) sc_Member_head.nd rfl (Or.inl rfl) (QC.pe_join (PJ.cons (pe_fmt (pv 1)) (PJ.cons pe_str (PJ.cons (pe_fmt (pe_fld (pv 0) rfl)) PJ.nil))))))
      pss_nil)
      (pss_cons (ps_if (pt_val (pe_fld (pv 0) rfl))
      (pss_one (ps_set (i := 1) sc_Member_head.nd rfl (Or.inl rfl) (QC.pe_join (PJ.cons (pe_fmt (pv 1)) (PJ.cons pe_str PJ.nil)))))
      pss_nil)
      (pss_one (ps_ret (pv 1)))))), ?_⟩)
  try dsimp only [cxOf]
  exact fn_run (N := ["self", "line"]) (k := 1)
      (sv_seq (sv_asg (ev_js (JV.cons ev_str (JV.cons (ev_fmt (ev_fld ev_var (fun c => T.fl c _ (by decide +kernel)))) (JV.cons ev_str (JV.cons (ev_fmt (ev_fld ev_var (fun c => T.fl c _ (by decide +kernel)))) JV.nil))))))
      (sv_seq (sv_if (tv_test (ev_op (ev_fld ev_var (fun c => T.fl c _ (by decide +kernel))) ev_int b_ne))
      (sv_asg (ev_js (JV.cons (ev_fmt ev_var) (JV.cons ev_str (JV.cons (ev_fmt (ev_fld ev_var (fun c => T.fl c _ (by decide +kernel)))) JV.nil)))))
      sv_next)
      (sv_seq (sv_if (tv_b (ev_fld ev_var (fun c => T.fl c _ (by decide +kernel))))
      (sv_asg (ev_js (JV.cons (ev_fmt ev_var) (JV.cons ev_str JV.nil))))
      sv_next)
      (sv_ret ev_var)))) h
theorem ok_bag (T : Top K mg A) : C8.Cal P w K mg base 1 "_law_bag" (spF K A F_bag) [] := by

  refine cal_of T.d_bag sc_bag (fun _ _ _ _ h => spF_len h) (fun f cdv AA outer s H vs Q E hr h => ⟨_, (pss_cons (ps_set (i := 2) sc_bag.nd rfl (Or.inl rfl) (pe_ifExp (pt_cmpR op_lt (pv 1) (pe_callB c_len (by rfl) T.z_len (by decide +kernel) (pa_cons (pv 0) pa_nil)) (nomark _)) (pe_ix ix_list (pv 0) (pv 1) (fun _ _ => rfl)) pe_int))
      (pss_cons (ps_set (i := 3) sc_bag.nd rfl (Or.inl rfl) (pe_op op_add (pe_op op_mul pe_int (pv 1)) pe_int))
      (pss_cons (ps_for PassesOwn.never rfl (pi_enum (by rfl) T.z_enumerate (pa_cons (pe_slice sl_list (pv 0) po_none (po_some pe_int)) pa_nil)) (pg_tup (by rfl) (pgs_cons (pg_name (i := 4) sc_bag.nd rfl (Or.inl rfl)) (pgs_cons (pg_name (i := 5) sc_bag.nd rfl (Or.inl rfl)) pgs_nil)))
      (pss_one (ps_set (i := 3) sc_bag.nd rfl (Or.inl rfl) (pe_op op_mod (pe_callTy c_int (by rfl) T.z_int (by decide +kernel) (pa_cons (pe_op op_add (pe_op op_add (pe_op op_mul (pv 3) pe_int) (pe_op op_mod (pe_callTy c_int (by rfl) T.z_int (by decide +kernel) (pa_cons (pv 5) pa_nil)) pe_int)) (pe_op op_mul pe_int (pv 4))) pa_nil)) pe_int))))
      (pss_one (ps_ret (pe_lst (pa_cons (pe_ifExp (pt_cmpR op_ge (pe_callB c_abs (by rfl) T.z_abs (by decide +kernel) (pa_cons (pv 2) pa_nil)) (pe_op op_pow pe_int pe_int) (nomark _)) (pe_callB c_abs (by rfl) T.z_abs (by decide +kernel) (pa_cons (pv 2) pa_nil)) pe_int) (pa_cons (pv 3) pa_nil)))))))), ?_⟩)
  try dsimp only [cxOf]
  exact fn_run (N := ["_law_script", "_law_at", "_law_cell", "_law_mixed", "_law_k", "_law_each"]) (k := 2)
      (sv_seq (sv_asg (ev_if (tv_test (ev_op ev_var (ev_cb (av_cons ev_var av_nil) b_len) b_lt)) (ev_op ev_var ev_var b_ixL) ev_int))
      (sv_seq (sv_asg (ev_op (ev_op ev_int ev_var b_mul) ev_int b_add))
      (sv_seq (sv_for (iv_enum (ev_sl ev_var ov_no (ov_some ev_int) b_slL)) (gv_tup (gv_cons gv_name (gv_cons gv_name gv_nil)))
      (sv_asg (ev_op (ev_cb (av_cons (ev_op (ev_op (ev_op ev_var ev_int b_mul) (ev_op (ev_cb (av_cons ev_var av_nil) b_int) ev_int b_mod) b_add) (ev_op ev_int ev_var b_mul) b_add) av_nil) b_int) ev_int b_mod)))
      (sv_ret (ev_lst (av_cons (ev_if (tv_test (ev_op (ev_cb (av_cons ev_var av_nil) b_abs) (ev_op ev_int ev_int b_pow) b_ge)) (ev_cb (av_cons ev_var av_nil) b_abs) ev_int) (av_cons ev_var av_nil))))))) h
theorem ok_take (T : Top K mg A) : C8.Cal P w K mg base 1 "_law_take" (spF K A F_take) [] := by

  refine cal_of T.d_take sc_take (fun _ _ _ _ h => spF_len h) (fun f cdv AA outer s H vs Q E hr h => ⟨_, (pss_cons (ps_if (pt_cmpR op_gt (pe_ix ix_list (pv 0) pe_int (fun _ _ => rfl)) pe_int (nomark _))
      (pss_cons (ps_set (i := 2) sc_take.nd rfl (Or.inl rfl) (pe_op op_mod (pe_callTy c_int (by rfl) T.z_int (by decide +kernel) (pa_cons (pe_ix ix_list (pv 0) pe_int (fun _ _ => rfl)) pa_nil)) (pv 1)))
      (pss_cons (ps_asg (pe_op op_fdivW (pe_ix ix_list (pv 0) pe_int (fun _ _ => rfl)) (pv 1)) (pg_sub (pv 0) pe_int set_list))
      (pss_one (ps_ret (pv 2)))))
      pss_nil)
      (pss_cons (ps_asg (pe_op op_mod (pe_callTy c_int (by rfl) T.z_int (by decide +kernel) (pa_cons (pe_op op_add (pe_op op_mul (pe_ix ix_list (pv 0) pe_int (fun _ _ => rfl)) pe_int) pe_int) pa_nil)) pe_int) (pg_sub (pv 0) pe_int set_list))
      (pss_one (ps_ret (pe_op op_mod (pe_op op_fdivW (pe_op op_mod (pe_callTy c_int (by rfl) T.z_int (by decide +kernel) (pa_cons (pe_op op_mul (pe_op op_fdivW (pe_ix ix_list (pv 0) pe_int (fun _ _ => rfl)) pe_int) pe_int) pa_nil)) pe_int) pe_int) (pv 1)))))), ?_⟩)
  try dsimp only [cxOf]
  exact fn_run (N := ["_law_bag_here", "_law_many", "_law_digit"]) (k := 2)
      (sv_seq (sv_if (tv_test (ev_op (ev_op ev_var ev_int b_ixL) ev_int b_gt))
      (sv_seq (sv_asg (ev_op (ev_cb (av_cons (ev_op ev_var ev_int b_ixL) av_nil) b_int) ev_var b_mod))
      (sv_seq (sv_setL (ev_op (ev_op ev_var ev_int b_ixL) ev_var b_fdiv) ev_int)
      (sv_ret ev_var)))
      sv_next)
      (sv_seq (sv_setL (ev_op (ev_cb (av_cons (ev_op (ev_op (ev_op ev_var ev_int b_ixL) ev_int b_mul) ev_int b_add) av_nil) b_int) ev_int b_mod) ev_int)
      (sv_ret (ev_op (ev_op (ev_op (ev_cb (av_cons (ev_op (ev_op (ev_op ev_var ev_int b_ixL) ev_int b_fdiv) ev_int b_mul) av_nil) b_int) ev_int b_mod) ev_int b_fdiv) ev_var b_mod)))) h
theorem ok_first_order (T : Top K mg A) : C8.Cal P w K mg base 2 "first_order" (spF K A F_first_order) [] := by
  have c_is_ready := ok_is_ready (P := P) (w := w) (base := base) T
  refine cal_of T.d_first_order sc_first_order (fun _ _ _ _ h => spF_len h) (fun f cdv AA outer s H vs Q E hr h => ⟨_, (pss_cons (ps_set (i := 1) sc_first_order.nd rfl (Or.inr rfl) (pe_lst pa_nil))
      (pss_cons (ps_set (i := 2) sc_first_order.nd rfl (Or.inl rfl) (pe_callTy c_lst (by rfl) T.z_list (by decide +kernel) (pa_cons (pe_fld (pv 0) rfl) pa_nil)))
      (pss_cons (ps_while PassesOwn.never (pt_tru (pv 2) (by intro _; rfl))
      (pss_cons (ps_setLc (i := 3) (own := [("at", 4), ("block", 5)]) (g := (gTup K 2 (gCons (gName 4) (gCons (gName 5) gNil)))) (by rfl) sc_first_order.nd rfl rfl (sw_true rfl rfl rfl (by decide +kernel)) (pi_enum (by rfl) T.z_enumerate (pa_cons (pv 2) pa_nil)) (blkOk_by (own := [("at", 4), ("block", 5)]) (N := ["edition", "taken", "left", "ready", "at", "block"]) (sc := C8.fnScope s_first_order) (by decide +kernel)) (fun _ _ _ _ _ => (pg_tup (by rfl) (pgs_cons (pg_name (i := 4) sc_first_order.nd rfl (Or.inl rfl)) (pgs_cons (pg_name (i := 5) sc_first_order.nd rfl (Or.inl rfl)) pgs_nil)))) (fun _ _ _ _ _ => (pts_one (pt_val (C8.pe_c c_is_ready hr (by decide) (by rfl) (pa_cons (pv 5) (pa_cons (pv 1) pa_nil)))))) (fun _ _ _ _ _ => (pv 4)))
      (pss_cons (ps_if (pt_not (pt_tru (pv 3) (by intro _; rfl)))
      (pss_one ps_break)
      pss_nil)
      (pss_one (ps_expr (pe_bm PySem.F.plainAttrs_list PySem.F.slot_list_append PySem.F.type_list_append mt_append (pv 1) (pa_cons (pe_fld (pe_bm PySem.F.plainAttrs_list PySem.F.slot_list_pop PySem.F.type_list_pop mt_popAt (pv 2) (pa_cons (pe_ix ix_list (pv 3) pe_int (fun _ _ => rfl)) pa_nil)) rfl) pa_nil)))))))
      (pss_one (ps_ret (pv 1)))))), ?_⟩)
  try dsimp only [cxOf]
  exact fn_run (N := ["edition", "taken", "left", "ready", "at", "block"]) (k := 1)
      (sv_seq (sv_asg (ev_lst av_nil))
      (sv_seq (sv_asg (ev_cb (av_cons (ev_fld ev_var (fun c => T.fl c _ (by decide +kernel))) av_nil) b_lst))
      (sv_seq (sv_while (tv_tru ev_var)
      (sv_seq (sv_asg (ev_lcX rfl (gv_tup (gv_cons gv_name (gv_cons gv_name gv_nil))) (tv_b (ev_callL (av_cons ev_var (av_cons ev_var av_nil)))) ev_var (by decide)))
      (sv_seq (sv_if (tv_not (tv_tru ev_var))
      sv_break
      sv_next)
      (sv_drop (ev_mut (av_cons (ev_fld (ev_mut (av_cons (ev_op ev_var ev_int b_ixL) av_nil) m_popAt) (fun c => T.fl c _ (by decide +kernel))) av_nil) m_append)))))
      (sv_ret ev_var)))) h
theorem ok_of (T : Top K mg A) : C8.Cal P w K mg base 2 "_law_of" (spF K A F_of) [] := by
  have c_take := ok_take (P := P) (w := w) (base := base) T
  refine cal_of T.d_of sc_of (fun _ _ _ _ h => spF_len h) (fun f cdv AA outer s H vs Q E hr h => ⟨_, (pss_one (ps_ret (pe_ix ix_list (pv 1) (C8.pe_c c_take hr (by decide) (by rfl) (pa_cons (pv 0) (pa_cons (pe_callB c_len (by rfl) T.z_len (by decide +kernel) (pa_cons (pv 1) pa_nil)) pa_nil))) (fun _ _ => rfl)))), ?_⟩)
  try dsimp only [cxOf]
  exact fn_run (N := ["_law_bag_here", "_law_some"]) (k := 2)
      (sv_ret (ev_op ev_var (ev_callL (av_cons ev_var (av_cons (ev_cb (av_cons ev_var av_nil) b_len) av_nil))) b_ixL)) h
theorem mk_Edition5 (T : Top K mg A) : C8.Mak P w K mg base 3 "Edition" (A 3) (spF K A F_Edition_init) [] := by
  have mk_First3 := mk_First3 (P := P) (w := w) (base := base) T
  have mk_Member5 := mk_Member5 (P := P) (w := w) (base := base) T
  refine mak_of T.i_Edition5 sc_Edition_init (fun _ _ _ _ h => spF_len h) (fun f cdv AA outer s H vs Q E hr h => ⟨_, (pss_cons (ps_fld (pv 0) (pv 1) rfl)
      (pss_cons (ps_fld (pv 0) (pe_callTy QE.c_dcp (by rfl) T.z_dict (by decide +kernel) (pa_cons (pv 2) pa_nil)) rfl)
      (pss_cons (ps_fld (pv 0) (pe_callTy QE.c_dcp (by rfl) T.z_dict (by decide +kernel) (pa_cons (pv 3) pa_nil)) rfl)
      (pss_cons (ps_fld (pv 0) (pe_callTy c_tup (by rfl) T.z_tuple (by decide +kernel) (pa_cons (pv 4) pa_nil)) rfl)
      (pss_cons (ps_fld (pv 0) (pe_callTy c_tup (by rfl) T.z_tuple (by decide +kernel) (pa_cons (pv 5) pa_nil)) rfl)
      (pss_cons (ps_fld (pv 0) (pe_callTy c_tup (by rfl) T.z_tuple (by decide +kernel) (pa_cons (pe_lc (own := [("block", 6)]) (g := (gName 6)) (by rfl) sc_Edition_init.nd (pi_tup (pv 5)) (blkOk_by (own := [("block", 6)]) (N := ["self", "name", "numbers", "cells", "wants", "blocks", "block"]) (sc := C8.fnScope s_Edition_init) (by decide +kernel)) (fun _ _ _ _ _ => (pg_name (i := 6) sc_Edition_init.nd rfl (Or.inl rfl))) (fun _ _ _ _ _ => (pts_one (pt_val (pe_callB (kcIsi K rfl) (by rfl) T.z_isinstance (by decide +kernel) (pa_cons (pv 6) (pa_cons (pe_glob (v := .ref (A 1)) (by rfl) T.g_First rfl) pa_nil)))))) (fun _ _ _ _ _ => (pv 6))) pa_nil)) rfl)
      (pss_one (ps_fld (pv 0) (pe_callTy c_tup (by rfl) T.z_tuple (by decide +kernel) (pa_cons (pe_lc (own := [("block", 6)]) (g := (gName 6)) (by rfl) sc_Edition_init.nd (pi_tup (pv 5)) (blkOk_by (own := [("block", 6)]) (N := ["self", "name", "numbers", "cells", "wants", "blocks", "block"]) (sc := C8.fnScope s_Edition_init) (by decide +kernel)) (fun _ _ _ _ _ => (pg_name (i := 6) sc_Edition_init.nd rfl (Or.inl rfl))) (fun _ _ _ _ _ => (pts_one (pt_val (pe_callB (kcIsi K rfl) (by rfl) T.z_isinstance (by decide +kernel) (pa_cons (pv 6) (pa_cons (pe_glob (v := .ref (A 2)) (by rfl) T.g_Member rfl) pa_nil)))))) (fun _ _ _ _ _ => (pv 6))) pa_nil)) rfl)))))))), ?_⟩)
  try dsimp only [cxOf]
  exact fn_run (N := ["self", "name", "numbers", "cells", "wants", "blocks", "block"]) (k := 6)
      (sv_seq (sv_fld ev_var (fun c => T.fl c _ (by decide +kernel)))
      (sv_seq (sv_fld (ev_cb (av_cons ev_var av_nil) b_dcp) (fun c => T.fl c _ (by decide +kernel)))
      (sv_seq (sv_fld (ev_cb (av_cons ev_var av_nil) b_dcp) (fun c => T.fl c _ (by decide +kernel)))
      (sv_seq (sv_fld (ev_cb (av_cons ev_var av_nil) b_tupl) (fun c => T.fl c _ (by decide +kernel)))
      (sv_seq (sv_fld (ev_cb (av_cons ev_var av_nil) b_tupl) (fun c => T.fl c _ (by decide +kernel)))
      (sv_seq (sv_fld (ev_cb (av_cons (ev_lc (iv_tup ev_var) gv_name (tv_b (ev_cb (av_cons ev_var (av_cons ev_cls av_nil)) (b_isi T.kits))) ev_var (by decide)) av_nil) b_tupl) (fun c => T.fl c _ (by decide +kernel)))
      (sv_fld (ev_cb (av_cons (ev_lc (iv_tup ev_var) gv_name (tv_b (ev_cb (av_cons ev_var (av_cons ev_cls av_nil)) (b_isi T.kits))) ev_var (by decide)) av_nil) b_tupl) (fun c => T.fl c _ (by decide +kernel))))))))) h
theorem ok_names (T : Top K mg A) : C8.Cal P w K mg base 3 "_law_names" (spF K A F_names) [] := by
  have c_take := ok_take (P := P) (w := w) (base := base) T
  have c_of := ok_of (P := P) (w := w) (base := base) T
  refine cal_of T.d_names sc_names (fun _ _ _ _ h => spF_len h) (fun f cdv AA outer s H vs Q E hr h => ⟨_, (pss_cons (ps_asg (pe_tup (pa_cons pe_str (pa_cons pe_str pa_nil))) (pg_tup (by rfl) (pgs_cons (pg_name (i := 2) sc_names.nd rfl (Or.inr rfl)) (pgs_cons (pg_name (i := 3) sc_names.nd rfl (Or.inr rfl)) pgs_nil))))
      (pss_cons (ps_set (i := 4) sc_names.nd rfl (Or.inr rfl) (QE.pe_strJ pe_str (pe_lc (own := [("_law_k", 5)]) (g := (gName 5)) (tt := tYes) (by rfl) sc_names.nd (pi_range1 (by rfl) T.z_range (pa_cons (C8.pe_c c_of hr (by decide) (by rfl) (pa_cons (pv 0) (pa_cons (pe_lst (pa_cons pe_int (pa_cons pe_int (pa_cons pe_int (pa_cons pe_int (pa_cons pe_int pa_nil)))))) pa_nil))) pa_nil)) (blkOk_by (own := [("_law_k", 5)]) (N := ["_law_bag_here", "_law_many", "_law_letters", "_law_signs", "_law_stem", "_law_k", "_law_start", "_law_is_behind", "_law_some", "_law_one"]) (sc := C8.fnScope s_names) (by decide +kernel)) (fun _ _ _ _ _ => (pg_name (i := 5) sc_names.nd rfl (Or.inl rfl))) (fun _ _ _ _ _ => pts_nil) (fun _ _ _ _ _ => (pe_ix ix_str (pv 3) (C8.pe_c c_take hr (by decide) (by rfl) (pa_cons (pv 0) (pa_cons pe_int pa_nil))) (fun _ _ => rfl))))))
      (pss_cons (ps_asg (pe_tup (pa_cons (C8.pe_c c_take hr (by decide) (by rfl) (pa_cons (pv 0) (pa_cons pe_int pa_nil))) (pa_cons (pe_cmpR op_eq (C8.pe_c c_take hr (by decide) (by rfl) (pa_cons (pv 0) (pa_cons pe_int pa_nil))) pe_int (nomark _)) pa_nil))) (pg_tup (by rfl) (pgs_cons (pg_name (i := 6) sc_names.nd rfl (Or.inr rfl)) (pgs_cons (pg_name (i := 7) sc_names.nd rfl (Or.inr rfl)) pgs_nil))))
      (pss_cons (ps_setLc (i := 8) (own := [("_law_k", 5)]) (g := (gName 5)) (tt := tYes) (by rfl) sc_names.nd rfl rfl (sw_true rfl rfl rfl (by decide +kernel)) (pi_range1 (by rfl) T.z_range (pa_cons (pv 1) pa_nil)) (blkOk_by (own := [("_law_k", 5)]) (N := ["_law_bag_here", "_law_many", "_law_letters", "_law_signs", "_law_stem", "_law_k", "_law_start", "_law_is_behind", "_law_some", "_law_one"]) (sc := C8.fnScope s_names) (by decide +kernel)) (fun _ _ _ _ _ => (pg_name (i := 5) sc_names.nd rfl (Or.inl rfl))) (fun _ _ _ _ _ => pts_nil) (fun _ _ _ _ _ => (pe_ix ix_str (pv 2) (pe_op op_mod (pe_op op_add (pv 6) (pe_op op_mul pe_int (pv 5))) pe_int) (fun _ _ => rfl))))
      (pss_one (ps_ret (pe_lc (own := [("_law_one", 9)]) (g := (gName 9)) (tt := tYes) (by rfl) sc_names.nd (pi_list (pv 8)) (blkOk_by (own := [("_law_one", 9)]) (N := ["_law_bag_here", "_law_many", "_law_letters", "_law_signs", "_law_stem", "_law_k", "_law_start", "_law_is_behind", "_law_some", "_law_one"]) (sc := C8.fnScope s_names) (by decide +kernel)) (fun _ _ _ _ _ => (pg_name (i := 9) sc_names.nd rfl (Or.inl rfl))) (fun _ _ _ _ _ => pts_nil) (fun _ _ _ _ _ => (pe_ifExp (pt_val (pv 7)) (pe_op o_adds (pe_op o_adds (pe_ix ix_str (pv 2) (pv 6) (fun _ _ => rfl)) (pv 4)) (pv 9)) (pe_op o_adds (pv 9) (pv 4))))))))))), ?_⟩)
  try dsimp only [cxOf]
  exact fn_run (N := ["_law_bag_here", "_law_many", "_law_letters", "_law_signs", "_law_stem", "_law_k", "_law_start", "_law_is_behind", "_law_some", "_law_one"]) (k := 2)
      (sv_seq (sv_asgT (is := [2, 3]) (ev_ot (av_cons ev_str (av_cons ev_str av_nil))) rfl)
      (sv_seq (sv_asg (ev_strJ (ev_lc (iv_r1 (av_cons (ev_callL (av_cons ev_var (av_cons (ev_lst (av_cons ev_int (av_cons ev_int (av_cons ev_int (av_cons ev_int (av_cons ev_int av_nil)))))) av_nil))) av_nil)) gv_name tv_yes (ev_op ev_var (ev_callL (av_cons ev_var (av_cons ev_int av_nil))) b_ixS) (by decide))))
      (sv_seq (sv_asgT (is := [6, 7]) (ev_ot (av_cons (ev_callL (av_cons ev_var (av_cons ev_int av_nil))) (av_cons (ev_op (ev_callL (av_cons ev_var (av_cons ev_int av_nil))) ev_int b_eq) av_nil))) rfl)
      (sv_seq (sv_asg (ev_lc (iv_r1 (av_cons ev_var av_nil)) gv_name tv_yes (ev_op ev_var (ev_op (ev_op ev_var (ev_op ev_int ev_var b_mul) b_add) ev_int b_mod) b_ixS) (by decide)))
      (sv_ret (ev_lcX rfl gv_name tv_yes (ev_if (tv_b ev_var) (ev_op (ev_op (ev_op ev_var ev_var b_ixS) ev_var b_addS) ev_var b_addS) (ev_op ev_var ev_var b_addS)) (by decide))))))) h
theorem ok_blocks (T : Top K mg A) : C8.Cal P w K mg base 3 "_law_blocks" (spF K A F_blocks) [] := by
  have mk_Tell1 := mk_Tell1 (P := P) (w := w) (base := base) T
  have mk_First3 := mk_First3 (P := P) (w := w) (base := base) T
  have c_take := ok_take (P := P) (w := w) (base := base) T
  refine cal_of T.d_blocks sc_blocks (fun _ _ _ _ h => spF_len h) (fun f cdv AA outer s H vs Q E hr h => ⟨_, (pss_cons (ps_asg (pe_tup (pa_cons (C8.pe_c c_take hr (by decide) (by rfl) (pa_cons (pv 0) (pa_cons pe_int pa_nil))) (pa_cons (pe_lst (pa_cons (C8.pe_mk mk_Tell1 hr (by decide) (by rfl) (pa_cons (pe_tup (pa_cons pe_str (pa_cons pe_int pa_nil))) pa_nil)) pa_nil)) pa_nil))) (pg_tup (by rfl) (pgs_cons (pg_name (i := 2) sc_blocks.nd rfl (Or.inl rfl)) (pgs_cons (pg_name (i := 3) sc_blocks.nd rfl (Or.inr rfl)) pgs_nil))))
      (pss_cons (ps_set (i := 4) sc_blocks.nd rfl (Or.inr rfl) (pe_ifExp (pt_cmpR op_eq (C8.pe_c c_take hr (by decide) (by rfl) (pa_cons (pv 0) (pa_cons pe_int pa_nil))) pe_int (nomark _)) (pe_slice sl_list (pv 1) po_none (po_some (pv 2))) (pe_revL (pe_slice sl_list (pv 1) po_none (po_some (pv 2))))))
      (pss_cons (ps_if (pt_cmpR op_lt (pv 2) pe_int (nomark _))
      (pss_one (ps_ret (pe_tup (pa_cons (pe_lc (own := [("_law_name", 5)]) (g := (gName 5)) (tt := tYes) (by rfl) sc_blocks.nd (pi_list (pv 4)) (blkOk_by (own := [("_law_name", 5)]) (N := ["_law_bag_here", "_law_names_here", "_law_many", "_law_rows", "_law_some", "_law_name", "_law_way", "_law_often", "_law_first", "_law_k", "_law_second"]) (sc := C8.fnScope s_blocks) (by decide +kernel)) (fun _ _ _ _ _ => (pg_name (i := 5) sc_blocks.nd rfl (Or.inl rfl))) (fun _ _ _ _ _ => pts_nil) (fun _ _ _ _ _ => (C8.pe_mk mk_First3 hr (by decide) (by rfl) (pa_cons (pv 5) (pa_cons (pe_tup pa_nil) (pa_cons (pv 3) pa_nil)))))) (pa_cons (pv 4) pa_nil)))))
      pss_nil)
      (pss_cons (ps_par (i := 6) (j := 7) (by rfl) sc_blocks.nd rfl rfl (by decide) rfl rfl (pa_cons (C8.pe_c c_take hr (by decide) (by rfl) (pa_cons (pv 0) (pa_cons pe_int pa_nil))) (pa_cons (pe_op op_add pe_int (C8.pe_c c_take hr (by decide) (by rfl) (pa_cons (pv 0) (pa_cons pe_int pa_nil)))) pa_nil)) (by rfl))
      (pss_cons (ps_set (i := 8) sc_blocks.nd rfl (Or.inl rfl) (C8.pe_mk mk_First3 hr (by decide) (by rfl) (pa_cons (pe_ix ix_list (pv 4) pe_int (fun _ _ => rfl)) (pa_cons (pe_ifExp (pt_cmpR op_eq (pv 6) pe_int (nomark _)) (pe_callTy c_tup (by rfl) T.z_tuple (by decide +kernel) (pa_cons (pe_lc (own := [("_law_k", 9)]) (g := (gName 9)) (tt := tYes) (by rfl) sc_blocks.nd (pi_range1 (by rfl) T.z_range (pa_cons (pv 7) pa_nil)) (blkOk_by (own := [("_law_k", 9)]) (N := ["_law_bag_here", "_law_names_here", "_law_many", "_law_rows", "_law_some", "_law_name", "_law_way", "_law_often", "_law_first", "_law_k", "_law_second"]) (sc := C8.fnScope s_blocks) (by decide +kernel)) (fun _ _ _ _ _ => (pg_name (i := 9) sc_blocks.nd rfl (Or.inl rfl))) (fun _ _ _ _ _ => pts_nil) (fun _ _ _ _ _ => (pe_ix (kixL K rfl) (pv 4) pe_int (fun _ _ => rfl)))) pa_nil)) (pe_tup pa_nil)) (pa_cons (pv 3) pa_nil)))))
      (pss_cons (ps_set (i := 10) sc_blocks.nd rfl (Or.inl rfl) (C8.pe_mk mk_First3 hr (by decide) (by rfl) (pa_cons (pe_ix ix_list (pv 4) pe_int (fun _ _ => rfl)) (pa_cons (pe_ifExp (pt_cmpR op_eq (pv 6) pe_int (nomark _)) (pe_callTy c_tup (by rfl) T.z_tuple (by decide +kernel) (pa_cons (pe_lc (own := [("_law_k", 9)]) (g := (gName 9)) (tt := tYes) (by rfl) sc_blocks.nd (pi_range1 (by rfl) T.z_range (pa_cons (pv 7) pa_nil)) (blkOk_by (own := [("_law_k", 9)]) (N := ["_law_bag_here", "_law_names_here", "_law_many", "_law_rows", "_law_some", "_law_name", "_law_way", "_law_often", "_law_first", "_law_k", "_law_second"]) (sc := C8.fnScope s_blocks) (by decide +kernel)) (fun _ _ _ _ _ => (pg_name (i := 9) sc_blocks.nd rfl (Or.inl rfl))) (fun _ _ _ _ _ => pts_nil) (fun _ _ _ _ _ => (pe_ix (kixL K rfl) (pv 4) pe_int (fun _ _ => rfl)))) pa_nil)) (pe_tup pa_nil)) (pa_cons (pv 3) pa_nil)))))
      (pss_one (ps_ret (pe_tup (pa_cons (pe_lst (pa_cons (pv 8) (pa_cons (pv 10) pa_nil))) (pa_cons (pe_ifExp (pt_cmpR op_eq (pv 6) pe_int (nomark _)) (pe_lst (pa_cons (pe_ix ix_list (pv 4) pe_int (fun _ _ => rfl)) (pa_cons (pe_ix ix_list (pv 4) pe_int (fun _ _ => rfl)) pa_nil))) (pv 4)) pa_nil))))))))))), ?_⟩)
  try dsimp only [cxOf]
  exact fn_run (N := ["_law_bag_here", "_law_names_here", "_law_many", "_law_rows", "_law_some", "_law_name", "_law_way", "_law_often", "_law_first", "_law_k", "_law_second"]) (k := 2)
      (sv_seq (sv_asgT (is := [2, 3]) (ev_ot (av_cons (ev_callL (av_cons ev_var (av_cons ev_int av_nil))) (av_cons (ev_lst (av_cons (ev_make (av_cons (ev_tup (av_cons ev_str (av_cons ev_int av_nil))) av_nil) (fun _ => .nil)) av_nil)) av_nil))) rfl)
      (sv_seq (sv_asg (ev_if (tv_test (ev_op (ev_callL (av_cons ev_var (av_cons ev_int av_nil))) ev_int b_eq)) (ev_sl ev_var ov_no (ov_some ev_var) b_slL) (ev_revL (ev_sl ev_var ov_no (ov_some ev_var) b_slL))))
      (sv_seq (sv_if (tv_test (ev_op ev_var ev_int b_lt))
      (sv_ret (ev_ot (av_cons (ev_lcX rfl gv_name tv_yes (ev_make (av_cons ev_var (av_cons (ev_tup av_nil) (av_cons ev_var av_nil))) (fun _ => .nil)) (by decide)) (av_cons ev_var av_nil))))
      sv_next)
      (sv_seq (sv_par (av_cons (ev_callL (av_cons ev_var (av_cons ev_int av_nil))) (av_cons (ev_op ev_int (ev_callL (av_cons ev_var (av_cons ev_int av_nil))) b_add) av_nil)))
      (sv_seq (sv_asg (ev_make (av_cons (ev_op ev_var ev_int b_ixL) (av_cons (ev_if (tv_test (ev_op ev_var ev_int b_eq)) (ev_cb (av_cons (ev_lc (iv_r1 (av_cons ev_var av_nil)) gv_name tv_yes (ev_op ev_var ev_int b_ixL) (by decide)) av_nil) b_tupl) (ev_tup av_nil)) (av_cons ev_var av_nil))) (fun _ => .nil)))
      (sv_seq (sv_asg (ev_make (av_cons (ev_op ev_var ev_int b_ixL) (av_cons (ev_if (tv_test (ev_op ev_var ev_int b_eq)) (ev_cb (av_cons (ev_lc (iv_r1 (av_cons ev_var av_nil)) gv_name tv_yes (ev_op ev_var ev_int b_ixL) (by decide)) av_nil) b_tupl) (ev_tup av_nil)) (av_cons ev_var av_nil))) (fun _ => .nil)))
      (sv_ret (ev_ot (av_cons (ev_lst (av_cons ev_var (av_cons ev_var av_nil))) (av_cons (ev_if (tv_test (ev_op ev_var ev_int b_eq)) (ev_lst (av_cons (ev_op ev_var ev_int b_ixL) (av_cons (ev_op ev_var ev_int b_ixL) av_nil))) ev_var) av_nil)))))))))) h
theorem ok_law (T : Top K mg A) {f : Addr} {fd : FuncData} (F : C8.Fun K "law" "law" s_law f fd) : QG.FnG P w K mg base 5 f fd ["_law_script"] (spF K A F_law) := by
  have mk_Tell1 := mk_Tell1 (P := P) (w := w) (base := base) T
  have mk_Member5 := mk_Member5 (P := P) (w := w) (base := base) T
  have c_bag := ok_bag (P := P) (w := w) (base := base) T
  have c_take := ok_take (P := P) (w := w) (base := base) T
  have c_first_order := ok_first_order (P := P) (w := w) (base := base) T
  have mk_Edition5 := mk_Edition5 (P := P) (w := w) (base := base) T
  have c_names := ok_names (P := P) (w := w) (base := base) T
  have c_blocks := ok_blocks (P := P) (w := w) (base := base) T
  have c_head : ∀ i : { c : Nat // c = 1 ∨ c = 2 }, C8.Met P w K mg base 1 (A i.1) "head" (spF K A (M_head i.1)) [] := fun i => by
    obtain ⟨c, h⟩ := i
    rcases h with rfl | rfl
    exact met_mono (ok_First_head T) (by decide)
    exact met_mono (ok_Member_head T) (by decide)
  refine QG.fnG F sc_law (fun _ _ _ _ h => spF_len h) (fun cdv AA outer s H vs Q E hG hr h => ⟨_, (pss_cons (ps_for PassesOwn.never rfl (pi_range1 (by rfl) T.z_range (pa_cons (pe_callB (c_max rfl) (by rfl) T.z_max (by decide +kernel) (pa_cons pe_int (pa_cons (pe_callB (c_min rfl) (by rfl) T.z_min (by decide +kernel) (pa_cons pe_int (pa_cons (pe_callB c_len (by rfl) T.z_len (by decide +kernel) (pa_cons (pv 0) pa_nil)) pa_nil))) pa_nil))) pa_nil)) (pg_name (i := 1) sc_law.nd rfl (Or.inl rfl))
      (pss_cons (ps_set (i := 2) sc_law.nd rfl (Or.inl rfl) (C8.pe_c c_bag hr (by decide) (by rfl) (pa_cons (pv 0) (pa_cons (pv 1) pa_nil))))
      (pss_cons (ps_set (i := 3) sc_law.nd rfl (Or.inl rfl) (C8.pe_c c_names hr (by decide) (by rfl) (pa_cons (pv 2) (pa_cons pe_int pa_nil))))
      (pss_cons (ps_asg (C8.pe_c c_blocks hr (by decide) (by rfl) (pa_cons (pv 2) (pa_cons (pv 3) pa_nil))) (pg_tup (by rfl) (pgs_cons (pg_name (i := 4) sc_law.nd rfl (Or.inl rfl)) (pgs_cons (pg_name (i := 5) sc_law.nd rfl (Or.inl rfl)) pgs_nil))))
      (pss_cons (ps_for PassesOwn.never rfl (pi_list (pe_slice sl_list (pv 3) po_none (po_some (C8.pe_c c_take hr (by decide) (by rfl) (pa_cons (pv 2) (pa_cons pe_int pa_nil)))))) (pg_name (i := 6) sc_law.nd rfl (Or.inl rfl))
      (pss_cons (ps_set (i := 7) sc_law.nd rfl (Or.inl rfl) (C8.pe_c c_take hr (by decide) (by rfl) (pa_cons (pv 2) (pa_cons (pe_op op_add (pe_callB c_len (by rfl) T.z_len (by decide +kernel) (pa_cons (pv 4) pa_nil)) pe_int) pa_nil))))
      (pss_one (ps_expr (pe_bm PySem.F.plainAttrs_list PySem.F.slot_list_insert PySem.F.type_list_insert QE.m_ins (pv 4) (pa_cons (pv 7) (pa_cons (C8.pe_mk mk_Member5 hr (by decide) (by rfl) (pa_cons (pv 6) (pa_cons pe_str (pa_cons pe_int (pa_cons pe_bl (pa_cons (pe_lst (pa_cons (C8.pe_mk mk_Tell1 hr (by decide) (by rfl) (pa_cons (pe_tup (pa_cons pe_str (pa_cons pe_int pa_nil))) pa_nil)) pa_nil)) pa_nil)))))) pa_nil)))))))
      (pss_cons (ps_set (i := 8) sc_law.nd rfl (Or.inl rfl) (C8.pe_mk mk_Edition5 hr (by decide) (by rfl) (pa_cons pe_str (pa_cons pe_dnewK (pa_cons pe_dnewK (pa_cons (pe_tup pa_nil) (pa_cons (pe_callTy c_tup (by rfl) T.z_tuple (by decide +kernel) (pa_cons (pv 4) pa_nil)) pa_nil)))))))
      (pss_cons (ps_setLc (i := 9) (own := [("_law_block", 10)]) (g := (gName 10)) (tt := tYes) (by rfl) sc_law.nd rfl rfl (sw_true rfl rfl rfl (by decide +kernel)) (pi_tup (pe_fld (pv 8) rfl)) (blkOk_by (own := [("_law_block", 10)]) (N := ["_law_script", "_law_at", "_law_bag_here", "_law_names_here", "_law_blocks_here", "_law_due", "_law_name", "_law_place", "_law_edition", "_law_heads", "_law_block", "_law_found", "_law_empty"]) (sc := C8.fnScope s_law) (by decide +kernel)) (fun _ _ _ _ _ => (pg_name (i := 10) sc_law.nd rfl (Or.inl rfl))) (fun _ _ _ _ _ => pts_nil) (fun _ _ _ _ _ => (QC.pe_dyn0 (pl := _) c_head hr (by decide) (pv 10))))
      (pss_cons (ps_set (i := 11) sc_law.nd rfl (Or.inl rfl) (C8.pe_c c_first_order hr (by decide) (by rfl) (pa_cons (pv 8) pa_nil)))
      (pss_cons (ps_if (PW.pt (pw_or (pt_not (pt_val (pe_callB call_isi (by rfl) T.z_isinstance (by decide +kernel) (pa_cons (pv 11) (pa_cons (pe_bltn (v := .ty "list") (u := .type "list") (by rfl) T.z_list (by decide +kernel) (by rfl)) pa_nil))))) (pw_or1 (pt_cmpR op_ne (pe_callB (QG.c_repr hG hr) (by rfl) T.z_repr (by decide +kernel) (pa_cons (pv 11) pa_nil)) (pe_callB (QG.c_repr hG hr) (by rfl) T.z_repr (by decide +kernel) (pa_cons (pv 5) pa_nil)) (nomark _)))))
      (pss_one (ps_ret pe_bl))
      pss_nil)
      (pss_cons (ps_expr (pe_bm PySem.F.plainAttrs_list PySem.F.slot_list_append PySem.F.type_list_append mt_append (pv 11) (pa_cons pe_str pa_nil)))
      (pss_cons (ps_if (PW.pt (pw_or (pt_cmpR op_ne (pe_callB (QG.c_repr hG hr) (by rfl) T.z_repr (by decide +kernel) (pa_cons (C8.pe_c c_first_order hr (by decide) (by rfl) (pa_cons (pv 8) pa_nil)) pa_nil)) (pe_callB (QG.c_repr hG hr) (by rfl) T.z_repr (by decide +kernel) (pa_cons (pv 5) pa_nil)) (nomark _)) (pw_or1 (pt_cmpR (op_neD hr.units) (pe_lc (own := [("_law_block", 10)]) (g := (gName 10)) (tt := tYes) (by rfl) sc_law.nd (pi_tup (pe_fld (pv 8) rfl)) (blkOk_by (own := [("_law_block", 10)]) (N := ["_law_script", "_law_at", "_law_bag_here", "_law_names_here", "_law_blocks_here", "_law_due", "_law_name", "_law_place", "_law_edition", "_law_heads", "_law_block", "_law_found", "_law_empty"]) (sc := C8.fnScope s_law) (by decide +kernel)) (fun _ _ _ _ _ => (pg_name (i := 10) sc_law.nd rfl (Or.inl rfl))) (fun _ _ _ _ _ => pts_nil) (fun _ _ _ _ _ => (QC.pe_dyn0 (pl := _) c_head hr (by decide) (pv 10)))) (pv 9) (nomark _)))))
      (pss_one (ps_ret pe_bl))
      pss_nil)
      (pss_cons (ps_set (i := 12) sc_law.nd rfl (Or.inl rfl) (C8.pe_mk mk_Edition5 hr (by decide) (by rfl) (pa_cons pe_str (pa_cons pe_dnewK (pa_cons pe_dnewK (pa_cons (pe_tup pa_nil) (pa_cons (pe_callTy c_tup (by rfl) T.z_tuple (by decide +kernel) (pa_cons (pe_lc (own := [("_law_block", 10)]) (g := (gName 10)) (by rfl) sc_law.nd (pi_list (pv 4)) (blkOk_by (own := [("_law_block", 10)]) (N := ["_law_script", "_law_at", "_law_bag_here", "_law_names_here", "_law_blocks_here", "_law_due", "_law_name", "_law_place", "_law_edition", "_law_heads", "_law_block", "_law_found", "_law_empty"]) (sc := C8.fnScope s_law) (by decide +kernel)) (fun _ _ _ _ _ => (pg_name (i := 10) sc_law.nd rfl (Or.inl rfl))) (fun _ _ _ _ _ => (pts_one (pt_val (pe_callB (kcIsi K rfl) (by rfl) T.z_isinstance (by decide +kernel) (pa_cons (pv 10) (pa_cons (pe_glob (v := .ref (A 2)) (by rfl) T.g_Member rfl) pa_nil)))))) (fun _ _ _ _ _ => (pv 10))) pa_nil)) pa_nil)))))))
      (pss_one (ps_if (PW.pt (pw_or (pt_cmpR (op_neD hr.units) (C8.pe_c c_first_order hr (by decide) (by rfl) (pa_cons (pv 12) pa_nil)) (pe_lst pa_nil) (nomark _)) (pw_or1 (pt_cmpR op_ne (pe_callB (QG.c_repr hG hr) (by rfl) T.z_repr (by decide +kernel) (pa_cons (C8.pe_c c_first_order hr (by decide) (by rfl) (pa_cons (pv 8) pa_nil)) pa_nil)) (pe_callB (QG.c_repr hG hr) (by rfl) T.z_repr (by decide +kernel) (pa_cons (pv 5) pa_nil)) (nomark _)))))
      (pss_one (ps_ret pe_bl))
      pss_nil))))))))))))))
      (pss_one (ps_ret pe_bl))), ?_⟩)
  try dsimp only [cxOf]
  exact fn_run (N := ["_law_script", "_law_at", "_law_bag_here", "_law_names_here", "_law_blocks_here", "_law_due", "_law_name", "_law_place", "_law_edition", "_law_heads", "_law_block", "_law_found", "_law_empty"]) (k := 1)
      (sv_seq (sv_for (iv_r1 (av_cons (ev_cb (av_cons ev_int (av_cons (ev_cb (av_cons ev_int (av_cons (ev_cb (av_cons ev_var av_nil) b_len) av_nil)) b_min) av_nil)) b_max) av_nil)) gv_name
      (sv_seq (sv_asg (ev_call (av_cons ev_var (av_cons ev_var av_nil))))
      (sv_seq (sv_asg (ev_callL (av_cons ev_var (av_cons ev_int av_nil))))
      (sv_seq (sv_asgT (is := [4, 5]) (ev_callL (av_cons ev_var (av_cons ev_var av_nil))) rfl)
      (sv_seq (sv_for (iv_lst (ev_sl ev_var ov_no (ov_some (ev_callL (av_cons ev_var (av_cons ev_int av_nil)))) b_slL)) gv_name
      (sv_seq (sv_asg (ev_callL (av_cons ev_var (av_cons (ev_op (ev_cb (av_cons ev_var av_nil) b_len) ev_int b_add) av_nil))))
      (sv_drop (ev_mut (av_cons ev_var (av_cons (ev_make (av_cons ev_var (av_cons ev_str (av_cons ev_int (av_cons ev_bl (av_cons (ev_lst (av_cons (ev_make (av_cons (ev_tup (av_cons ev_str (av_cons ev_int av_nil))) av_nil) (fun _ => .nil)) av_nil)) av_nil))))) (fun _ => .nil)) av_nil)) m_insert))))
      (sv_seq (sv_asg (ev_make (av_cons ev_str (av_cons ev_dnew (av_cons ev_dnew (av_cons (ev_tup av_nil) (av_cons (ev_cb (av_cons ev_var av_nil) b_tupl) av_nil))))) (fun _ => .nil)))
      (sv_seq (sv_asg (ev_lc (iv_tup (ev_fld ev_var (fun c => T.fl c _ (by decide +kernel)))) gv_name tv_yes (ev_dyn ev_var M_head_in) (by decide)))
      (sv_seq (sv_asg (ev_call (av_cons ev_var av_nil)))
      (sv_seq (sv_if (tv_or (tv_not (tv_b (ev_cb (av_cons ev_var (av_cons ev_ty av_nil)) (b_isi T.kits)))) (tv_test (ev_op (ev_cb (av_cons ev_var av_nil) b_repr) (ev_cb (av_cons ev_var av_nil) b_repr) b_ne)))
      (sv_ret ev_bl)
      sv_next)
      (sv_seq (sv_drop (ev_mut (av_cons ev_str av_nil) m_append))
      (sv_seq (sv_if (tv_or (tv_test (ev_op (ev_cb (av_cons (ev_call (av_cons ev_var av_nil)) av_nil) b_repr) (ev_cb (av_cons ev_var av_nil) b_repr) b_ne)) (tv_test (ev_op (ev_lc (iv_tup (ev_fld ev_var (fun c => T.fl c _ (by decide +kernel)))) gv_name tv_yes (ev_dyn ev_var M_head_in) (by decide)) ev_var b_neD)))
      (sv_ret ev_bl)
      sv_next)
      (sv_seq (sv_asg (ev_make (av_cons ev_str (av_cons ev_dnew (av_cons ev_dnew (av_cons (ev_tup av_nil) (av_cons (ev_cb (av_cons (ev_lcX rfl gv_name (tv_b (ev_cb (av_cons ev_var (av_cons ev_cls av_nil)) (b_isi T.kits))) ev_var (by decide)) av_nil) b_tupl) av_nil))))) (fun _ => .nil)))
      (sv_if (tv_or (tv_test (ev_op (ev_call (av_cons ev_var av_nil)) (ev_lst av_nil) b_neD)) (tv_test (ev_op (ev_cb (av_cons (ev_call (av_cons ev_var av_nil)) av_nil) b_repr) (ev_cb (av_cons ev_var av_nil) b_repr) b_ne)))
      (sv_ret ev_bl)
      sv_next)))))))))))))
      (sv_ret ev_bl)) h
end
end L16

set_option Elab.async false
set_option linter.all false
set_option maxRecDepth 100000
set_option maxHeartbeats 4000000
namespace L16
open PySem PySem.Spec PyProof.Rows L2 QB QT
local macro_rules | `(tactic| walk_at "ev") => `(tactic| simp only [sSeq_v, sIf_v, sAsg_v, put1_own, put1_val, put1_ot, put1_slot, sAsgT_v, sPar_v, sRet_v, ret1_val, ret1_own, ret1_ot, ret1_slot, sRetN_v, sDrop_v, sNext_v, sBreak_v, sCont_v, sFor_v, sWhile_v, sSetF_v, sSetL_v, bE_v, bT_v, bAnd_v, bOr_v, bNot_v, bYes_v, eIf_v, eAnd_v, eOr_v, eNot_v, aN_v, aC_v, eB_v, e1_v, e2_v, eVar_v, eC_v, trees_nil, trees_cons, tree_val, tree_own, tree_ot, tree_slot, share_val, share_own, share_ot, share_slot, shareL_nil, shareL_cons, opened_v, readI_v, eTup_v, eLst_v, eOT_v, ocm_nil, ocm_own, ocm_val, ocm_slot, eSl_v, oNo_v, oSome_v, eCall_v, eCallL_v, eMake_v, eMut_v, eLc_v, eLcX_v, iL_v, iT_v, iEn_v, iR1_v, eDyn_v, eJs_v, joinF_nil, joinF_cons, eFmt_v, eFld_v, eJoin_v, eDNew_v, runF_v, loopF_nil, fFld_v,
  QT.kSeq, QT.kIf, QT.kPut, QT.kAsg, QT.kMapS, QT.kShS, QT.kAsgT1, QT.kAsgT, QT.kPar2, QT.kPar, QT.kRetS, QT.kRet, QT.kDrop, QT.kFor, QT.kLoop2, QT.kLoop, QT.kWh2, QT.kWh, QT.kSF2, QT.kSF1, QT.kSF, QT.kSL4, QT.kSL3, QT.kSL2, QT.kSL1, QT.kSL, QT.kT1, QT.kBE1, QT.kBE, QT.kBT2, QT.kBT1, QT.kBT, QT.kBAnd, QT.kBOr, QT.kBNot, QT.kEIf, QT.kEAnd, QT.kEOr, QT.kENot, QT.kC2, QT.kC1, QT.kB2, QT.kB1, QT.kB, QT.kTr2, QT.kTr1, QT.kTree, QT.kSh2, QT.kSh1, QT.kOp, QT.kRd, QT.kTup, QT.kTup1, QT.kLst, QT.kLst1, QT.kOT, QT.kOT1, QT.kOc2, QT.kOc1, QT.kSl3, QT.kSl2, QT.kSl1, QT.kSl, QT.kOS1, QT.kOS, QT.kCa2, QT.kCa1, QT.kCa, QT.kLe4, QT.kLe3, QT.kLe2, QT.kLe1, QT.kLe, QT.kMk2, QT.kMk1, QT.kMk0, QT.kMk, QT.kMu4, QT.kMu3, QT.kMu2, QT.kMu1, QT.kMu0, QT.kMuT, QT.kMu, QT.kLc2, QT.kLc, QT.kLX2, QT.kLX1, QT.kLX, QT.kIL, QT.kIT, QT.kIEn, QT.kIR2, QT.kIR, QT.kDy3, QT.kDy, QT.kJ3, QT.kJ2, QT.kJ1, QT.kJs, QT.kJn1, QT.kJn, QT.kCo4, QT.kRun, QT.kVar,
  QT.putAll, Sl.held, Sl.with, mkA, fillA, lentA, backA, tyT, pN, pT, pNil, pCons, wipeR, fLen, fInt, fAbs, fMax, fMin, fLst, fTupl, fSlL, fRevL, fDcp, T.truth, T.tyN, putT, fIsi, 
  fAdd_i, fSub_i, fLt_i, fLe_i, fGt_i, fGe_i, fEq_i, fNe_i, fEq_s, fNe_s, fIxL_0, fIxL_1, fMul_r, fMul_l, fMod_p, fFdiv_p, PySem.sizeLine_eq, ofS_eq, ofS_beq, String.reduceEq, List.lookup_cons, List.lookup_nil, ixN_10, ixN_20, ixN_21, ixN_30, ixN_31, ixN_32, Int.reduceLT, Int.reduceLE, Int.reducePow, Int.reduceNeg, Int.reduceToNat,
  Option.bind_some, Option.bind_none, Option.map_some, Option.map_none,
  List.isEmpty_nil, List.isEmpty_cons, List.map_cons, List.map_nil, List.length_cons, List.length_nil, List.cons_append, List.nil_append, List.replicate_succ, List.replicate_zero, List.getElem?_cons_zero, List.getElem?_cons_succ, List.set_cons_zero, List.set_cons_succ, List.append_nil, List.getElem?_nil,
  Nat.reduceAdd, Nat.reduceSub, Nat.reduceLT, Nat.reduceLeDiff, Nat.reduceEqDiff, Nat.zero_add, Nat.add_zero,
  if_true, if_false, decide_true, decide_false, Bool.not_true, Bool.not_false, Bool.true_eq_false, Bool.false_eq_true, reduceCtorEq, reduceIte, String.reduceBEq, List.nodup_nil, List.nodup_cons, List.not_mem_nil, not_false_eq_true, and_self])
local macro_rules | `(tactic| walk_at "eva") => `(tactic| simp only [sSeq_v, sIf_v, sAsg_v, put1_own, put1_val, put1_ot, put1_slot, sAsgT_v, sPar_v, sRet_v, ret1_val, ret1_own, ret1_ot, ret1_slot, sRetN_v, sDrop_v, sNext_v, sBreak_v, sCont_v, sFor_v, sWhile_v, sSetF_v, sSetL_v, bE_v, bT_v, bAnd_v, bOr_v, bNot_v, bYes_v, eIf_v, eAnd_v, eOr_v, eNot_v, aN_v, aC_v, eB_v, e1_v, e2_v, eVar_v, eC_v, trees_nil, trees_cons, tree_val, tree_own, tree_ot, tree_slot, share_val, share_own, share_ot, share_slot, shareL_nil, shareL_cons, opened_v, readI_v, eTup_v, eLst_v, eOT_v, ocm_nil, ocm_own, ocm_val, ocm_slot, eSl_v, oNo_v, oSome_v, eCall_v, eCallL_v, eMake_v, eMut_v, eLc_v, eLcX_v, iL_v, iT_v, iEn_v, iR1_v, eDyn_v, eJs_v, joinF_nil, joinF_cons, eFmt_v, eFld_v, eJoin_v, eDNew_v, runF_v, loopF_nil, fFld_v,
  QT.kSeq, QT.kIf, QT.kPut, QT.kAsg, QT.kMapS, QT.kShS, QT.kAsgT1, QT.kAsgT, QT.kPar2, QT.kPar, QT.kRetS, QT.kRet, QT.kDrop, QT.kFor, QT.kLoop2, QT.kLoop, QT.kWh2, QT.kWh, QT.kSF2, QT.kSF1, QT.kSF, QT.kSL4, QT.kSL3, QT.kSL2, QT.kSL1, QT.kSL, QT.kT1, QT.kBE1, QT.kBE, QT.kBT2, QT.kBT1, QT.kBT, QT.kBAnd, QT.kBOr, QT.kBNot, QT.kEIf, QT.kEAnd, QT.kEOr, QT.kENot, QT.kC2, QT.kC1, QT.kB2, QT.kB1, QT.kB, QT.kTr2, QT.kTr1, QT.kTree, QT.kSh2, QT.kSh1, QT.kOp, QT.kRd, QT.kTup, QT.kTup1, QT.kLst, QT.kLst1, QT.kOT, QT.kOT1, QT.kOc2, QT.kOc1, QT.kSl3, QT.kSl2, QT.kSl1, QT.kSl, QT.kOS1, QT.kOS, QT.kCa2, QT.kCa1, QT.kCa, QT.kLe4, QT.kLe3, QT.kLe2, QT.kLe1, QT.kLe, QT.kMk2, QT.kMk1, QT.kMk0, QT.kMk, QT.kMu4, QT.kMu3, QT.kMu2, QT.kMu1, QT.kMu0, QT.kMuT, QT.kMu, QT.kLc2, QT.kLc, QT.kLX2, QT.kLX1, QT.kLX, QT.kIL, QT.kIT, QT.kIEn, QT.kIR2, QT.kIR, QT.kDy3, QT.kDy, QT.kJ3, QT.kJ2, QT.kJ1, QT.kJs, QT.kJn1, QT.kJn, QT.kCo4, QT.kRun, QT.kVar,
  QT.putAll, Sl.held, Sl.with, mkA, fillA, lentA, backA, tyT, pN, pT, pNil, pCons, wipeR, fLen, fInt, fAbs, fMax, fMin, fLst, fTupl, fSlL, fRevL, fDcp, T.truth, T.tyN, putT, fIsi, 
  fAdd_i, fSub_i, fLt_i, fLe_i, fGt_i, fGe_i, fEq_i, fNe_i, fEq_s, fNe_s, fIxL_0, fIxL_1, fMul_r, fMul_l, fMod_p, fFdiv_p, PySem.sizeLine_eq, ofS_eq, ofS_beq, String.reduceEq, List.lookup_cons, List.lookup_nil, ixN_10, ixN_20, ixN_21, ixN_30, ixN_31, ixN_32, Int.reduceLT, Int.reduceLE, Int.reducePow, Int.reduceNeg, Int.reduceToNat,
  Option.bind_some, Option.bind_none, Option.map_some, Option.map_none,
  List.isEmpty_nil, List.isEmpty_cons, List.map_cons, List.map_nil, List.length_cons, List.length_nil, List.cons_append, List.nil_append, List.replicate_succ, List.replicate_zero, List.getElem?_cons_zero, List.getElem?_cons_succ, List.set_cons_zero, List.set_cons_succ, List.append_nil, List.getElem?_nil,
  Nat.reduceAdd, Nat.reduceSub, Nat.reduceLT, Nat.reduceLeDiff, Nat.reduceEqDiff, Nat.zero_add, Nat.add_zero,
  if_true, if_false, decide_true, decide_false, Bool.not_true, Bool.not_false, Bool.true_eq_false, Bool.false_eq_true, reduceCtorEq, reduceIte, String.reduceBEq, List.nodup_nil, List.nodup_cons, List.not_mem_nil, not_false_eq_true, and_self, *])
/-- a pool of draws -/
def Bg (t : T) : Prop := ∃ a b : Int, 0 ≤ a ∧ t = .lst [.int a, .int b]
theorem take_ok {t : T} {m : Int} (ht : Bg t) (hm : 0 < m) (hm2 : m < 18446744073709551616) : ∃ r t' rest, F_take [.io t, .val (.int m)] = some (.val (.int r), .io t' :: .val (.int m) :: rest) ∧ 0 ≤ r ∧ r < m ∧ Bg t' := by
  obtain ⟨a, b, ha, rfl⟩ := ht
  unfold F_take B_take
  by_cases h : 0 < a
  · walk_at "eva"
    exact ⟨_, _, _, rfl, Int.emod_nonneg _ (by omega), Int.emod_lt_of_pos _ hm, _, _, Int.ediv_nonneg ha (by omega), rfl⟩
  · walk_at "eva"
    exact ⟨_, _, _, rfl, Int.emod_nonneg _ (by omega), Int.emod_lt_of_pos _ hm, _, _, ha, rfl⟩
theorem of_ok {t : T} {xs : List T} (ht : Bg t) (h0 : 0 < xs.length) (h1 : xs.length < 18446744073709551616) : ∃ x t' y rest, F_of [.io t, .val (.lst xs)] = some (.val x, .io t' :: y :: rest) ∧ x ∈ xs ∧ Bg t' := by
  obtain ⟨r, t', rest, e, r0, r1, a0⟩ := take_ok (m := (xs.length : Int)) ht (by omega) (by omega)
  obtain ⟨x, hx⟩ : ∃ x, xs[r.toNat]? = some x := ⟨_, List.getElem?_eq_getElem (by omega)⟩
  have e2 := fIxL_n r0 hx
  unfold F_of B_of
  walk_at "eva"
  exact ⟨_, _, _, _, rfl, List.mem_of_getElem? hx, a0⟩
theorem bag_loop {sc a c : Sl} : ∀ {ts : List T} {m : Int} {s4 s5 : Sl}, (∀ t ∈ ts, ∃ i x : Int, t = .tup [.int i, .int x]) → ∃ (m' : Int) (s4' s5' : Sl), loopF (pT 2 (pCons (pN 4) (pCons (pN 5) pNil)))
    (sAsg 3 (e2 fMod (eB fInt (aC (e2 fAdd (e2 fAdd (e2 fMul (eVar 3) (eC (.int 40014))) (e2 fMod (eB fInt (aC (eVar 5) aN)) (eC (.int 2147483563)))) (e2 fMul (eC (.int 331)) (eVar 4))) aN)) (eC (.int 2147483399)))) ts [sc, a, c, .val (.int m), s4, s5] = .nx [sc, a, c, .val (.int m'), s4', s5']
  | [], m, s4, s5, _ => ⟨m, s4, s5, rfl⟩
  | t :: r, m, s4, s5, h => by
    obtain ⟨i, x, rfl⟩ := h t (by simp)
    have ih := fun m s4 s5 => bag_loop (sc := sc) (a := a) (c := c) (ts := r) (m := m) (s4 := s4) (s5 := s5) (fun u hu => h u (by simp [hu]))
    obtain ⟨m', s4', s5', e⟩ := ih ((m * 40014 + x % 2147483563 + 331 * i) % 2147483399) (.val (.int i)) (.val (.int x))
    refine ⟨m', s4', s5', ?_⟩
    rw [← e]
    simp only [loopF]
    walk_at "ev"
theorem bag_ok {ns : List Int} {at_ : Int} (h0 : 0 ≤ at_) : ∃ t rest, F_bag [.val (.lst (ns.map .int)), .val (.int at_)] = some (.own t, rest) ∧ Bg t := by
  obtain ⟨c, hc⟩ : ∃ c : Int, kSeq (sAsg 2 (eIf (bE (e2 fLt (eVar 1) (eB fLen (aC (eVar 0) aN)))) (e2 fIxL (eVar 0) (eVar 1)) (eC (.int 0))) [.val (.lst (ns.map .int)), .val (.int at_), .no, .no, .no, .no]) sNext = .nx [.val (.lst (ns.map .int)), .val (.int at_), .val (.int c), .no, .no, .no] := by
    by_cases h : at_ < ((ns.map T.int).length : Int)
    · have hl : at_.toNat < ns.length := by rw [List.length_map] at h; omega
      have e2 : fIxL [.lst (ns.map .int), .int at_] = some (.val (.int ns[at_.toNat])) := fIxL_n h0 (by rw [List.getElem?_map, List.getElem?_eq_getElem hl]; rfl)
      refine ⟨ns[at_.toNat], ?_⟩
      walk_at "eva"
    · exact ⟨0, by walk_at "eva"⟩
  obtain ⟨m', s4, s5, e⟩ := bag_loop (sc := .val (.lst (ns.map .int))) (a := .val (.int at_)) (c := .val (.int c)) (m := 5381 * at_ + 977) (s4 := .no) (s5 := .no) (ts := enumT (cutT (ns.map .int) none (some 60))) (fun t ht => by
    obtain ⟨i, x, hx, rfl⟩ := enum_mem ht
    obtain ⟨y, _, rfl⟩ := List.mem_map.mp (cut_sub (List.mem_of_getElem? hx))
    exact ⟨_, _, rfl⟩)
  have hc' : sAsg 2 (eIf (bE (e2 fLt (eVar 1) (eB fLen (aC (eVar 0) aN)))) (e2 fIxL (eVar 0) (eVar 1)) (eC (.int 0))) [.val (.lst (ns.map .int)), .val (.int at_), .no, .no, .no, .no] = .nx [.val (.lst (ns.map .int)), .val (.int at_), .val (.int c), .no, .no, .no] := by
    revert hc
    cases sAsg 2 (eIf (bE (e2 fLt (eVar 1) (eB fLen (aC (eVar 0) aN)))) (e2 fIxL (eVar 0) (eVar 1)) (eC (.int 0))) [.val (.lst (ns.map .int)), .val (.int at_), .no, .no, .no, .no] <;> intro hc <;> exact hc
  unfold F_bag B_bag
  rw [runF_v]
  simp only [sSeq_v, List.length_cons, List.length_nil, Nat.zero_add, Nat.reduceAdd, if_true, List.cons_append, List.nil_append, Nat.reduceSub, List.replicate_succ, List.replicate_zero, hc']
  clear hc hc'
  have e10 : fPow [.int 10, .int 18] = some (.val (.int 1000000000000000000)) := rfl
  by_cases hb : (1000000000000000000 : Int) ≤ (if c < 0 then -c else c)
  · walk_at "eva"
    exact ⟨_, _, rfl, _, _, by omega, rfl⟩
  · walk_at "eva"
    exact ⟨_, _, rfl, _, _, by omega, rfl⟩
theorem paired_strs {P : Str → Prop} : ∀ {ts us : List T}, Paired (fun _ u => ∃ c, u = .str c ∧ P c) ts us → ∃ ss : List Str, us = ss.map T.str ∧ ss.length = ts.length ∧ ∀ s ∈ ss, P s
  | _, _, .nil => ⟨[], rfl, rfl, by simp⟩
  | _, _, .cons ⟨c, e, h⟩ b => by
    obtain ⟨ss, e2, l, h2⟩ := paired_strs b
    exact ⟨c :: ss, by simp [e, e2], by simp [l], fun s hs => by
      rcases List.mem_cons.mp hs with rfl | hs
      · exact h
      · exact h2 s hs⟩
theorem ixS_ok {z : Str} {i : Int} (hz : z.length ≤ 1000) (hk : PyData.strOk z = true) (h0 : 0 ≤ i) (h1 : i < z.length) : ∃ c : Str, fIxS [.str z, .int i] = some (.val (.str c)) ∧ c.length = 1 ∧ PyData.strOk c = true := by
  obtain ⟨c, e, k⟩ := Fo.ch hk h0 h1
  refine ⟨⟨#[c]⟩, ?_, rfl, k⟩
  simp only [fIxS]
  rw [if_pos (by rw [sizeLine_eq]; omega), e]
  rfl
theorem strL_map : ∀ ss : List Str, strL (ss.map T.str) = some ss
  | [] => rfl
  | s :: r => by simp only [List.map_cons, strL, strL_map r, Option.bind_some]
theorem joinS {a : Str} {ss : List Str} (h : (ss.map (·.length)).sum + ss.length * a.length ≤ 16777216) : fJoin a (.lst (ss.map T.str)) = some (.val (.str (Txt.join a ss))) := by
  unfold fJoin
  simp only [T.items, Option.bind_some, strL_map, h, if_true]
theorem joinT {a : Str} {ss : List Str} (h : (ss.map (·.length)).sum + ss.length * a.length ≤ 16777216) : fJoin a (.tup (ss.map T.str)) = some (.val (.str (Txt.join a ss))) := by
  unfold fJoin
  simp only [T.items, Option.bind_some, strL_map, h, if_true]
def lets : Str := "abcdefghijklmnopqrstuvwxyz"
def sgns : Str := "abcdefghijklmnopqrstuvwxyz0123456789"
theorem lets_ok : lets.length = 26 ∧ PyData.strOk lets = true := ⟨by decide, by decide +kernel⟩
theorem sgns_ok : sgns.length = 36 ∧ PyData.strOk sgns = true := ⟨by decide, by decide +kernel⟩
def Nm (n : Str) : Prop := n.length ≤ 100 ∧ PyData.strOk n = true
theorem rngT_len {lo : Int} {n : Nat} : (rngT lo n).length = n := by simp [rngT]
theorem stem_ok {a : Sl} {t : T} {n : Int} (ht : Bg t) (hn0 : 0 ≤ n) (hn1 : n ≤ 10) : ∃ (ss : List Str) (t' : T), Bg t' ∧ Nm (Txt.join "" ss) ∧ (Txt.join "" ss).length ≤ 20 ∧ fJoin "" (.lst (ss.map T.str)) = some (.val (.str (Txt.join "" ss))) ∧
    compF (pN 5) bYes (e2 fIxS (eVar 3) (eCallL F_take [true, false] (aC (eVar 0) (aC (eC (.int 36)) aN)))) [5] (rngT 0 n.toNat) [.io t, a, .val (.str lets), .val (.str sgns), .no, .no, .no, .no, .no, .no] = some (ss.map T.str, [.io t', a, .val (.str lets), .val (.str sgns), .no, .no, .no, .no, .no, .no]) := by
  obtain ⟨us, ρ', ec, hp, t2, h2, rfl⟩ := comp_inv (s := pN 5) (el := e2 fIxS (eVar 3) (eCallL F_take [true, false] (aC (eVar 0) (aC (eC (.int 36)) aN)))) (vs := [5]) (fun ρ => ∃ t, Bg t ∧ ρ = [.io t, a, .val (.str lets), .val (.str sgns), .no, .no, .no, .no, .no, .no]) (fun _ u => ∃ c, u = .str c ∧ (c.length ≤ 1 ∧ PyData.strOk c = true)) (ts := rngT 0 n.toNat) (ρ := [.io t, a, .val (.str lets), .val (.str sgns), .no, .no, .no, .no, .no, .no]) ⟨t, ht, rfl⟩ (fun u hu ρ ⟨t3, h3, e3⟩ => by
    subst e3
    obtain ⟨r, t4, rest4, e4, r0, r1, h4⟩ := take_ok (m := 36) h3 (by decide) (by decide)
    obtain ⟨c, ec, hc1, hc2⟩ := ixS_ok (z := sgns) (i := r) (by rw [sgns_ok.1]; decide) sgns_ok.2 r0 (by rw [sgns_ok.1]; exact r1)
    refine ⟨_, .str c, [.io t4, a, .val (.str lets), .val (.str sgns), .no, .val u, .no, .no, .no, .no], rfl, ?_, ⟨c, rfl, by omega, hc2⟩, t4, h4, rfl⟩
    walk_at "eva")
  obtain ⟨ss, rfl, hl, hss⟩ := paired_strs hp
  rw [rngT_len] at hl
  have hj := Fo.join_nm hss (by omega)
  refine ⟨ss, t2, h2, ⟨by have := hj.1; omega, hj.2⟩, hj.1, joinS ?_, ec⟩
  have h1 := Fo.sum_le (k := 1) fun s hs => (hss s hs).1
  have h3 : (Str.ofString "").length = 0 := by decide
  rw [h3]
  omega
theorem names_ok {t : T} (ht : Bg t) : ∃ (ss : List Str) (t' : T) (y : Sl) (rest : List Sl), F_names [.io t, .val (.int 3)] = some (.own (.lst (ss.map .str)), .io t' :: y :: rest) ∧ ss.length = 3 ∧ (∀ s ∈ ss, Nm s) ∧ Bg t' := by
  obtain ⟨x, t0, y0, rest0, q0, hx, h0⟩ := of_ok (xs := [.int 0, .int 0, .int 1, .int 2, .int 10]) ht (by decide) (by decide)
  obtain ⟨n, hn0, hn1, rfl⟩ : ∃ n : Int, 0 ≤ n ∧ n ≤ 10 ∧ x = .int n := by
    simp only [List.mem_cons, List.not_mem_nil, or_false] at hx
    rcases hx with rfl | rfl | rfl | rfl | rfl
    · exact ⟨0, by decide, by decide, rfl⟩
    · exact ⟨0, by decide, by decide, rfl⟩
    · exact ⟨1, by decide, by decide, rfl⟩
    · exact ⟨2, by decide, by decide, rfl⟩
    · exact ⟨10, by decide, by decide, rfl⟩
  clear hx
  have hr : -4611686018427387904 ≤ n ∧ n < 4611686018427387904 := ⟨by omega, by omega⟩
  have hsz : (rngT 0 n.toNat).length < 16777216 := by rw [rngT_len]; omega
  obtain ⟨zs, t1, h1, hz, hz2, ej, q1⟩ := stem_ok (a := .val (.int 3)) h0 hn0 hn1
  generalize Txt.join "" zs = z at hz hz2 ej
  obtain ⟨s, t2, r2, q2, s0, s1, h2⟩ := take_ok (m := 26) h1 (by decide) (by decide)
  obtain ⟨d, t3, r3, q3, d0, d1, h3⟩ := take_ok (m := 2) h2 (by decide) (by decide)
  obtain ⟨us, ρ', ec, hp, rfl⟩ := comp_inv (s := pN 5) (el := e2 fIxS (eVar 2) (e2 fMod (e2 fAdd (eVar 6) (e2 fMul (eC (.int 7)) (eVar 5))) (eC (.int 26)))) (vs := [5]) (fun ρ => ρ = [.io t3, .val (.int 3), .val (.str lets), .val (.str sgns), .val (.str z), .no, .val (.int s), .val (.bl (decide (d = 0))), .no, .no]) (fun _ u => ∃ c, u = .str c ∧ (c.length = 1 ∧ PyData.strOk c = true)) (ts := rngT 0 3) rfl (fun u hu ρ e => by
    subst e
    obtain ⟨k, hk, rfl⟩ := rng_mem hu
    obtain ⟨c, ec, hc1, hc2⟩ := ixS_ok (z := lets) (i := (s + 7 * (k : Int)) % 26) (by rw [lets_ok.1]; decide) lets_ok.2 (Int.emod_nonneg _ (by decide)) (by rw [lets_ok.1]; exact Int.emod_lt_of_pos _ (by decide))
    refine ⟨_, .str c, [.io t3, .val (.int 3), .val (.str lets), .val (.str sgns), .val (.str z), .val (.int k), .val (.int s), .val (.bl (decide (d = 0))), .no, .no], rfl, ?_, ⟨c, rfl, hc1, hc2⟩, rfl⟩
    walk_at "eva")
  obtain ⟨os, rfl, hl, hos⟩ := paired_strs hp
  rw [rngT_len] at hl
  obtain ⟨l0, el0, hl1, hl2⟩ := ixS_ok (z := lets) (i := s) (by rw [lets_ok.1]; decide) lets_ok.2 s0 (by rw [lets_ok.1]; exact s1)
  obtain ⟨us2, ρ2, ec2, hp2, rfl⟩ := comp_inv (s := pN 9) (el := eIf (bE (eVar 7)) (e2 fAddS (e2 fAddS (e2 fIxS (eVar 2) (eVar 6)) (eVar 4)) (eVar 9)) (e2 fAddS (eVar 9) (eVar 4))) (vs := [9]) (fun ρ => ρ = [.io t3, .val (.int 3), .val (.str lets), .val (.str sgns), .val (.str z), .no, .val (.int s), .val (.bl (decide (d = 0))), .no, .no]) (fun _ u => ∃ c, u = .str c ∧ Nm c) (ts := os.map T.str) rfl (fun u hu ρ e => by
    subst e
    obtain ⟨o, ho, rfl⟩ := List.mem_map.mp hu
    have hon := hos o ho
    have ea : ∀ a b : Str, a.length ≤ 100 → b.length ≤ 100 → fAddS [.str a, .str b] = some (.val (.str (a ++ b))) := fun a b ha hb => by
      simp only [fAddS]
      rw [if_pos (by rw [sizeLine_eq]; omega)]
    have a1 := ea l0 z (by omega) (by omega)
    have a2 := ea (l0 ++ z) o (by rw [Str.length_append]; omega) (by omega)
    have a3 := ea o z (by omega) (by omega)
    by_cases hd : d = 0
    · refine ⟨_, .str (l0 ++ z ++ o), [.io t3, .val (.int 3), .val (.str lets), .val (.str sgns), .val (.str z), .no, .val (.int s), .val (.bl (decide (d = 0))), .no, .val (.str o)], rfl, ?_, ⟨_, rfl, by simp only [Str.length_append]; omega, Fo.sk_app (Fo.sk_app hl2 hz.2) hon.2⟩, rfl⟩
      walk_at "eva"
    · refine ⟨_, .str (o ++ z), [.io t3, .val (.int 3), .val (.str lets), .val (.str sgns), .val (.str z), .no, .val (.int s), .val (.bl (decide (d = 0))), .no, .val (.str o)], rfl, ?_, ⟨_, rfl, by simp only [Str.length_append]; omega, Fo.sk_app hon.2 hz.2⟩, rfl⟩
      walk_at "eva")
  obtain ⟨ss, rfl, hl3, hss⟩ := paired_strs hp2
  rw [List.length_map] at hl3
  have hlo : (List.map T.str os).length < 16777216 := by rw [List.length_map]; omega
  have hl4 : (rngT 0 3).length < 16777216 := by rw [rngT_len]; decide
  refine ⟨ss, t3, .val (.int 3), [.val (.str lets), .val (.str sgns), .val (.str z), .no, .val (.int s), .val (.bl (decide (d = 0))), .own (.lst (os.map .str)), .no], ?_, by omega, hss, h3⟩
  unfold F_names B_names
  unfold lets sgns at ec ec2 q1 ⊢
  have k3 : (3 : Int).toNat = 3 := rfl
  walk_at "eva"
open Fo (Bk fo firsts)
def rowsT (k : Int) : T := .tup [.obj 0 [("value", .tup [.str "number", .int k])]]
def bkT : Bk → T
  | .fst n af => .obj 1 [("name", .str n), ("after", .tup (af.map .str)), ("rows", rowsT 1)]
  | .mem n => .obj 2 [("name", .str n), ("access", .str "open"), ("tag", .int 0), ("is_default", .bl false), ("rows", rowsT 2)]
theorem tell_init {x : T} : F_Tell_init [.io (.obj 0 []), .val x] = some (.val .non, [.io (.obj 0 [("value", x)]), .val x]) := rfl
theorem first_init {n : Str} {af rs : List T} : F_First_init [.io (.obj 1 []), .val (.str n), .val (.tup af), .val (.lst rs)] = some (.val .non, [.io (.obj 1 [("name", .str n), ("after", .tup af), ("rows", .tup rs)]), .val (.str n), .val (.tup af), .val (.lst rs)]) := rfl
theorem member_init {n a : Str} {g : Int} {d : Bool} {rs : List T} : F_Member_init [.io (.obj 2 []), .val (.str n), .val (.str a), .val (.int g), .val (.bl d), .val (.lst rs)] = some (.val .non, [.io (.obj 2 [("name", .str n), ("access", .str a), ("tag", .int g), ("is_default", .bl d), ("rows", .tup rs)]), .val (.str n), .val (.str a), .val (.int g), .val (.bl d), .val (.lst rs)]) := rfl
theorem dat_strs : ∀ ss : List Str, datL (ss.map T.str) = some (ss.map PyData.str)
  | [] => rfl
  | s :: r => by simp only [List.map_cons, datL, T.dat, Option.bind_some, dat_strs r]
theorem shownAll_strs : ∀ ss : List Str, PyData.shownAll (ss.map PyData.str) = ss.map reprText
  | [] => rfl
  | s :: r => by simp only [List.map_cons, PyData.shownAll, PyData.shown, shownAll_strs r]
theorem repr_ok {ss : List Str} (h : ∀ s ∈ ss, Nm s) (hl : ss.length ≤ 10) : ∃ z, fRepr [.lst (ss.map T.str)] = some (.val (.str z)) := by
  refine ⟨(PyData.list (ss.map PyData.str)).shown, ?_⟩
  unfold fRepr
  simp only [T.dat, dat_strs, Option.map_some, Option.bind_some]
  rw [if_pos]
  refine ⟨?_, ?_, ?_, ?_⟩
  · simp only [PyData.showable]
    clear h hl
    induction ss with
    | nil => rfl
    | cons s r ih => simp only [List.map_cons, PyData.showableAll, PyData.showable, ih, Bool.and_self]
  · simp only [PyData.hasDict]
    clear h hl
    induction ss with
    | nil => rfl
    | cons s r ih => simp only [List.map_cons, PyData.hasDictAll, PyData.hasDict, ih, Bool.or_self]
  · simp only [PyData.depth]
    have : PyData.depthAll (ss.map PyData.str) ≤ 1 := depth_of fun d hd => by
      obtain ⟨s, _, rfl⟩ := List.mem_map.mp hd
      simp [PyData.depth]
    omega
  · simp only [PyData.shown, shownAll_strs]
    have h1 : ∀ s ∈ ss.map reprText, s.length ≤ 1002 := fun s hs => by
      obtain ⟨x, hx, rfl⟩ := List.mem_map.mp hs
      have hx2 := h x hx
      have h2 : ∀ c ∈ x.cps.toList, c < 16 ^ 8 := fun c hc => by
        have := Array.all_eq_true_iff_forall_mem.mp hx2.2 c (Array.mem_toList_iff.mp hc)
        simp at this
        omega
      have := StrLaws.reprText_len x h2
      have := hx2.1
      omega
    have h2 := Fo.sum_le h1
    have h3 := PySem.textFrom_len_le (ss.map reprText) 0 "["
    have e1 : (Str.ofString "[").length = 1 := by decide
    have e2 : (Str.ofString "]").length = 1 := by decide
    rw [List.length_map] at h2 h3
    rw [e1] at h3
    show (PySem.textFrom 0 (Str.ofString "[") (ss.map reprText) ++ Str.ofString "]").length ≤ sizeLine
    rw [Str.length_append, e2, sizeLine_eq]
    omega
theorem cutT_take {xs : List T} {k : Nat} (h : k ≤ xs.length) : cutT xs none (some (k : Int)) = xs.take k := by
  unfold cutT
  rw [HT.sIx_nat, HT.sIx_none, Nat.min_eq_left h]
  simp
def Bok : Bk → Prop
  | .fst n af => Nm n ∧ (∀ x ∈ af, Nm x) ∧ af.length ≤ 3
  | .mem n => Nm n
/-- the blocks of names without after -/
theorem plain_comp {t : T} {ss zs : List Str} : ∀ {ys : List Str} {s3 s5 : Sl}, (s3 = .own (.lst [.obj 0 [("value", .tup [.str "number", .int 1])]]) ∨ s3 = .val (.lst [.obj 0 [("value", .tup [.str "number", .int 1])]])) → ∃ s3', compF (pN 5) bYes (eMake 1 F_First_init [] (aC (eVar 5) (aC (eTup aN) (aC (eVar 3) aN)))) [5] (ys.map T.str) [.io t, .val (.lst (ss.map .str)), .val (.int zs.length), s3, .no, .no, .no, .no, .no, .no, .no] = some (ys.map fun n => bkT (.fst n []), [.io t, .val (.lst (ss.map .str)), .val (.int zs.length), s3', .no, .no, .no, .no, .no, .no, .no])
  | [], s3, s5, _ => ⟨s3, rfl⟩
  | y :: ys, s3, s5, h => by
    obtain ⟨s3', e⟩ := plain_comp (t := t) (ss := ss) (zs := zs) (ys := ys) (s3 := .val (.lst [.obj 0 [("value", .tup [.str "number", .int 1])]])) (s5 := .no) (.inr rfl)
    refine ⟨s3', ?_⟩
    simp only [List.map_cons, compF, pN, Option.bind_some, bYes, if_true]
    have fi := @first_init y [] [.obj 0 [("value", .tup [.str "number", .int 1])]]
    rcases h with rfl | rfl <;> (walk_at "eva"; rfl)
open Fo (Bk fo firsts)
abbrev rw1 : T := .obj 0 [("value", .tup [.str "number", .int 1])]
theorem rep_comp {i : Nat} {b : Str} {ρ : Rho} (h9 : ρ[9]? = some .no) (h4 : ρ[4]? = some (.val (.lst [.str a, .str b]))) : True := trivial
theorem cst_comp {x : T} {e : EF} {vs : List Nat} {s : T → Rho → Option Rho} {ρ : Rho} {n : Nat} (h : ∀ t, ∃ ρ1 ρ3, s t ρ = some ρ1 ∧ opened e ρ1 = some (x, ρ3) ∧ wipeR ρ3 vs = ρ) : compF s bYes e vs (rngT 0 n) ρ = some (List.replicate n x, ρ) := by
  have := comp_map (s := s) (el := e) (vs := vs) (f := fun _ => x) (ρ := ρ) (ts := rngT 0 n) (fun t _ => h t)
  rw [this]
  congr 2
  rw [List.map_const', rngT_len]
theorem blocks_ok {t : T} {ss : List Str} (ht : Bg t) (hl : ss.length = 3) (hn : ∀ s ∈ ss, Nm s) : ∃ (bs : List Bk) (due : List Str) (b : Bool) (t' : T) (y : Sl) (rest : List Sl), F_blocks [.io t, .val (.lst (ss.map .str))] = some (.ot [(true, .lst (bs.map bkT)), (b, .lst (due.map .str))], .io t' :: y :: rest) ∧ (∀ b ∈ bs, Bok b) ∧ bs.length ≤ 2 ∧ fo (firsts bs).length (firsts bs) [] = due ∧ (∀ s ∈ due, Nm s) ∧ due.length ≤ 3 ∧ Bg t' := by
  obtain ⟨m, t1, r1, q1, m0, m1, h1⟩ := take_ok (m := 3) ht (by decide) (by decide)
  obtain ⟨w, t2, r2, q2, w0, w1, h2⟩ := take_ok (m := 2) h1 (by decide) (by decide)
  obtain ⟨m, rfl⟩ : ∃ k : Nat, m = (k : Int) := ⟨m.toNat, by omega⟩
  -- the names in one of two orders
  obtain ⟨zs, hzl, hzn, hz⟩ : ∃ zs : List Str, zs.length = m ∧ (∀ z ∈ zs, Nm z) ∧ ((w = 0 ∧ cutT (ss.map T.str) none (some (m : Int)) = zs.map T.str) ∨ (w ≠ 0 ∧ (cutT (ss.map T.str) none (some (m : Int))).reverse = zs.map T.str)) := by
    have ec : cutT (ss.map T.str) none (some (m : Int)) = (ss.take m).map T.str := by
      rw [cutT_take (by rw [List.length_map]; omega), List.map_take]
    by_cases hw : w = 0
    · exact ⟨ss.take m, by rw [List.length_take]; omega, fun z hz => hn z (List.mem_of_mem_take hz), .inl ⟨hw, ec⟩⟩
    · exact ⟨(ss.take m).reverse, by rw [List.length_reverse, List.length_take]; omega, fun z hz => hn z (List.mem_of_mem_take (List.mem_reverse.mp hz)), .inr ⟨hw, by rw [ec, List.map_reverse]⟩⟩
  by_cases hm : (m : Int) < 2
  · obtain ⟨s3', pc⟩ := plain_comp (t := t2) (ss := ss) (zs := zs) (ys := zs) (s3 := .own (.lst [.obj 0 [("value", .tup [.str "number", .int 1])]])) (s5 := .no) (.inl rfl)
    rw [hzl, show (zs.map fun n => bkT (.fst n [])) = (zs.map fun n => Bk.fst n []).map bkT by rw [List.map_map]; rfl] at pc
    have hsz : (zs.map T.str).length < 16777216 := by rw [List.length_map]; omega
    refine ⟨zs.map fun n => .fst n [], zs, false, t2, .val (.lst (ss.map .str)), [.val (.int m), s3', .val (.lst (zs.map .str)), .no, .no, .no, .no, .no, .no], ?_, fun b hb => ?_, by rw [List.length_map]; omega, ?_, hzn, by omega, h2⟩
    · unfold F_blocks B_blocks
      have ti := @tell_init (.tup [.str "number", .int 1])
      rcases hz with ⟨hw, hz⟩ | ⟨hw, hz⟩
      · walk_at "eva"
      · have hw' : decide (w = 0) = false := by simp [hw]
        walk_at "eva"
    · obtain ⟨n, hn', rfl⟩ := List.mem_map.mp hb
      exact ⟨hzn n hn', by simp, by simp⟩
    · match zs, hzl with
      | [], _ => rfl
      | [n], _ => exact Fo.fo_one n
      | _ :: _ :: _, h => simp at h; omega
  · have hm2 : m = 2 := by omega
    subst hm2
    obtain ⟨a, b, rfl⟩ : ∃ a b, zs = [a, b] := by
      match zs, hzl with
      | [a, b], _ => exact ⟨a, b, rfl⟩
    obtain ⟨wy, t3, r3, q3, y0, y1, h3⟩ := take_ok (m := 3) h2 (by decide) (by decide)
    obtain ⟨f, t4, r4, q4, f0, f1, h4⟩ := take_ok (m := 3) h3 (by decide) (by decide)
    have ti := @tell_init (.tup [.str "number", .int 1])
    have hr : -4611686018427387904 ≤ 1 + f ∧ 1 + f < 4611686018427387904 := ⟨by omega, by omega⟩
    have hsz : (rngT 0 (1 + f).toNat).length < 16777216 := by rw [rngT_len]; omega
    have na := hzn a (by simp)
    have nb := hzn b (by simp)
    have hz' : (w = 0 ∧ cutT (ss.map T.str) none (some ((2 : Nat) : Int)) = [.str a, .str b]) ∨ (w ≠ 0 ∧ (cutT (ss.map T.str) none (some ((2 : Nat) : Int))).reverse = [.str a, .str b]) := hz
    clear hz
    have hm' : ¬ ((2 : Nat) : Int) < 2 := hm
    have rep : ∀ x : Str, (List.replicate (1 + f).toNat (T.str x)) = (List.replicate (1 + f).toNat x).map T.str := fun x => by rw [List.map_replicate]
    by_cases hy1 : wy = 1
    · subst hy1
      have c1 : compF (pN 9) bYes (e2 fIxL (eVar 4) (eC (.int 1))) [9] (rngT 0 (1 + f).toNat) [.io t4, .val (.lst (ss.map .str)), .val (.int ((2 : Nat) : Int)), .own (.lst [rw1]), .own (.lst [.str a, .str b]), .no, .val (.int 1), .val (.int (1 + f)), .no, .no, .no] = some ((List.replicate (1 + f).toNat b).map T.str, [.io t4, .val (.lst (ss.map .str)), .val (.int ((2 : Nat) : Int)), .own (.lst [rw1]), .own (.lst [.str a, .str b]), .no, .val (.int 1), .val (.int (1 + f)), .no, .no, .no]) := by
        rw [← rep]
        refine cst_comp fun t => ⟨_, [.io t4, .val (.lst (ss.map .str)), .val (.int ((2 : Nat) : Int)), .own (.lst [rw1]), .own (.lst [.str a, .str b]), .no, .val (.int 1), .val (.int (1 + f)), .no, .val t, .no], rfl, ?_, rfl⟩
        walk_at "eva"
      have fi1 := @first_init a ((List.replicate (1 + f).toNat b).map T.str) [rw1]
      have fi2 := @first_init b [] [rw1]
      obtain ⟨rest, key⟩ : ∃ rest, F_blocks [.io t, .val (.lst (ss.map .str))] = some (.ot [(true, .lst [bkT (.fst a (List.replicate (1 + f).toNat b)), bkT (.fst b [])]), (true, .lst [.str b, .str a])], .io t4 :: .val (.lst (ss.map .str)) :: rest) := by
        unfold F_blocks B_blocks
        rcases hz' with ⟨hw, hz⟩ | ⟨hw, hz⟩ <;> (walk_at "eva"; exact ⟨_, rfl⟩)
      refine ⟨[.fst a (List.replicate (1 + f).toNat b), .fst b []], [b, a], true, t4, .val (.lst (ss.map .str)), rest, key, ?_, by simp, ?_, by simp [na, nb], by simp, h4⟩
      · intro x hx
        simp only [List.mem_cons, List.not_mem_nil, or_false] at hx
        rcases hx with rfl | rfl
        · exact ⟨na, fun y hy => by rw [List.eq_of_mem_replicate hy]; exact nb, by rw [List.length_replicate]; omega⟩
        · exact ⟨nb, by simp, by simp⟩
      · obtain ⟨k, hk⟩ : ∃ k, (1 + f).toNat = k + 1 := ⟨f.toNat, by omega⟩
        rw [hk]
        exact Fo.fo_way1 a b b (List.replicate k b) (fun y hy => by
          rcases List.mem_cons.mp hy with h | h
          · exact h
          · exact List.eq_of_mem_replicate h)
    · by_cases hy2 : wy = 2
      · subst hy2
        have fi1 := @first_init a [] [rw1]
        have c2 : compF (pN 9) bYes (e2 fIxL (eVar 4) (eC (.int 0))) [9] (rngT 0 (1 + f).toNat) [.io t4, .val (.lst (ss.map .str)), .val (.int ((2 : Nat) : Int)), .val (.lst [rw1]), .own (.lst [.str a, .str b]), .no, .val (.int 2), .val (.int (1 + f)), .own (bkT (.fst a [])), .no, .no] = some ((List.replicate (1 + f).toNat a).map T.str, [.io t4, .val (.lst (ss.map .str)), .val (.int ((2 : Nat) : Int)), .val (.lst [rw1]), .own (.lst [.str a, .str b]), .no, .val (.int 2), .val (.int (1 + f)), .own (bkT (.fst a [])), .no, .no]) := by
          rw [← rep]
          refine cst_comp fun t => ⟨_, [.io t4, .val (.lst (ss.map .str)), .val (.int ((2 : Nat) : Int)), .val (.lst [rw1]), .own (.lst [.str a, .str b]), .no, .val (.int 2), .val (.int (1 + f)), .own (bkT (.fst a [])), .val t, .no], rfl, ?_, rfl⟩
          walk_at "eva"
        have fi2 := @first_init b ((List.replicate (1 + f).toNat a).map T.str) [rw1]
        simp only [bkT, rowsT, List.map_nil] at c2
        obtain ⟨rest, key⟩ : ∃ rest, F_blocks [.io t, .val (.lst (ss.map .str))] = some (.ot [(true, .lst [bkT (.fst a []), bkT (.fst b (List.replicate (1 + f).toNat a))]), (false, .lst [.str a, .str b])], .io t4 :: .val (.lst (ss.map .str)) :: rest) := by
          unfold F_blocks B_blocks
          rcases hz' with ⟨hw, hz⟩ | ⟨hw, hz⟩ <;> (walk_at "eva"; exact ⟨_, rfl⟩)
        refine ⟨[.fst a [], .fst b (List.replicate (1 + f).toNat a)], [a, b], false, t4, .val (.lst (ss.map .str)), rest, key, ?_, by simp, Fo.fo_way2 a b _ (fun y hy => List.eq_of_mem_replicate hy), by simp [na, nb], by simp, h4⟩
        intro x hx
        simp only [List.mem_cons, List.not_mem_nil, or_false] at hx
        rcases hx with rfl | rfl
        · exact ⟨na, by simp, by simp⟩
        · exact ⟨nb, fun y hy => by rw [List.eq_of_mem_replicate hy]; exact na, by rw [List.length_replicate]; omega⟩
      · have fi1 := @first_init a [] [rw1]
        have fi2 := @first_init b [] [rw1]
        obtain ⟨rest, key⟩ : ∃ rest, F_blocks [.io t, .val (.lst (ss.map .str))] = some (.ot [(true, .lst [bkT (.fst a []), bkT (.fst b [])]), (false, .lst [.str a, .str b])], .io t4 :: .val (.lst (ss.map .str)) :: rest) := by
          unfold F_blocks B_blocks
          rcases hz' with ⟨hw, hz⟩ | ⟨hw, hz⟩ <;> (walk_at "eva"; exact ⟨_, rfl⟩)
        refine ⟨[.fst a [], .fst b []], [a, b], false, t4, .val (.lst (ss.map .str)), rest, key, ?_, by simp, Fo.fo_two a b, by simp [na, nb], by simp, h4⟩
        intro x hx
        simp only [List.mem_cons, List.not_mem_nil, or_false] at hx
        rcases hx with rfl | rfl
        · exact ⟨na, by simp, by simp⟩
        · exact ⟨nb, by simp, by simp⟩
open Fo (Bk fo firsts)
def clsOf : T → Nat
  | .obj c _ => c
  | _ => 0
theorem isi_comp {k : Nat} {ρ : Rho} (h6 : ρ.length = 7) (h6' : ρ[6]? = some .no) : ∀ {bs : List Bk}, compF (pN 6) (bE (eB (fIsi sub) (aC (eVar 6) (aC (eC (.cls k)) aN)))) (eVar 6) [6] (bs.map bkT) ρ = some ((bs.map bkT).filter (fun t => sub (clsOf t) k), ρ) := fun {bs} => by
  obtain ⟨s0, s1, s2, s3, s4, s5, s6, rfl⟩ : ∃ s0 s1 s2 s3 s4 s5 s6, ρ = [s0, s1, s2, s3, s4, s5, s6] := by
    match ρ, h6 with
    | [s0, s1, s2, s3, s4, s5, s6], _ => exact ⟨_, _, _, _, _, _, _, rfl⟩
  have e6 : s6 = .no := by simpa using h6'
  subst e6
  have := comp_filter (s := pN 6) (bt := bE (eB (fIsi sub) (aC (eVar 6) (aC (eC (.cls k)) aN)))) (el := eVar 6) (vs := [6]) (p := fun t => sub (clsOf t) k) (f := id) (ρ := [s0, s1, s2, s3, s4, s5, .no]) (ts := bs.map bkT) (fun t ht => by
    obtain ⟨b, _, rfl⟩ := List.mem_map.mp ht
    refine ⟨_, [s0, s1, s2, s3, s4, s5, .val (bkT b)], rfl, ?_, fun _ => ⟨[s0, s1, s2, s3, s4, s5, .val (bkT b)], ?_, rfl⟩, fun _ => rfl⟩
    · cases b <;> (simp only [bkT, clsOf]; walk_at "eva")
    · walk_at "eva"; rfl)
  rw [this, List.map_id]
theorem fil1 : ∀ bs : List Bk, (bs.map bkT).filter (fun t => sub (clsOf t) 1) = ((firsts bs).map fun f => bkT (.fst f.1 f.2))
  | [] => rfl
  | .fst n af :: r => by
    have : sub (clsOf (bkT (.fst n af))) 1 = true := rfl
    simp only [List.map_cons, List.filter_cons, this, if_true, firsts, fil1 r]
  | .mem n :: r => by
    have : sub (clsOf (bkT (.mem n))) 1 = false := rfl
    simp only [List.map_cons, List.filter_cons, this, Bool.false_eq_true, if_false, firsts, fil1 r]
def edT (nm : Str) (bs : List Bk) : T := .obj 3 [("name", .str nm), ("numbers", .dct []), ("cells", .dct []), ("wants", .tup []), ("blocks", .tup (bs.map bkT)), ("firsts", .tup ((firsts bs).map fun f => bkT (.fst f.1 f.2))), ("members", .tup ((bs.map bkT).filter (fun t => sub (clsOf t) 2)))]
theorem ed_init {nm : Str} {bs : List Bk} (hl : bs.length ≤ 100) : ∃ rest, F_Edition_init [.io (.obj 3 []), .val (.str nm), .val (.dct []), .val (.dct []), .val (.tup []), .val (.tup (bs.map bkT))] = some (.val .non, .io (edT nm bs) :: rest) := by
  have hsz : (bs.map bkT).length < 16777216 := by rw [List.length_map]; omega
  have c1 := @isi_comp 1 [.io (.obj 3 [("name", .str nm), ("numbers", .dct []), ("cells", .dct []), ("wants", .tup []), ("blocks", .tup (bs.map bkT))]), .val (.str nm), .val (.dct []), .val (.dct []), .val (.tup []), .val (.tup (bs.map bkT)), .no] rfl rfl bs
  rw [fil1] at c1
  have c2 := @isi_comp 2 [.io (.obj 3 [("name", .str nm), ("numbers", .dct []), ("cells", .dct []), ("wants", .tup []), ("blocks", .tup (bs.map bkT)), ("firsts", .tup ((firsts bs).map fun f => bkT (.fst f.1 f.2)))]), .val (.str nm), .val (.dct []), .val (.dct []), .val (.tup []), .val (.tup (bs.map bkT)), .no] rfl rfl bs
  unfold F_Edition_init B_Edition_init edT
  walk_at "eva"
  exact ⟨_, rfl⟩
open Fo (Bk fo firsts)
theorem fvs_strs : ∀ ss : List Str, fvs (ss.map T.str) = some (ss.map V.str)
  | [] => rfl
  | s :: r => by simp only [List.map_cons, fvs, T.fv, Option.bind_some, fvs_strs r]
theorem fNin {x : Str} {ss : List Str} : fIn true [.str x, .lst (ss.map T.str)] = some (.val (.bl (!decide (x ∈ ss)))) := by
  simp only [fIn, T.fv, T.items, Option.bind_some, fvs_strs, if_true, Fo.in_strs]
theorem ready_loop {b t : Sl} {taken : List Str} : ∀ {af : List Str} {s2 : Sl}, ∃ s2', loopF (pN 2) (sIf (bE (e2 (fIn true) (eVar 2) (eVar 1))) (sRet (eC (.bl false))) sNext) (af.map T.str) [b, .io (.lst (taken.map T.str)), s2] = if Fo.rdy taken af then .nx [b, .io (.lst (taken.map T.str)), s2'] else .rt (.val (.bl false)) [b, .io (.lst (taken.map T.str)), s2']
  | [], s2 => ⟨s2, rfl⟩
  | a :: r, s2 => by
    by_cases h : a ∈ taken
    · obtain ⟨s2', e⟩ := ready_loop (b := b) (t := t) (taken := taken) (af := r) (s2 := .val (.str a))
      refine ⟨s2', ?_⟩
      have hr : Fo.rdy taken (a :: r) = Fo.rdy taken r := by simp [Fo.rdy, h]
      rw [hr, ← e]
      have fn := @fNin a taken
      simp only [List.map_cons, loopF, pN]
      walk_at "eva"
    · refine ⟨.val (.str a), ?_⟩
      have hr : Fo.rdy taken (a :: r) = false := by simp [Fo.rdy, h]
      rw [hr]
      have fn := @fNin a taken
      simp only [List.map_cons, loopF, pN]
      walk_at "eva"
theorem ready_ok {n : Str} {af taken : List Str} : ∃ rest, F_is_ready [.val (bkT (.fst n af)), .io (.lst (taken.map T.str))] = some (.val (.bl (Fo.rdy taken af)), .val (bkT (.fst n af)) :: .io (.lst (taken.map T.str)) :: rest) := by
  obtain ⟨s2', e⟩ := ready_loop (b := .val (bkT (.fst n af))) (t := .no) (taken := taken) (af := af) (s2 := .no)
  unfold F_is_ready B_is_ready
  unfold bkT at e ⊢
  cases hr : Fo.rdy taken af with
  | true => rw [hr] at e; walk_at "eva"; exact ⟨_, rfl⟩
  | false => rw [hr] at e; walk_at "eva"; exact ⟨_, rfl⟩
def enumF (k : Nat) : List T → List T
  | [] => []
  | t :: r => .tup [.int (k : Nat), t] :: enumF (k + 1) r
theorem enum_F (ts : List T) : enumT ts = enumF 0 ts := by
  have key : ∀ (ts : List T) (k : Nat), enumF k ts = (List.range ts.length).map fun i => .tup [.int ((k + i : Nat) : Int), ts.getD i .non] := by
    intro ts
    induction ts with
    | nil => intro k; rfl
    | cons t r ih =>
      intro k
      rw [List.length_cons, List.range_succ_eq_map, List.map_cons, List.map_map, enumF, ih]
      congr 1
      apply List.map_congr_left
      intro i _
      simp only [Function.comp, List.getD_cons_succ]
      congr 4
      omega
  rw [key ts 0]
  unfold enumT
  simp
def trF (f : Str × List Str) : T := bkT (.fst f.1 f.2)
theorem rdy_comp {ed s3 : Sl} {taken : List Str} : ∀ {l : List (Str × List Str)} {k : Nat}, compF (pT 2 (pCons (pN 4) (pCons (pN 5) pNil))) (bE (eCallL F_is_ready [false, true] (aC (eVar 5) (aC (eVar 1) aN)))) (eVar 4) [4, 5] (enumF k (l.map trF)) [ed, .own (.lst (taken.map T.str)), .no, s3, .no, .no] = some ((Fo.idxs (fun b => Fo.rdy taken b.2) k l).map (fun i => T.int (i : Nat)), [ed, .own (.lst (taken.map T.str)), .no, s3, .no, .no])
  | [], k => rfl
  | f :: r, k => by
    have ih := rdy_comp (ed := ed) (s3 := s3) (taken := taken) (l := r) (k := k + 1)
    obtain ⟨rest, e⟩ := ready_ok (n := f.1) (af := f.2) (taken := taken)
    simp only [List.map_cons, enumF, compF, pT, pCons, pN, pNil, List.length_cons, List.length_nil]
    have e' : F_is_ready [.val (trF f), .io (.lst (taken.map T.str))] = some (.val (.bl (Fo.rdy taken f.2)), .val (trF f) :: .io (.lst (taken.map T.str)) :: rest) := e
    clear e
    generalize trF f = x at e' ⊢
    cases hr : Fo.rdy taken f.2 with
    | true =>
      rw [hr] at e'
      simp only [Fo.idxs, hr, if_true, List.map_cons]
      walk_at "eva"
    | false =>
      rw [hr] at e'
      simp only [Fo.idxs, hr, Bool.false_eq_true, if_false]
      walk_at "eva"
abbrev foB : SF := (sSeq (sAsg 3 (eLcX true 2 (pT 2 (pCons (pN 4) (pCons (pN 5) pNil))) (bE (eCallL F_is_ready [false, true] (aC (eVar 5) (aC (eVar 1) aN)))) (eVar 4) [4, 5]))
    (sSeq (sIf (bNot (bT (eVar 3))) sBreak sNext)
    (sDrop (eMut "list" gAppend 1 (aC (eFld "name" (eMut "list" gPopAt 2 (aC (e2 fIxL (eVar 3) (eC (.int 0))) aN))) aN)))))
theorem popAt_n {xs : List T} {i : Nat} {y : T} (h : xs[i]? = some y) (hi : i < 1000) : gPopAt (.lst xs) [.int (i : Int)] = some (.lst (xs.eraseIdx i), y) := by
  have hlt : i < xs.length := (List.getElem?_eq_some_iff.mp h).1
  have sx : seqIndex? (i : Int) xs.length = some i := by
    unfold seqIndex?
    simp
    omega
  unfold gPopAt
  dsimp only
  rw [if_pos ⟨by omega, by omega⟩, sx]
  dsimp only [Option.bind_some]
  rw [h]
  rfl
theorem tr_name (b : Str × List Str) : fFld "name" [trF b] = some (.val (.str b.1)) := rfl
theorem app_n {xs : List T} {y : T} (h : xs.length < 16777216) : gAppend (.lst xs) [y] = some (.lst (xs ++ [y]), .non) := by
  unfold gAppend
  dsimp only
  rw [if_pos (by rw [sizeLine_eq]; exact h)]
/-- one turn that takes the block at i (the two methods are left open, lest the kernel unfold them) -/
theorem fo_2 {g1 g2 : T → List T → Option (T × T)} {ed s3 s4 s5 : Sl} {L ys : List T} {i : Nat} {r : List T} {tb : T} {n : Str} {xs' ys' : List T} {z : EF} (zc : z [ed, .own (.lst ys), .own (.lst L), s3, s4, s5] = some (.own (.lst (.int (i : Int) :: r)), [ed, .own (.lst ys), .own (.lst L), s3, .no, .no])) (pa : g1 (.lst L) [.int (i : Int)] = some (.lst xs', tb)) (fn : fFld "name" [tb] = some (.val (.str n))) (ga : g2 (.lst ys) [.str n] = some (.lst ys', .non)) : (sSeq (sAsg 3 z)
    (sSeq (sIf (bNot (bT (eVar 3))) sBreak sNext)
    (sDrop (eMut "list" g2 1 (aC (eFld "name" (eMut "list" g1 2 (aC (e2 fIxL (eVar 3) (eC (.int 0))) aN))) aN))))) [ed, .own (.lst ys), .own (.lst L), s3, s4, s5] = .nx [ed, .own (.lst ys'), .own (.lst xs'), .own (.lst (.int (i : Int) :: r)), .no, .no] := by
  walk_at "eva"
theorem fo_turn {ed s3 s4 s5 : Sl} {L : List (Str × List Str)} {taken : List Str} {i : Nat} {is : List Nat} {b : Str × List Str} (hi : Fo.idxs (fun b => Fo.rdy taken b.2) 0 L = i :: is) (hb : L[i]? = some b) (hL : L.length ≤ 100) (ht : taken.length ≤ 100) : foB [ed, .own (.lst (taken.map T.str)), .own (.lst (L.map trF)), s3, s4, s5] = .nx [ed, .own (.lst ((taken ++ [b.1]).map T.str)), .own (.lst ((L.eraseIdx i).map trF)), .own (.lst ((i :: is).map fun i => T.int (i : Nat))), .no, .no] := by
  have rc := rdy_comp (ed := ed) (s3 := s3) (taken := taken) (l := L) (k := 0)
  rw [← enum_F, hi] at rc
  have hsz : (L.map trF).length < 16777216 := by rw [List.length_map]; omega
  have hlt : i < L.length := (List.getElem?_eq_some_iff.mp hb).1
  have hx : (L.map trF)[i]? = some (trF b) := by rw [List.getElem?_map, hb]; rfl
  have pa := popAt_n hx (by omega)
  have tl : (taken.map T.str).length < 16777216 := by rw [List.length_map]; omega
  rw [List.map_append, ← Fo.er_map]
  exact fo_2 (by clear pa hx hb hi; walk_at "eva") pa (tr_name b) (app_n tl)
theorem fo_stop {ed s3 s4 s5 : Sl} {L : List (Str × List Str)} {taken : List Str} (hi : Fo.idxs (fun b => Fo.rdy taken b.2) 0 L = []) (hL : L.length ≤ 100) : foB [ed, .own (.lst (taken.map T.str)), .own (.lst (L.map trF)), s3, s4, s5] = .bk [ed, .own (.lst (taken.map T.str)), .own (.lst (L.map trF)), .own (.lst []), .no, .no] := by
  have rc := rdy_comp (ed := ed) (s3 := s3) (taken := taken) (l := L) (k := 0)
  rw [← enum_F, hi] at rc
  have hsz : (L.map trF).length < 16777216 := by rw [List.length_map]; omega
  unfold foB
  walk_at "eva"
theorem fo_loop {ed : Sl} : ∀ (fuel k : Nat) (l : List (Str × List Str)) (taken : List Str) (s3 s4 s5 : Sl), l.length ≤ k → k < fuel → k + taken.length ≤ 100 → ∃ s2' s3' s4' s5', whileF (bT (eVar 2)) foB fuel [ed, .own (.lst (taken.map T.str)), .own (.lst (l.map trF)), s3, s4, s5] = .nx [ed, .own (.lst ((fo k l taken).map T.str)), s2', s3', s4', s5'] := by
  intro fuel
  induction fuel with
  | zero => intro k l taken s3 s4 s5 _ h; omega
  | succ fuel ih =>
    intro k l taken s3 s4 s5 h1 h2 h3
    have c1 : ∀ x : List T, bT (eVar 2) [ed, .own (.lst (taken.map T.str)), .own (.lst x), s3, s4, s5] = some (!x.isEmpty, [ed, .own (.lst (taken.map T.str)), .own (.lst x), s3, s4, s5]) := fun x => by walk_at "ev"
    have c0 : bT (eVar 2) [ed, .own (.lst (taken.map T.str)), .own (.lst (l.map trF)), s3, s4, s5] = some (!(l.map trF).isEmpty, [ed, .own (.lst (taken.map T.str)), .own (.lst (l.map trF)), s3, s4, s5]) := by walk_at "ev"
    cases l with
    | nil =>
      refine ⟨.own (.lst []), s3, s4, s5, ?_⟩
      have : fo k [] taken = taken := by cases k <;> rfl
      rw [this]
      simp only [whileF, c0]
      rfl
    | cons f r =>
      obtain ⟨k, rfl⟩ : ∃ j, k = j + 1 := ⟨k - 1, by simp at h1; omega⟩
      simp only [whileF, c1, List.map_cons, List.isEmpty_cons, Bool.not_false]
      cases hi : Fo.idxs (fun b => Fo.rdy taken b.2) 0 (f :: r) with
      | nil =>
        rw [Fo.fo_none hi]
        have st := fo_stop (ed := ed) (s3 := s3) (s4 := s4) (s5 := s5) hi (by omega)
        rw [List.map_cons] at st
        rw [st]
        exact ⟨_, _, _, _, rfl⟩
      | cons i is =>
        have hlt := Fo.idxs_lt _ (f :: r) 0 i (by rw [hi]; simp)
        obtain ⟨b, hb⟩ : ∃ b, (f :: r)[i]? = some b := ⟨_, List.getElem?_eq_getElem (by omega)⟩
        rw [Fo.fo_some hi hb]
        have st := fo_turn (ed := ed) (s3 := s3) (s4 := s4) (s5 := s5) hi hb (by omega) (by omega)
        rw [List.map_cons] at st
        rw [st]
        exact ih k ((f :: r).eraseIdx i) (taken ++ [b.1]) _ _ _ (by rw [List.length_eraseIdx_of_lt (by omega)]; omega) (by omega) (by simp; omega)
theorem firsts_len : ∀ bs : List Bk, (firsts bs).length ≤ bs.length
  | [] => Nat.le_refl _
  | .fst _ _ :: r => by simp only [firsts, List.length_cons]; have := firsts_len r; omega
  | .mem _ :: r => by simp only [firsts, List.length_cons]; have := firsts_len r; omega
theorem first_order_ok {nm : Str} {bs : List Bk} (hl : bs.length ≤ 50) : ∃ rest, F_first_order [.val (edT nm bs)] = some (.own (.lst ((fo (firsts bs).length (firsts bs) []).map T.str)), rest) := by
  have hf := firsts_len bs
  obtain ⟨s2', s3', s4', s5', e⟩ := fo_loop (ed := .val (edT nm bs)) 1000 (firsts bs).length (firsts bs) [] .no .no .no (Nat.le_refl _) (by omega) (by simp; omega)
  simp only [List.map_nil] at e
  unfold F_first_order B_first_order
  have fe : fFld "firsts" [edT nm bs] = some (.val (.tup ((firsts bs).map trF))) := rfl
  walk_at "eva"
  exact ⟨_, rfl⟩
open Fo (Bk fo firsts)
theorem lit_ok : PyData.strOk (Str.ofString "first ") = true ∧ PyData.strOk (Str.ofString " after ") = true ∧ PyData.strOk (Str.ofString "routine ") = true ∧ PyData.strOk (Str.ofString " ") = true ∧ PyData.strOk (Str.ofString "open") = true ∧ PyData.strOk Str.empty = true := ⟨by decide +kernel, by decide +kernel, by decide +kernel, by decide +kernel, by decide +kernel, by decide +kernel⟩
theorem lit_len : (Str.ofString "first ").length = 6 ∧ (Str.ofString " after ").length = 7 ∧ (Str.ofString "routine ").length = 8 ∧ (Str.ofString " ").length = 1 ∧ (Str.ofString "open").length = 4 ∧ Str.empty.length = 0 := ⟨by decide, by decide, by decide, by decide, by decide, rfl⟩
theorem fFmt_s {y : Str} (h : y.length ≤ 16777216) : fFmt [.str y] = some (.val (.str y)) := if_pos (by rw [sizeLine_eq]; exact h)
theorem head_ok {b : Bk} (hb : Bok b) : ∃ h rest, M_head (clsOf (bkT b)) [.val (bkT b)] = some (.val (.str h), rest) ∧ PyData.strOk h = true := by
  obtain ⟨k1, k2, k3, k4, k5, k6⟩ := lit_ok
  obtain ⟨l1, l2, l3, l4, l5, l6⟩ := lit_len
  cases b with
  | mem n =>
    have hn : Nm n := hb
    show ∃ h rest, F_Member_head [.val (bkT (.mem n))] = _ ∧ _
    have f1 := fFmt_s (y := n) (by have := hn.1; omega)
    have f2 := fFmt_s (y := "open") (by rw [l5]; decide)
    have L1 : (Str.empty ++ Str.ofString "routine ").length ≤ 16777216 := by rw [Str.length_append]; omega
    have L2 : (Str.empty ++ Str.ofString "routine " ++ n).length ≤ 16777216 := by have := hn.1; simp only [Str.length_append]; omega
    have L3 : (Str.empty ++ Str.ofString "routine " ++ n ++ Str.ofString " ").length ≤ 16777216 := by have := hn.1; simp only [Str.length_append]; omega
    have L4 : (Str.empty ++ Str.ofString "routine " ++ n ++ Str.ofString " " ++ Str.ofString "open").length ≤ 16777216 := by have := hn.1; simp only [Str.length_append]; omega
    unfold F_Member_head B_Member_head bkT rowsT
    clear k1 k2 k3 k4 k5 k6 l1 l2 l3 l4 l5 l6
    walk_at "eva"
    obtain ⟨k1, k2, k3, k4, k5, k6⟩ := lit_ok
    exact ⟨_, _, rfl, Fo.sk_app (Fo.sk_app (Fo.sk_app (Fo.sk_app k6 k3) hn.2) k4) k5⟩
  | fst n af =>
    obtain ⟨hn, ha, hl⟩ := hb
    show ∃ h rest, F_First_head [.val (bkT (.fst n af))] = _ ∧ _
    have f1 := fFmt_s (y := n) (by have := hn.1; omega)
    have L1 : (Str.empty ++ Str.ofString "first ").length ≤ 16777216 := by rw [Str.length_append]; omega
    have L2 : (Str.empty ++ Str.ofString "first " ++ n).length ≤ 16777216 := by have := hn.1; simp only [Str.length_append]; omega
    have L3 : (Str.empty ++ Str.ofString "first " ++ n ++ Str.ofString " after ").length ≤ 16777216 := by have := hn.1; simp only [Str.length_append]; omega
    have hs := Fo.sum_le (k := 100) fun s h => (ha s h).1
    have ej : Txt.join (Str.ofString " ") af = Str.join (Str.ofString " ") af := StrLaws.glued_eq_join _ _
    have hj : (Txt.join " " af).length ≤ 400 := by
      rw [ej]
      have h1 := StrLaws.join_length_le (Str.ofString " ") af
      rw [l4] at h1
      omega
    have hk : PyData.strOk (Txt.join " " af) = true := by rw [ej]; exact Fo.sk_join k4 fun s h => (ha s h).2
    have f2 := fFmt_s (y := Txt.join " " af) (by omega)
    have jt := joinT (a := " ") (ss := af) (by rw [l4]; omega)
    have L4 : (Str.empty ++ Str.ofString "first " ++ n ++ Str.ofString " after " ++ Txt.join " " af).length ≤ 16777216 := by have := hn.1; simp only [Str.length_append]; omega
    unfold F_First_head B_First_head bkT rowsT
    clear k1 k2 k3 k4 k5 k6 l1 l2 l3 l4 l5 l6 ej
    cases af with
    | nil =>
      walk_at "eva"
      obtain ⟨k1, k2, k3, k4, k5, k6⟩ := lit_ok
      exact ⟨_, _, rfl, Fo.sk_app (Fo.sk_app k6 k1) hn.2⟩
    | cons x r =>
      rw [List.map_cons] at jt
      walk_at "eva"
      obtain ⟨k1, k2, k3, k4, k5, k6⟩ := lit_ok
      exact ⟨_, _, rfl, Fo.sk_app (Fo.sk_app (Fo.sk_app (Fo.sk_app k6 k1) hn.2) k2) hk⟩
open Fo (Bk fo firsts)
theorem ins_n {xs : List T} {j : Int} {y : T} (h : xs.length < 16777216) (h0 : 0 ≤ j) (h1 : j < 1000000) : gInsert (.lst xs) [.int j, y] = some (.lst (xs.take j.toNat ++ [y] ++ xs.drop j.toNat), .non) := by
  unfold gInsert
  dsimp only
  rw [if_pos ⟨by rw [sizeLine_eq]; exact h, h0, by omega⟩]
abbrev rw2 : T := .obj 0 [("value", .tup [.str "number", .int 2])]
/-- one more member is put in -/
abbrev insB (g : T → List T → Option (T × T)) : SF := (sSeq (sAsg 7 (eCallL F_take [true, false] (aC (eVar 2) (aC (e2 fAdd (eB fLen (aC (eVar 4) aN)) (eC (.int 1))) aN))))
  (sDrop (eMut "list" g 4 (aC (eVar 7) (aC (eMake 2 F_Member_init [] (aC (eVar 6) (aC (eC (.str "open")) (aC (eC (.int 0)) (aC (eC (.bl false)) (aC (eLst (aC (eMake 0 F_Tell_init [] (aC (eTup (aC (eC (.str "number")) (aC (eC (.int 2)) aN))) aN)) aN)) aN)))))) aN)))))
theorem ins_turn {g : T → List T → Option (T × T)} {s0 s1 s3 s5 s7 s8 s9 s10 s11 s12 : Sl} {t t' : T} {bs : List T} {n : Str} {r : Int} {rest : List Sl} {t2 : T} (tk : F_take [.io t, .val (.int ((bs.length : Int) + 1))] = some (.val (.int r), .io t' :: .val (.int ((bs.length : Int) + 1)) :: rest)) (hg : g (.lst bs) [.int r, bkT (.mem n)] = some (t2, .non)) : insB g [s0, s1, .own t, s3, .own (.lst bs), s5, .val (.str n), s7, s8, s9, s10, s11, s12] = .nx [s0, s1, .own t', s3, .own t2, s5, .val (.str n), .val (.int r), s8, s9, s10, s11, s12] := by
  have ti := @tell_init (.tup [.str "number", .int 2])
  have mi := @member_init n "open" 0 false [rw2]
  unfold bkT rowsT at hg
  unfold insB
  walk_at "eva"
theorem ins_loop {s0 s1 s3 s5 s8 s9 s10 s11 s12 : Sl} : ∀ {ns : List Str} {t : T} {bs : List Bk} {s6 s7 : Sl}, Bg t → (∀ s ∈ ns, Nm s) → (∀ b ∈ bs, Bok b) → bs.length + ns.length ≤ 20 → ∃ (t' : T) (bs' : List Bk) (s6' s7' : Sl), loopF (pN 6) (sSeq (sAsg 7 (eCallL F_take [true, false] (aC (eVar 2) (aC (e2 fAdd (eB fLen (aC (eVar 4) aN)) (eC (.int 1))) aN))))
  (sDrop (eMut "list" gInsert 4 (aC (eVar 7) (aC (eMake 2 F_Member_init [] (aC (eVar 6) (aC (eC (.str "open")) (aC (eC (.int 0)) (aC (eC (.bl false)) (aC (eLst (aC (eMake 0 F_Tell_init [] (aC (eTup (aC (eC (.str "number")) (aC (eC (.int 2)) aN))) aN)) aN)) aN)))))) aN))))) (ns.map T.str) [s0, s1, .own t, s3, .own (.lst (bs.map bkT)), s5, s6, s7, s8, s9, s10, s11, s12] = .nx [s0, s1, .own t', s3, .own (.lst (bs'.map bkT)), s5, s6', s7', s8, s9, s10, s11, s12] ∧ Bg t' ∧ (∀ b ∈ bs', Bok b) ∧ bs'.length ≤ 20 ∧ firsts bs' = firsts bs
  | [], t, bs, s6, s7, ht, _, hb, hl => ⟨t, bs, s6, s7, rfl, ht, hb, by simpa using hl, rfl⟩
  | n :: ns, t, bs, s6, s7, ht, hn, hb, hl => by
    rw [List.length_cons] at hl
    obtain ⟨r, t1, rest, q, r0, r1, h1⟩ := take_ok (m := ((bs.map bkT).length : Int) + 1) ht (by omega) (by rw [List.length_map]; omega)
    have hi := ins_n (xs := bs.map bkT) (j := r) (y := bkT (.mem n)) (by rw [List.length_map]; omega) r0 (by rw [List.length_map] at r1; omega)
    have it := ins_turn (s0 := s0) (s1 := s1) (s3 := s3) (s5 := s5) (s7 := s7) (s8 := s8) (s9 := s9) (s10 := s10) (s11 := s11) (s12 := s12) (n := n) q hi
    have eb : (bs.map bkT).take r.toNat ++ [bkT (.mem n)] ++ (bs.map bkT).drop r.toNat = (bs.take r.toNat ++ [Bk.mem n] ++ bs.drop r.toNat).map bkT := by simp
    rw [eb] at it
    have hb' : ∀ b ∈ bs.take r.toNat ++ [.mem n] ++ bs.drop r.toNat, Bok b := fun b hm => by
      simp only [List.mem_append, List.mem_singleton] at hm
      rcases hm with (h | rfl) | h
      · exact hb b (List.mem_of_mem_take h)
      · exact hn n (by simp)
      · exact hb b (List.mem_of_mem_drop h)
    obtain ⟨t', bs', s6', s7', e, h2, h3, h4, h5⟩ := ins_loop (s0 := s0) (s1 := s1) (s3 := s3) (s5 := s5) (s8 := s8) (s9 := s9) (s10 := s10) (s11 := s11) (s12 := s12) (ns := ns) (t := t1) (bs := bs.take r.toNat ++ [.mem n] ++ bs.drop r.toNat) (s6 := .val (.str n)) (s7 := .val (.int r)) h1 (fun s hs => hn s (by simp [hs])) hb' (by simp; omega)
    refine ⟨t', bs', s6', s7', ?_, h2, h3, h4, by rw [h5, Fo.firsts_ins]⟩
    rw [← e, List.map_cons, loopF]
    have e6 : pN 6 (.str n) [s0, s1, .own t, s3, .own (.lst (bs.map bkT)), s5, s6, s7, s8, s9, s10, s11, s12] = some [s0, s1, .own t, s3, .own (.lst (bs.map bkT)), s5, .val (.str n), s7, s8, s9, s10, s11, s12] := rfl
    rw [e6]
    unfold insB at it
    dsimp only
    rw [it]
/-- the heads -/
def hdT (t : T) : T := match M_head (clsOf t) [.val t] with
  | some (.val u, _) => u
  | _ => .non
theorem hd_comp {s0 s1 s2 s3 s4 s5 s6 s7 s8 s9 s11 s12 : Sl} : ∀ {bs : List Bk}, (∀ b ∈ bs, Bok b) → compF (pN 10) bYes (eDyn "head" M_head (eVar 10)) [10] (bs.map bkT) [s0, s1, s2, s3, s4, s5, s6, s7, s8, s9, .no, s11, s12] = some ((bs.map bkT).map hdT, [s0, s1, s2, s3, s4, s5, s6, s7, s8, s9, .no, s11, s12]) := fun {bs} hb =>
  comp_map fun t ht => by
    obtain ⟨b, hm, rfl⟩ := List.mem_map.mp ht
    obtain ⟨h, rest, e, hk⟩ := head_ok (hb b hm)
    have eh : hdT (bkT b) = .str h := by unfold hdT; rw [e]
    refine ⟨_, [s0, s1, s2, s3, s4, s5, s6, s7, s8, s9, .val (bkT b), s11, s12], rfl, ?_, rfl⟩
    rw [eh]
    clear eh
    cases b <;> (simp only [bkT, clsOf] at e ⊢; walk_at "eva")
theorem hd_eq : ∀ {bs : List Bk}, (∀ b ∈ bs, Bok b) → ∃ ss : List Str, (bs.map bkT).map hdT = ss.map T.str ∧ ∀ s ∈ ss, PyData.strOk s = true
  | [], _ => ⟨[], rfl, by simp⟩
  | b :: bs, hb => by
    obtain ⟨h, rest, e, hk⟩ := head_ok (hb b (by simp))
    have eh : hdT (bkT b) = .str h := by unfold hdT; rw [e]
    obtain ⟨ss, h1, h2⟩ := hd_eq (bs := bs) (fun x hx => hb x (by simp [hx]))
    exact ⟨h :: ss, by simp only [List.map_cons, eh, h1], fun s hs => by
      rcases List.mem_cons.mp hs with rfl | hs
      · exact hk
      · exact h2 s hs⟩
theorem eqD_refl {ss : List Str} (h : ∀ s ∈ ss, PyData.strOk s = true) : fEqD true [.lst (ss.map T.str), .lst (ss.map T.str)] = some (.val (.bl false)) := by
  have hs : SeqAt.shaped (.list (ss.map PyData.str)) = true := shaped_l fun d hd => by
    obtain ⟨s, hm, rfl⟩ := List.mem_map.mp hd
    exact ⟨by simp only [PyData.canLay0]; exact h s hm, by simp [PyData.depth]⟩
  have hp : plainD (.list (ss.map PyData.str)) = true := by
    simp only [plainD]
    clear h hs
    induction ss with
    | nil => rfl
    | cons s r ih => simp only [List.map_cons, plainDAll, plainD, ih, Bool.and_self]
  have he := (eqv_plain _ _ hp hp).mpr rfl
  simp only [fEqD, T.dat, dat_strs, Option.map_some, Option.bind_some, hs, he, and_self, if_true, Bool.not_true]
def isM : Bk → Bool
  | .mem _ => true
  | _ => false
theorem firsts_mem : ∀ bs : List Bk, firsts (bs.filter isM) = []
  | [] => rfl
  | .fst _ _ :: r => by simp only [List.filter_cons, isM, Bool.false_eq_true, if_false, firsts_mem r]
  | .mem _ :: r => by simp only [List.filter_cons, isM, if_true, firsts, firsts_mem r]
theorem mem_comp {s0 s1 s2 s3 s4 s5 s6 s7 s8 s9 s11 s12 : Sl} : ∀ {bs : List Bk}, compF (pN 10) (bE (eB (fIsi sub) (aC (eVar 10) (aC (eC (.cls 2)) aN)))) (eVar 10) [10] (bs.map bkT) [s0, s1, s2, s3, s4, s5, s6, s7, s8, s9, .no, s11, s12] = some ((bs.filter isM).map bkT, [s0, s1, s2, s3, s4, s5, s6, s7, s8, s9, .no, s11, s12]) := fun {bs} => by
  have := comp_filter (s := pN 10) (bt := bE (eB (fIsi sub) (aC (eVar 10) (aC (eC (.cls 2)) aN)))) (el := eVar 10) (vs := [10]) (p := fun t => sub (clsOf t) 2) (f := id) (ρ := [s0, s1, s2, s3, s4, s5, s6, s7, s8, s9, .no, s11, s12]) (ts := bs.map bkT) (fun t ht => by
    obtain ⟨b, _, rfl⟩ := List.mem_map.mp ht
    refine ⟨_, [s0, s1, s2, s3, s4, s5, s6, s7, s8, s9, .val (bkT b), s11, s12], rfl, ?_, fun _ => ⟨[s0, s1, s2, s3, s4, s5, s6, s7, s8, s9, .val (bkT b), s11, s12], ?_, rfl⟩, fun _ => rfl⟩
    · cases b <;> (simp only [bkT, clsOf]; walk_at "eva")
    · walk_at "eva"; rfl)
  rw [this, List.map_id]
  congr 2
  clear this
  induction bs with
  | nil => rfl
  | cons b r ih => cases b <;> (simp only [List.map_cons, List.filter_cons]; first | (rw [show sub (clsOf (bkT (.mem _))) 2 = true from rfl]; simp only [isM, if_true, List.map_cons, ih]) | (rw [show sub (clsOf (bkT (.fst _ _))) 2 = false from rfl]; simp only [isM, Bool.false_eq_true, if_false, ih]))
open Fo (Bk fo firsts)
theorem cut_strs {ss : List Str} {lo hi : Option Int} : ∃ zs : List Str, cutT (ss.map T.str) lo hi = zs.map T.str ∧ zs.length ≤ ss.length ∧ ∀ z ∈ zs, z ∈ ss := by
  unfold cutT
  simp only [← List.map_drop, ← List.map_take]
  refine ⟨_, rfl, ?_, fun z hz => List.mem_of_mem_drop (List.mem_of_mem_take hz)⟩
  simp only [List.length_take, List.length_drop]
  omega
theorem fIsL {xs : List T} : fIsi sub [.lst xs, .ty "list"] = some (.val (.bl true)) := rfl
abbrev tailB (g : T → List T → Option (T × T)) : SF := (sSeq (sAsg 8 (eMake 3 F_Edition_init [] (aC (eC (.str "book")) (aC eDNew (aC eDNew (aC (eTup aN) (aC (eB fTupl (aC (eVar 4) aN)) aN)))))))
  (sSeq (sAsg 9 (eLc (iT (eFld "blocks" (eVar 8))) (pN 10) bYes (eDyn "head" M_head (eVar 10)) [10]))
  (sSeq (sAsg 11 (eCall F_first_order (aC (eVar 8) aN)))
  (sSeq (sIf (bOr (bNot (bE (eB (fIsi sub) (aC (eVar 11) (aC (eC (.ty "list")) aN))))) (bE (e2 (fEq true) (eB fRepr (aC (eVar 11) aN)) (eB fRepr (aC (eVar 5) aN)))))
  (sRet (eC (.bl false)))
  sNext)
  (sSeq (sDrop (eMut "list" g 11 (aC (eC (.str "x")) aN)))
  (sSeq (sIf (bOr (bE (e2 (fEq true) (eB fRepr (aC (eCall F_first_order (aC (eVar 8) aN)) aN)) (eB fRepr (aC (eVar 5) aN)))) (bE (e2 (fEqD true) (eLc (iT (eFld "blocks" (eVar 8))) (pN 10) bYes (eDyn "head" M_head (eVar 10)) [10]) (eVar 9))))
  (sRet (eC (.bl false)))
  sNext)
  (sSeq (sAsg 12 (eMake 3 F_Edition_init [] (aC (eC (.str "page")) (aC eDNew (aC eDNew (aC (eTup aN) (aC (eB fTupl (aC (eLcX false 4 (pN 10) (bE (eB (fIsi sub) (aC (eVar 10) (aC (eC (.cls 2)) aN)))) (eVar 10) [10]) aN)) aN)))))))
  (sIf (bOr (bE (e2 (fEqD true) (eCall F_first_order (aC (eVar 12) aN)) (eLst aN))) (bE (e2 (fEq true) (eB fRepr (aC (eCall F_first_order (aC (eVar 8) aN)) aN)) (eB fRepr (aC (eVar 5) aN)))))
  (sRet (eC (.bl false)))
  sNext))))))))
theorem tail_ok {g : T → List T → Option (T × T)} (hg : ∀ xs : List T, xs.length < 1000 → ∃ xs', g (.lst xs) [.str "x"] = some (.lst xs', .non)) {bs : List Bk} {due : List Str} {s0 s1 s2 s3 s5 s6 s7 s8 s9 s10 s11 s12 : Sl} (hb : ∀ b ∈ bs, Bok b) (hl : bs.length ≤ 20) (hd : fo (firsts bs).length (firsts bs) [] = due) (hn : ∀ s ∈ due, Nm s) (hdl : due.length ≤ 3) (h5 : s5 = .own (.lst (due.map .str)) ∨ s5 = .val (.lst (due.map .str))) : ∃ rest : List Sl, tailB g [s0, s1, s2, s3, .own (.lst (bs.map bkT)), s5, s6, s7, s8, s9, s10, s11, s12] = .nx (s0 :: rest) ∧ rest.length = 12 := by
  obtain ⟨z, er⟩ := repr_ok hn (by omega)
  have dz : decide (z = z) = true := by simp
  obtain ⟨r1, ei1⟩ := ed_init (nm := "book") (bs := bs) (by omega)
  obtain ⟨r2, ei2⟩ := ed_init (nm := "page") (bs := bs.filter isM) (by have := List.length_filter_le isM bs; omega)
  obtain ⟨r3, ef1⟩ := first_order_ok (nm := "book") (bs := bs) (by omega)
  obtain ⟨r4, ef2⟩ := first_order_ok (nm := "page") (bs := bs.filter isM) (by have := List.length_filter_le isM bs; omega)
  rw [hd] at ef1
  rw [firsts_mem, show fo ([] : List (Str × List Str)).length [] [] = [] from rfl, List.map_nil] at ef2
  obtain ⟨hs, eh, hk⟩ := hd_eq hb
  have c1 := hd_comp (s0 := s0) (s1 := s1) (s2 := s2) (s3 := s3) (s4 := .own (.lst (bs.map bkT))) (s5 := s5) (s6 := s6) (s7 := s7) (s8 := .own (edT "book" bs)) (s9 := s9) (s11 := s11) (s12 := s12) hb
  obtain ⟨xs', eg⟩ := hg (due.map T.str) (by rw [List.length_map]; omega)
  have c2 := hd_comp (s0 := s0) (s1 := s1) (s2 := s2) (s3 := s3) (s4 := .own (.lst (bs.map bkT))) (s5 := s5) (s6 := s6) (s7 := s7) (s8 := .val (edT "book" bs)) (s9 := .own (.lst (hs.map T.str))) (s11 := .own (.lst xs')) (s12 := s12) hb
  rw [eh] at c1 c2
  have c3 := mem_comp (s0 := s0) (s1 := s1) (s2 := s2) (s3 := s3) (s4 := .no) (s5 := s5) (s6 := s6) (s7 := s7) (s8 := .val (edT "book" bs)) (s9 := .own (.lst (hs.map T.str))) (s11 := .own (.lst xs')) (s12 := s12) (bs := bs)
  have q1 := eqD_refl hk
  have q2 : fEqD true [.lst [], .lst []] = some (.val (.bl false)) := eqD_refl (ss := []) (by simp)
  have fb : ∀ x, fFld "blocks" [edT x bs] = some (.val (.tup (bs.map bkT))) := fun _ => rfl
  have hsz : (bs.map bkT).length < 16777216 := by rw [List.length_map]; omega
  have hsz2 : ((bs.filter isM).map bkT).length < 16777216 := by have := List.length_filter_le isM bs; rw [List.length_map]; omega
  have kl : kitB "list" "list" = some true := rfl
  clear hb hn hk hg hd eh
  unfold tailB
  rcases h5 with rfl | rfl
  · walk_at "eva"
    refine ⟨_, rfl, ?_⟩
    rfl
  · walk_at "eva"
    refine ⟨_, rfl, ?_⟩
    rfl
open Fo (Bk fo firsts)
theorem app_x (xs : List T) (h : xs.length < 1000) : ∃ xs', gAppend (.lst xs) [.str "x"] = some (.lst xs', .non) := ⟨_, app_n (by omega)⟩
theorem law_turn {ns : List Int} {i : Nat} {s2 s3 s4 s5 s6 s7 s8 s9 s10 s11 s12 : Sl} : ∃ rest : List Sl, (sSeq (sAsg 2 (eCall F_bag (aC (eVar 0) (aC (eVar 1) aN))))
  (sSeq (sAsg 3 (eCallL F_names [true, false] (aC (eVar 2) (aC (eC (.int 3)) aN))))
  (sSeq (sAsgT [4, 5] (eCallL F_blocks [true, false] (aC (eVar 2) (aC (eVar 3) aN))))
  (sSeq (sFor (iL (eSl fSlL (eVar 3) oNo (oSome (eCallL F_take [true, false] (aC (eVar 2) (aC (eC (.int 4)) aN)))))) (pN 6)
  (sSeq (sAsg 7 (eCallL F_take [true, false] (aC (eVar 2) (aC (e2 fAdd (eB fLen (aC (eVar 4) aN)) (eC (.int 1))) aN))))
  (sDrop (eMut "list" gInsert 4 (aC (eVar 7) (aC (eMake 2 F_Member_init [] (aC (eVar 6) (aC (eC (.str "open")) (aC (eC (.int 0)) (aC (eC (.bl false)) (aC (eLst (aC (eMake 0 F_Tell_init [] (aC (eTup (aC (eC (.str "number")) (aC (eC (.int 2)) aN))) aN)) aN)) aN)))))) aN))))))
  (sSeq (sAsg 8 (eMake 3 F_Edition_init [] (aC (eC (.str "book")) (aC eDNew (aC eDNew (aC (eTup aN) (aC (eB fTupl (aC (eVar 4) aN)) aN)))))))
  (sSeq (sAsg 9 (eLc (iT (eFld "blocks" (eVar 8))) (pN 10) bYes (eDyn "head" M_head (eVar 10)) [10]))
  (sSeq (sAsg 11 (eCall F_first_order (aC (eVar 8) aN)))
  (sSeq (sIf (bOr (bNot (bE (eB (fIsi sub) (aC (eVar 11) (aC (eC (.ty "list")) aN))))) (bE (e2 (fEq true) (eB fRepr (aC (eVar 11) aN)) (eB fRepr (aC (eVar 5) aN)))))
  (sRet (eC (.bl false)))
  sNext)
  (sSeq (sDrop (eMut "list" gAppend 11 (aC (eC (.str "x")) aN)))
  (sSeq (sIf (bOr (bE (e2 (fEq true) (eB fRepr (aC (eCall F_first_order (aC (eVar 8) aN)) aN)) (eB fRepr (aC (eVar 5) aN)))) (bE (e2 (fEqD true) (eLc (iT (eFld "blocks" (eVar 8))) (pN 10) bYes (eDyn "head" M_head (eVar 10)) [10]) (eVar 9))))
  (sRet (eC (.bl false)))
  sNext)
  (sSeq (sAsg 12 (eMake 3 F_Edition_init [] (aC (eC (.str "page")) (aC eDNew (aC eDNew (aC (eTup aN) (aC (eB fTupl (aC (eLcX false 4 (pN 10) (bE (eB (fIsi sub) (aC (eVar 10) (aC (eC (.cls 2)) aN)))) (eVar 10) [10]) aN)) aN)))))))
  (sIf (bOr (bE (e2 (fEqD true) (eCall F_first_order (aC (eVar 12) aN)) (eLst aN))) (bE (e2 (fEq true) (eB fRepr (aC (eCall F_first_order (aC (eVar 8) aN)) aN)) (eB fRepr (aC (eVar 5) aN)))))
  (sRet (eC (.bl false)))
  sNext)))))))))))) [.val (.lst (ns.map .int)), .val (.int (i : Int)), s2, s3, s4, s5, s6, s7, s8, s9, s10, s11, s12] = .nx (.val (.lst (ns.map .int)) :: rest) ∧ rest.length = 12 := by
  obtain ⟨t0, r0, e0, h0⟩ := bag_ok (ns := ns) (at_ := (i : Int)) (by omega)
  obtain ⟨ss, t1, y1, r1, e1, hl, hn, h1⟩ := names_ok h0
  obtain ⟨bs, due, b, t2, y2, r2, e2', hb, hbl, hdue, hdn, hdl, h2⟩ := blocks_ok h1 hl hn
  obtain ⟨m, t3, r3, e3, m0, m1, h3⟩ := take_ok (m := 4) h2 (by decide) (by decide)
  obtain ⟨zs, ez, zl, zm⟩ := cut_strs (ss := ss) (lo := none) (hi := some m)
  have hsz : (ss.map T.str).length < 16777216 := by rw [List.length_map]; omega
  obtain ⟨s5', hs5, h5⟩ : ∃ s5' : Sl, (s5' = .own (.lst (due.map .str)) ∨ s5' = .val (.lst (due.map .str))) ∧ s5' = (if b then .own (.lst (due.map .str)) else .val (.lst (due.map .str))) := by
    cases b
    · exact ⟨_, .inr rfl, rfl⟩
    · exact ⟨_, .inl rfl, rfl⟩
  obtain ⟨t4, bs', s6', s7', el, h4, hb', hbl', hf⟩ := ins_loop (s0 := .val (.lst (ns.map .int))) (s1 := .val (.int (i : Int))) (s3 := .val (.lst (ss.map T.str))) (s5 := s5') (s8 := s8) (s9 := s9) (s10 := s10) (s11 := s11) (s12 := s12) (ns := zs) (bs := bs) (s6 := s6) (s7 := s7) h3 (fun s hs => hn s (zm s hs)) hb (by omega)
  obtain ⟨rest, et, hr⟩ := tail_ok (s0 := .val (.lst (ns.map .int))) (s1 := .val (.int (i : Int))) (s2 := .own t4) (s3 := .val (.lst (ss.map T.str))) (s6 := s6') (s7 := s7') (s8 := s8) (s9 := s9) (s10 := s10) (s11 := s11) (s12 := s12) app_x hb' hbl' (by rw [hf]; exact hdue) hdn hdl hs5
  refine ⟨rest, ?_, hr⟩
  rw [← et]
  unfold tailB
  clear et hb hb' hn hdn hdue hf hs5 h0 h1 h2 h3 h4 hr zm hl hbl hdl zl hbl'
  generalize ((sSeq (sAsg 8 (eMake 3 F_Edition_init [] (aC (eC (.str "book")) (aC eDNew (aC eDNew (aC (eTup aN) (aC (eB fTupl (aC (eVar 4) aN)) aN)))))))
  (sSeq (sAsg 9 (eLc (iT (eFld "blocks" (eVar 8))) (pN 10) bYes (eDyn "head" M_head (eVar 10)) [10]))
  (sSeq (sAsg 11 (eCall F_first_order (aC (eVar 8) aN)))
  (sSeq (sIf (bOr (bNot (bE (eB (fIsi sub) (aC (eVar 11) (aC (eC (.ty "list")) aN))))) (bE (e2 (fEq true) (eB fRepr (aC (eVar 11) aN)) (eB fRepr (aC (eVar 5) aN)))))
  (sRet (eC (.bl false)))
  sNext)
  (sSeq (sDrop (eMut "list" gAppend 11 (aC (eC (.str "x")) aN)))
  (sSeq (sIf (bOr (bE (e2 (fEq true) (eB fRepr (aC (eCall F_first_order (aC (eVar 8) aN)) aN)) (eB fRepr (aC (eVar 5) aN)))) (bE (e2 (fEqD true) (eLc (iT (eFld "blocks" (eVar 8))) (pN 10) bYes (eDyn "head" M_head (eVar 10)) [10]) (eVar 9))))
  (sRet (eC (.bl false)))
  sNext)
  (sSeq (sAsg 12 (eMake 3 F_Edition_init [] (aC (eC (.str "page")) (aC eDNew (aC eDNew (aC (eTup aN) (aC (eB fTupl (aC (eLcX false 4 (pN 10) (bE (eB (fIsi sub) (aC (eVar 10) (aC (eC (.cls 2)) aN)))) (eVar 10) [10]) aN)) aN)))))))
  (sIf (bOr (bE (e2 (fEqD true) (eCall F_first_order (aC (eVar 12) aN)) (eLst aN))) (bE (e2 (fEq true) (eB fRepr (aC (eCall F_first_order (aC (eVar 8) aN)) aN)) (eB fRepr (aC (eVar 5) aN)))))
  (sRet (eC (.bl false)))
  sNext)))))))) : SF) = tl
  generalize gInsert = g at el ⊢
  cases b with
  | true =>
    have h5' : s5' = .own (.lst (due.map .str)) := h5
    clear h5
    subst h5'
    walk_at "eva"
  | false =>
    have h5' : s5' = .val (.lst (due.map .str)) := h5
    clear h5
    subst h5'
    walk_at "eva"
theorem law_ok (ns : List Int) : ∃ rest, F_law [.val (.lst (ns.map .int))] = some (.val (.bl true), rest) := by
  have hr : -4611686018427387904 ≤ (if (if ((ns.map T.int).length : Int) < 6 then ((ns.map T.int).length : Int) else 6) > 1 then (if ((ns.map T.int).length : Int) < 6 then ((ns.map T.int).length : Int) else 6) else 1) ∧ (if (if ((ns.map T.int).length : Int) < 6 then ((ns.map T.int).length : Int) else 6) > 1 then (if ((ns.map T.int).length : Int) < 6 then ((ns.map T.int).length : Int) else 6) else 1) < 4611686018427387904 := ⟨by (repeat' split) <;> omega, by (repeat' split) <;> omega⟩
  obtain ⟨ρ', e, rest, rfl, hl⟩ := loop_inv (s := pN 1) (b := (sSeq (sAsg 2 (eCall F_bag (aC (eVar 0) (aC (eVar 1) aN))))
  (sSeq (sAsg 3 (eCallL F_names [true, false] (aC (eVar 2) (aC (eC (.int 3)) aN))))
  (sSeq (sAsgT [4, 5] (eCallL F_blocks [true, false] (aC (eVar 2) (aC (eVar 3) aN))))
  (sSeq (sFor (iL (eSl fSlL (eVar 3) oNo (oSome (eCallL F_take [true, false] (aC (eVar 2) (aC (eC (.int 4)) aN)))))) (pN 6)
  (sSeq (sAsg 7 (eCallL F_take [true, false] (aC (eVar 2) (aC (e2 fAdd (eB fLen (aC (eVar 4) aN)) (eC (.int 1))) aN))))
  (sDrop (eMut "list" gInsert 4 (aC (eVar 7) (aC (eMake 2 F_Member_init [] (aC (eVar 6) (aC (eC (.str "open")) (aC (eC (.int 0)) (aC (eC (.bl false)) (aC (eLst (aC (eMake 0 F_Tell_init [] (aC (eTup (aC (eC (.str "number")) (aC (eC (.int 2)) aN))) aN)) aN)) aN)))))) aN))))))
  (sSeq (sAsg 8 (eMake 3 F_Edition_init [] (aC (eC (.str "book")) (aC eDNew (aC eDNew (aC (eTup aN) (aC (eB fTupl (aC (eVar 4) aN)) aN)))))))
  (sSeq (sAsg 9 (eLc (iT (eFld "blocks" (eVar 8))) (pN 10) bYes (eDyn "head" M_head (eVar 10)) [10]))
  (sSeq (sAsg 11 (eCall F_first_order (aC (eVar 8) aN)))
  (sSeq (sIf (bOr (bNot (bE (eB (fIsi sub) (aC (eVar 11) (aC (eC (.ty "list")) aN))))) (bE (e2 (fEq true) (eB fRepr (aC (eVar 11) aN)) (eB fRepr (aC (eVar 5) aN)))))
  (sRet (eC (.bl false)))
  sNext)
  (sSeq (sDrop (eMut "list" gAppend 11 (aC (eC (.str "x")) aN)))
  (sSeq (sIf (bOr (bE (e2 (fEq true) (eB fRepr (aC (eCall F_first_order (aC (eVar 8) aN)) aN)) (eB fRepr (aC (eVar 5) aN)))) (bE (e2 (fEqD true) (eLc (iT (eFld "blocks" (eVar 8))) (pN 10) bYes (eDyn "head" M_head (eVar 10)) [10]) (eVar 9))))
  (sRet (eC (.bl false)))
  sNext)
  (sSeq (sAsg 12 (eMake 3 F_Edition_init [] (aC (eC (.str "page")) (aC eDNew (aC eDNew (aC (eTup aN) (aC (eB fTupl (aC (eLcX false 4 (pN 10) (bE (eB (fIsi sub) (aC (eVar 10) (aC (eC (.cls 2)) aN)))) (eVar 10) [10]) aN)) aN)))))))
  (sIf (bOr (bE (e2 (fEqD true) (eCall F_first_order (aC (eVar 12) aN)) (eLst aN))) (bE (e2 (fEq true) (eB fRepr (aC (eCall F_first_order (aC (eVar 8) aN)) aN)) (eB fRepr (aC (eVar 5) aN)))))
  (sRet (eC (.bl false)))
  sNext))))))))))))) (fun ρ => ∃ rest : List Sl, ρ = .val (.lst (ns.map .int)) :: rest ∧ rest.length = 12) (ts := rngT 0 ((if (if ((ns.map T.int).length : Int) < 6 then ((ns.map T.int).length : Int) else 6) > 1 then (if ((ns.map T.int).length : Int) < 6 then ((ns.map T.int).length : Int) else 6) else 1)).toNat) (ρ := .val (.lst (ns.map .int)) :: List.replicate 12 .no) ⟨_, rfl, rfl⟩ (fun t ht ρ ⟨rest, h, hl⟩ => by
    obtain ⟨i, _, rfl⟩ := rng_mem ht
    subst h
    match rest, hl with
    | [s1, s2, s3, s4, s5, s6, s7, s8, s9, s10, s11, s12], _ =>
      obtain ⟨rest, e, hl⟩ := law_turn (ns := ns) (i := i) (s2 := s2) (s3 := s3) (s4 := s4) (s5 := s5) (s6 := s6) (s7 := s7) (s8 := s8) (s9 := s9) (s10 := s10) (s11 := s11) (s12 := s12)
      exact ⟨_, _, rfl, e, rest, rfl, hl⟩)
  unfold F_law B_law
  generalize ((sSeq (sAsg 2 (eCall F_bag (aC (eVar 0) (aC (eVar 1) aN))))
  (sSeq (sAsg 3 (eCallL F_names [true, false] (aC (eVar 2) (aC (eC (.int 3)) aN))))
  (sSeq (sAsgT [4, 5] (eCallL F_blocks [true, false] (aC (eVar 2) (aC (eVar 3) aN))))
  (sSeq (sFor (iL (eSl fSlL (eVar 3) oNo (oSome (eCallL F_take [true, false] (aC (eVar 2) (aC (eC (.int 4)) aN)))))) (pN 6)
  (sSeq (sAsg 7 (eCallL F_take [true, false] (aC (eVar 2) (aC (e2 fAdd (eB fLen (aC (eVar 4) aN)) (eC (.int 1))) aN))))
  (sDrop (eMut "list" gInsert 4 (aC (eVar 7) (aC (eMake 2 F_Member_init [] (aC (eVar 6) (aC (eC (.str "open")) (aC (eC (.int 0)) (aC (eC (.bl false)) (aC (eLst (aC (eMake 0 F_Tell_init [] (aC (eTup (aC (eC (.str "number")) (aC (eC (.int 2)) aN))) aN)) aN)) aN)))))) aN))))))
  (sSeq (sAsg 8 (eMake 3 F_Edition_init [] (aC (eC (.str "book")) (aC eDNew (aC eDNew (aC (eTup aN) (aC (eB fTupl (aC (eVar 4) aN)) aN)))))))
  (sSeq (sAsg 9 (eLc (iT (eFld "blocks" (eVar 8))) (pN 10) bYes (eDyn "head" M_head (eVar 10)) [10]))
  (sSeq (sAsg 11 (eCall F_first_order (aC (eVar 8) aN)))
  (sSeq (sIf (bOr (bNot (bE (eB (fIsi sub) (aC (eVar 11) (aC (eC (.ty "list")) aN))))) (bE (e2 (fEq true) (eB fRepr (aC (eVar 11) aN)) (eB fRepr (aC (eVar 5) aN)))))
  (sRet (eC (.bl false)))
  sNext)
  (sSeq (sDrop (eMut "list" gAppend 11 (aC (eC (.str "x")) aN)))
  (sSeq (sIf (bOr (bE (e2 (fEq true) (eB fRepr (aC (eCall F_first_order (aC (eVar 8) aN)) aN)) (eB fRepr (aC (eVar 5) aN)))) (bE (e2 (fEqD true) (eLc (iT (eFld "blocks" (eVar 8))) (pN 10) bYes (eDyn "head" M_head (eVar 10)) [10]) (eVar 9))))
  (sRet (eC (.bl false)))
  sNext)
  (sSeq (sAsg 12 (eMake 3 F_Edition_init [] (aC (eC (.str "page")) (aC eDNew (aC eDNew (aC (eTup aN) (aC (eB fTupl (aC (eLcX false 4 (pN 10) (bE (eB (fIsi sub) (aC (eVar 10) (aC (eC (.cls 2)) aN)))) (eVar 10) [10]) aN)) aN)))))))
  (sIf (bOr (bE (e2 (fEqD true) (eCall F_first_order (aC (eVar 12) aN)) (eLst aN))) (bE (e2 (fEq true) (eB fRepr (aC (eCall F_first_order (aC (eVar 8) aN)) aN)) (eB fRepr (aC (eVar 5) aN)))))
  (sRet (eC (.bl false)))
  sNext)))))))))))) : SF) = bd at e ⊢
  simp only [List.replicate_succ, List.replicate_zero] at e
  walk_at "eva"
  exact ⟨_, rfl⟩

end L16

set_option Elab.async false
set_option linter.all false
set_option maxRecDepth 100000
set_option maxHeartbeats 4000000
namespace L16
open PySem PySem.Spec PyProof.Rows L2 QB QT
def lo0 : List PySem.Str := ["_wall", "is_ready", "first_order", "QuietError", "BadText", "value_text", "Row", "Tell", "Put", "Same", "There", "Call", "End", "LETTERS", "DIGITS", "has_only", "is_name", "is_numeral", "is_tag", "place_parts", "read_value", "any_value", "EDITION_VALUES", "ACCESSES", "split_lines", "need_words", "check_head", "need_count", "need_name", "need_number"]
def lo1 : List PySem.Str := ["need_tag", "need_value", "place_kinds", "read_row", "check_skip", "is_cyclic_from", "ORDER", "read_cell", "read_first", "read_routine", "read_line", "read_lines", "MOST", "MOST_PLACES", "MOST_ROWS", "MOST_WORK", "Lines", "need", "check_many", "check_routine", "check_declaration", "check_row", "check_lines", "block_heads", "called_heads", "needed_heads", "check_rings", "work_of", "check_work", "First"]
def lo2 : List PySem.Str := ["Member", "Edition", "make_blocks", "rows_behind", "_law_bag", "_law_take", "_law_of", "_law_names", "_law_blocks"]
def loose : List PySem.Str := lo0 ++ lo1 ++ lo2
def cn : List Str := ["Tell", "First", "Member", "Edition"]
def flds : List Str := [("after" : Str), "firsts", "name", "value", "rows", "access", "tag", "is_default", "numbers", "cells", "wants", "blocks", "members"]
def frees : List Str := ["abs", "dict", "enumerate", "int", "isinstance", "len", "list", "max", "min", "range", "repr", "tuple"]
def gfn : List Str := ["is_ready", "_law_bag", "_law_take", "first_order", "_law_of", "_law_names", "_law_blocks", "law"]
def mfn : List (Str × Str) := [("First", "head"), ("Member", "head")]
def ifn : List Str := ["Tell", "First", "Member", "Edition"]
def exB (K : PySem.W.Frag) : Bool := QH.topB cn flds frees sub K && ((gfn.all fun x => (He.Fa.glo x).ok K) && ((mfn.all fun p => (He.Fa.meth p.1 p.2).ok K) && ifn.all fun x => (He.Fa.mkr x).ok K))
def dd_is_ready : He.DefD := ⟨("is_ready", none), "is_ready", "is_ready", C8.fnArgs s_is_ready, C8.fnBody s_is_ready, C8.fnScope s_is_ready, [], []⟩
def dd_Tell_init : He.DefD := ⟨("Tell", some "__init__"), "__init__", "Tell.__init__", C8.fnArgs s_Tell_init, C8.fnBody s_Tell_init, C8.fnScope s_Tell_init, [], []⟩
def dd_First_init : He.DefD := ⟨("First", some "__init__"), "__init__", "First.__init__", C8.fnArgs s_First_init, C8.fnBody s_First_init, C8.fnScope s_First_init, [], []⟩
def dd_First_head : He.DefD := ⟨("First", some "head"), "head", "First.head", C8.fnArgs s_First_head, C8.fnBody s_First_head, C8.fnScope s_First_head, [], []⟩
def dd_Member_init : He.DefD := ⟨("Member", some "__init__"), "__init__", "Member.__init__", C8.fnArgs s_Member_init, C8.fnBody s_Member_init, C8.fnScope s_Member_init, [], []⟩
def dd_Member_head : He.DefD := ⟨("Member", some "head"), "head", "Member.head", C8.fnArgs s_Member_head, C8.fnBody s_Member_head, C8.fnScope s_Member_head, [], []⟩
def dd_bag : He.DefD := ⟨("_law_bag", none), "_law_bag", "_law_bag", C8.fnArgs s_bag, C8.fnBody s_bag, C8.fnScope s_bag, [], []⟩
def dd_take : He.DefD := ⟨("_law_take", none), "_law_take", "_law_take", C8.fnArgs s_take, C8.fnBody s_take, C8.fnScope s_take, [], []⟩
def dd_first_order : He.DefD := ⟨("first_order", none), "first_order", "first_order", C8.fnArgs s_first_order, C8.fnBody s_first_order, C8.fnScope s_first_order, [], []⟩
def dd_of : He.DefD := ⟨("_law_of", none), "_law_of", "_law_of", C8.fnArgs s_of, C8.fnBody s_of, C8.fnScope s_of, [], []⟩
def dd_Edition_init : He.DefD := ⟨("Edition", some "__init__"), "__init__", "Edition.__init__", C8.fnArgs s_Edition_init, C8.fnBody s_Edition_init, C8.fnScope s_Edition_init, [], []⟩
def dd_names : He.DefD := ⟨("_law_names", none), "_law_names", "_law_names", C8.fnArgs s_names, C8.fnBody s_names, C8.fnScope s_names, [], []⟩
def dd_blocks : He.DefD := ⟨("_law_blocks", none), "_law_blocks", "_law_blocks", C8.fnArgs s_blocks, C8.fnBody s_blocks, C8.fnScope s_blocks, [], []⟩
def dd_law : He.DefD := ⟨("law", none), "law", "law", C8.fnArgs s_law, C8.fnBody s_law, C8.fnScope s_law, [], []⟩
def fns : List He.DefD := [dd_is_ready, dd_Tell_init, dd_First_init, dd_First_head, dd_Member_init, dd_Member_head, dd_bag, dd_take, dd_first_order, dd_of, dd_Edition_init, dd_names, dd_blocks, dd_law]
def rootN : List Str := ["Tell", "First", "Member", "Edition", "is_ready", "_law_bag", "_law_take", "first_order", "_law_of", "_law_names", "_law_blocks", "law"]
abbrev Rr : PySem.W.OpenRow := PySem.W.OpenLaw.row PySem.Challenge.rw_quietedition_k16_first_blocks
abbrev hk : PySem.W.Hook := QH.hookB 4 rootN exB fns
def ob (s : PySem.W.SharedT) : QH.AlB := QH.obsBG 4 rootN exB fns (HandSHeadRun.getT s)
theorem ob_eq (s : PySem.W.SharedT) : ob s = hk.obs s.abs := QH.obsBG_eq (HandSHeadRun.getT_eq s)
theorem run (w : World) : HandSHeadRun.RunEq Rr (PySem.W.view Rr.prog [78]) hk ob 20000 loose w := by
  refine PySem.W.byRow2 "special-get-raises" (P := fun w => HandSHeadRun.RunEq Rr (PySem.W.view Rr.prog [78]) hk ob 20000 loose w) ?_ ?_ w
  · intro w os
    kernel_rfl
  · intro w os
    kernel_rfl
theorem top_mk {K : PySem.W.Frag} {h : Heap} {mg : Str → Option Value} (X : K.In h) (G : h.Ns mainGlobals mg) (c : QH.SaysB exB fns K) : ∃ A, Top K mg A := by
  obtain ⟨t, e⟩ := He.ba c.exK
  obtain ⟨eg, e⟩ := He.ba e
  obtain ⟨em, ei⟩ := He.ba e
  obtain ⟨f_is_ready, F_is_ready⟩ := c.def_ 0 (d := dd_is_ready) rfl
  have h_is_ready : Dd K mg "is_ready" s_is_ready ["block", "taken"] := QH.dd_of F_is_ready (He.glo_ok X G (List.all_eq_true.mp eg "is_ready" (by decide +kernel))) (fun _ _ _ _ _ _ us hl => match us, hl with | [_, _], _ => rfl)
  obtain ⟨f_Tell_init, F_Tell_init⟩ := c.def_ 1 (d := dd_Tell_init) rfl
  obtain ⟨ds0_Tell_init, q1, q2, q3⟩ : ∃ ds, C8.Fun K "__init__" "Tell.__init__" s_Tell_init (He.fAd K dd_Tell_init.at_) f_Tell_init ∧ Binds K f_Tell_init ["self", "value"] ds ∧ Vals [] ds := ⟨[], QH.fun_of F_Tell_init, L2.FunD.bindsN F_Tell_init (fun _ _ _ _ _ _ us hl => match us, hl with | [_, _], _ => rfl), .nil⟩
  have h_Tell1 : Mi K mg "Tell" (QH.Acl cn K 0) "Tell.__init__" s_Tell_init ["self", "value"] [] := ⟨_, f_Tell_init, ds0_Tell_init, He.mkr_ok (x := "Tell") (List.all_eq_true.mp ei "Tell" (by decide +kernel)), QH.glo_of t X G 0, q1, q2, q3⟩
  obtain ⟨f_First_init, F_First_init⟩ := c.def_ 2 (d := dd_First_init) rfl
  obtain ⟨ds0_First_init, q1, q2, q3⟩ : ∃ ds, C8.Fun K "__init__" "First.__init__" s_First_init (He.fAd K dd_First_init.at_) f_First_init ∧ Binds K f_First_init ["self", "name", "after", "rows"] ds ∧ Vals [] ds := ⟨[], QH.fun_of F_First_init, L2.FunD.bindsN F_First_init (fun _ _ _ _ _ _ us hl => match us, hl with | [_, _, _, _], _ => rfl), .nil⟩
  have h_First3 : Mi K mg "First" (QH.Acl cn K 1) "First.__init__" s_First_init ["self", "name", "after", "rows"] [] := ⟨_, f_First_init, ds0_First_init, He.mkr_ok (x := "First") (List.all_eq_true.mp ei "First" (by decide +kernel)), QH.glo_of t X G 1, q1, q2, q3⟩
  obtain ⟨f_First_head, F_First_head⟩ := c.def_ 3 (d := dd_First_head) rfl
  have h_First_head : Md K (QH.Acl cn K 1) "head" "First.head" s_First_head ["self"] := ⟨_, f_First_head, QH.cls_of (QH.cls_at t (by decide) 1), He.meth_ok (x := "First") (List.all_eq_true.mp em ("First", "head") (by decide +kernel)), QH.fun_of F_First_head, L2.FunD.bindsN F_First_head (fun _ _ _ _ _ _ us hl => match us, hl with | [_], _ => rfl)⟩
  obtain ⟨f_Member_init, F_Member_init⟩ := c.def_ 4 (d := dd_Member_init) rfl
  obtain ⟨ds0_Member_init, q1, q2, q3⟩ : ∃ ds, C8.Fun K "__init__" "Member.__init__" s_Member_init (He.fAd K dd_Member_init.at_) f_Member_init ∧ Binds K f_Member_init ["self", "name", "access", "tag", "is_default", "rows"] ds ∧ Vals [] ds := ⟨[], QH.fun_of F_Member_init, L2.FunD.bindsN F_Member_init (fun _ _ _ _ _ _ us hl => match us, hl with | [_, _, _, _, _, _], _ => rfl), .nil⟩
  have h_Member5 : Mi K mg "Member" (QH.Acl cn K 2) "Member.__init__" s_Member_init ["self", "name", "access", "tag", "is_default", "rows"] [] := ⟨_, f_Member_init, ds0_Member_init, He.mkr_ok (x := "Member") (List.all_eq_true.mp ei "Member" (by decide +kernel)), QH.glo_of t X G 2, q1, q2, q3⟩
  obtain ⟨f_Member_head, F_Member_head⟩ := c.def_ 5 (d := dd_Member_head) rfl
  have h_Member_head : Md K (QH.Acl cn K 2) "head" "Member.head" s_Member_head ["self"] := ⟨_, f_Member_head, QH.cls_of (QH.cls_at t (by decide) 2), He.meth_ok (x := "Member") (List.all_eq_true.mp em ("Member", "head") (by decide +kernel)), QH.fun_of F_Member_head, L2.FunD.bindsN F_Member_head (fun _ _ _ _ _ _ us hl => match us, hl with | [_], _ => rfl)⟩
  obtain ⟨f_bag, F_bag⟩ := c.def_ 6 (d := dd_bag) rfl
  have h_bag : Dd K mg "_law_bag" s_bag ["_law_script", "_law_at"] := QH.dd_of F_bag (He.glo_ok X G (List.all_eq_true.mp eg "_law_bag" (by decide +kernel))) (fun _ _ _ _ _ _ us hl => match us, hl with | [_, _], _ => rfl)
  obtain ⟨f_take, F_take⟩ := c.def_ 7 (d := dd_take) rfl
  have h_take : Dd K mg "_law_take" s_take ["_law_bag_here", "_law_many"] := QH.dd_of F_take (He.glo_ok X G (List.all_eq_true.mp eg "_law_take" (by decide +kernel))) (fun _ _ _ _ _ _ us hl => match us, hl with | [_, _], _ => rfl)
  obtain ⟨f_first_order, F_first_order⟩ := c.def_ 8 (d := dd_first_order) rfl
  have h_first_order : Dd K mg "first_order" s_first_order ["edition"] := QH.dd_of F_first_order (He.glo_ok X G (List.all_eq_true.mp eg "first_order" (by decide +kernel))) (fun _ _ _ _ _ _ us hl => match us, hl with | [_], _ => rfl)
  obtain ⟨f_of, F_of⟩ := c.def_ 9 (d := dd_of) rfl
  have h_of : Dd K mg "_law_of" s_of ["_law_bag_here", "_law_some"] := QH.dd_of F_of (He.glo_ok X G (List.all_eq_true.mp eg "_law_of" (by decide +kernel))) (fun _ _ _ _ _ _ us hl => match us, hl with | [_, _], _ => rfl)
  obtain ⟨f_Edition_init, F_Edition_init⟩ := c.def_ 10 (d := dd_Edition_init) rfl
  obtain ⟨ds0_Edition_init, q1, q2, q3⟩ : ∃ ds, C8.Fun K "__init__" "Edition.__init__" s_Edition_init (He.fAd K dd_Edition_init.at_) f_Edition_init ∧ Binds K f_Edition_init ["self", "name", "numbers", "cells", "wants", "blocks"] ds ∧ Vals [] ds := ⟨[], QH.fun_of F_Edition_init, L2.FunD.bindsN F_Edition_init (fun _ _ _ _ _ _ us hl => match us, hl with | [_, _, _, _, _, _], _ => rfl), .nil⟩
  have h_Edition5 : Mi K mg "Edition" (QH.Acl cn K 3) "Edition.__init__" s_Edition_init ["self", "name", "numbers", "cells", "wants", "blocks"] [] := ⟨_, f_Edition_init, ds0_Edition_init, He.mkr_ok (x := "Edition") (List.all_eq_true.mp ei "Edition" (by decide +kernel)), QH.glo_of t X G 3, q1, q2, q3⟩
  obtain ⟨f_names, F_names⟩ := c.def_ 11 (d := dd_names) rfl
  have h_names : Dd K mg "_law_names" s_names ["_law_bag_here", "_law_many"] := QH.dd_of F_names (He.glo_ok X G (List.all_eq_true.mp eg "_law_names" (by decide +kernel))) (fun _ _ _ _ _ _ us hl => match us, hl with | [_, _], _ => rfl)
  obtain ⟨f_blocks, F_blocks⟩ := c.def_ 12 (d := dd_blocks) rfl
  have h_blocks : Dd K mg "_law_blocks" s_blocks ["_law_bag_here", "_law_names_here"] := QH.dd_of F_blocks (He.glo_ok X G (List.all_eq_true.mp eg "_law_blocks" (by decide +kernel))) (fun _ _ _ _ _ _ us hl => match us, hl with | [_, _], _ => rfl)
  obtain ⟨f_law, F_law⟩ := c.def_ 13 (d := dd_law) rfl
  have h_law : Dd K mg "law" s_law ["_law_script"] := QH.dd_of F_law (He.glo_ok X G (List.all_eq_true.mp eg "law" (by decide +kernel))) (fun _ _ _ _ _ _ us hl => match us, hl with | [_], _ => rfl)
  exact ⟨QH.Acl cn K, ⟨h_is_ready, h_Tell1, h_First3, h_First_head, h_Member5, h_Member_head, h_bag, h_take, h_first_order, h_of, h_Edition5, h_names, h_blocks, h_law, QH.glo_of t X G 0, QH.glo_of t X G 1, QH.glo_of t X G 2, QH.glo_of t X G 3, QH.kits_of t (by decide) (fun _ _ => sub_min), QH.fl_of t (by decide), QH.free_of t X G (by decide +kernel), QH.free_of t X G (by decide +kernel), QH.free_of t X G (by decide +kernel), QH.free_of t X G (by decide +kernel), QH.free_of t X G (by decide +kernel), QH.free_of t X G (by decide +kernel), QH.free_of t X G (by decide +kernel), QH.free_of t X G (by decide +kernel), QH.free_of t X G (by decide +kernel), QH.free_of t X G (by decide +kernel), QH.free_of t X G (by decide +kernel), QH.free_of t X G (by decide +kernel)⟩⟩
theorem law_fn {l : PySem.W.OpenLaw} {w : World} {K : PySem.W.Frag} {mg : Str → Option Value} {fa : Addr} (T : ∃ A, Top K mg A) (hfa : mg "law" = some (.ref fa)) :
    ∃ fd : FuncData, (∀ (s : Shared) (v : Value), BindsTo s fd ⟨[v], []⟩ [("_law_script", v)]) ∧ ∀ base : Heap, K.In base → base.Ns mainGlobals mg → QG.FnG l.prog w K mg base 5 fa fd ["_law_script"] (spLaw K) := by
  obtain ⟨A, T⟩ := T
  obtain ⟨f, fd, F, b, df⟩ := T.d_law.ex
  have e := hfa.symm.trans F.mgf
  cases e
  have F2 := F.fn
  obtain ⟨oc, od, dV, kV, doc, pm, an, cdv, ct, osl, rfl, lk, hcd⟩ := F2.ex
  have e2 : dV = .none := df
  subst e2
  exact ⟨_, fun s v => .of_eq rfl, fun base _ _ => fnG_imp (ok_law T F.fn) fun _ _ _ _ h => law_sp (fun ns hl => law_ok ns) h⟩
end L16
open PySem PySem.W PyProof.Rows in
set_option maxRecDepth 100000 in
set_option maxHeartbeats 0 in
theorem PySem.Challenge.cw_quietedition_k16_first_blocks_holds : PySem.Challenge.rw_quietedition_k16_first_blocks.Holds := by
  w_on; o_law
  refine HandSHeadRun.head_any (r := OpenLaw.row PySem.Challenge.rw_quietedition_k16_first_blocks) (q := view (OpenLaw.row PySem.Challenge.rw_quietedition_k16_first_blocks).prog [78]) (H := L16.hk) (ob := L16.ob) (M := 20000) (loose := L16.loose) (d := HandSHeadRun.topDef (OpenLaw.row PySem.Challenge.rw_quietedition_k16_first_blocks).prog 78) (kwd := []) L16.ob_eq
    (by kernel_rfl) (fun s => by kernel_rfl) L16.run (by kernel_rfl) (by kernel_rfl) (by kernel_rfl) (by rfl) (by first | assumption | decide +kernel) (by decide +kernel) ⟨rfl, rfl, rfl, rfl, rfl, by decide +kernel⟩ ?hw ?hc
  case hw => w_witness2
  case hc =>
    refine QH.walk_ofGE (l := PySem.Challenge.rw_quietedition_k16_first_blocks) (n := 63) (k := 5) (x := "_law_script") rfl (by decide) (by kernel_rfl) ⟨rfl, by decide, by decide⟩ ?F
    intro w mg fa h Y G hmg0
    obtain ⟨K, KX, c⟩ := Y
    have hmg : mg ("law" : PySem.Str) = some (.ref fa) := by
      have e : (HandSHeadRun.topDef (OpenLaw.row PySem.Challenge.rw_quietedition_k16_first_blocks).prog 78).name = ("law" : PySem.Str) := by kernel_rfl
      rw [← e]
      exact hmg0
    obtain ⟨fd, hb, hF⟩ := L16.law_fn (l := PySem.Challenge.rw_quietedition_k16_first_blocks) (w := w) (L16.top_mk KX G c) hmg
    exact ⟨K, fd, QT.spLaw K, KX, hb, fun H a ns hl _ hS => ⟨a, ns, rfl, hS, hl, fun _ => rfl⟩, hF⟩

