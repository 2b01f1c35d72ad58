import PyProof.Rows.All
import Wide.All
import OpenK.AllK
import Wide.FinOn
import HandS.ForMost
import HandS.Wide
import HandS.SetKeys
import HandS.IsInst
import HandS.Codes
import HandS.Deep
import HandS.SortInts
import HandS.Flow
import HandS.TupAny
import HandS.FStr
import HandS.SlotsOwn
import HandS.More
import HandS.Defaults
import HandS.Style
import HandS.Text
import HandS.Iter
import HandS.Head0
import HandS.Head1
import HandS.Head2
import HandS.HeadEnd
import HandS.HeadHook1
import HandS.HeadHook2
import HandS.SetBool
import HandS.Strs
import HandS.TupSets
import PyProof.Draws
import PySem.Challenge.RW_quietedition_k17_calls_of_editions
import KE.KStateDown
import Lean
set_option Elab.async false
set_option linter.all false
set_option maxRecDepth 100000
set_option maxHeartbeats 4000000
/-! Own layer: backward rules for readings, frames, packages of defs. -/
namespace QB
open PySem PySem.Spec PyProof.Rows L2

/-! ### readings by name -/
def kTest (QT : Bool → Hp → Prop) : VK := fun x H' => ∃ k, x = .bl k ∧ QT k H'
def kPart (QO : Option Int → Hp → Prop) : VK := fun x H1 => ∃ i, x = .int i ∧ QO (some i) H1
def kAnd (tb : TE) (σ : L2.St) (Q : VK) : VK := fun x H1 => ∃ c, x = .bl c ∧ if c = true then tb σ H1 Q else Q (.bl false) H1
def kOr (tb : TE) (σ : L2.St) (Q : VK) : VK := fun x H1 => ∃ c, x = .bl c ∧ if c = true then Q (.bl true) H1 else tb σ H1 Q
def kNot (Q : VK) : VK := fun x H1 => ∃ c, x = .bl c ∧ Q (.bl (!c)) H1
def kTru (K : PySem.W.Frag) (QT : Bool → Hp → Prop) : VK := fun x H' => ∃ k, TruV K x H' k ∧ QT k H'
def tTruth (K : PySem.W.Frag) (ta : TE) : TT := fun σ H Q => ta σ H fun x H' => ∃ k, TruV K x H' k ∧ Q k H'
def rLen (K : PySem.W.Frag) : List V → Hp → VK → Prop := fun xs H Q => ∃ p ys, xs = [.ref p] ∧ (SqL K H p ys ∨ SqT K H p ys) ∧ Q (.int ys.length) H
def rLst (K : PySem.W.Frag) : List V → Hp → VK → Prop := fun xs H Q => ∃ p ys, xs = [.ref p] ∧ (SqL K H p ys ∨ SqT K H p ys) ∧ ∀ l, H l = none → Q (.ref l) (upd H l (.lst ys))
def rTupl (K : PySem.W.Frag) : List V → Hp → VK → Prop := fun xs H Q => ∃ p ys, xs = [.ref p] ∧ ((SqL K H p ys ∧ ∀ l, H l = none → Q (.ref l) (upd H l (.tup ys))) ∨ (SqT K H p ys ∧ Q (.ref p) H))
def rInt : List V → Hp → VK → Prop := fun xs H Q => (∃ i, xs = [.int i] ∧ Q (.int i) H) ∨ ∃ k, xs = [.bl k] ∧ Q (.int (if k then 1 else 0)) H
def rAbs : List V → Hp → VK → Prop := fun xs H Q => ∃ i, xs = [.int i] ∧ Q (.int (if i < 0 then -i else i)) H
def rMax : List V → Hp → VK → Prop := fun xs H Q => ∃ i j, xs = [.int i, .int j] ∧ Q (.int (if j > i then j else i)) H
def rMin : List V → Hp → VK → Prop := fun xs H Q => ∃ i j, xs = [.int i, .int j] ∧ Q (.int (if j < i then j else i)) H
def rAddStr : R2 := fun x y H Q => ∃ i j, x = .str i ∧ y = .str j ∧ i.length + j.length ≤ sizeLine ∧ Q (.str (i ++ j)) H
section
variable {X : Cx}
theorem c_len : CallR X (.builtin "len") (rLen X.K) := call_len_seq
theorem c_lst : CallR X (.type "list") (rLst X.K) := call_list_of
theorem c_tup : CallR X (.type "tuple") (rTupl X.K) := call_tuple_of
theorem c_int : CallR X (.type "int") rInt := call_int1
theorem c_abs : CallR X (.builtin "abs") rAbs := call_abs
theorem c_max (hc : X.calm = true) : CallR X (.builtin "max") rMax := call_max2 hc
theorem c_min (hc : X.calm = true) : CallR X (.builtin "min") rMin := call_min2 hc
theorem o_adds : OpR X (binaryOp .Add) rAddStr := op_add_str
theorem pt_tru {a : Expr} {ta : TE} (ha : PE X a ta) (he : ∀ whole, isTrue a X.env whole = (do let v ← whole; standAt a.pos; holding [v] (truthy v))) : PT X a (tTruth X.K ta) := pt_truth ha he
end

/-! ### the same rules, the written part by its name (inside comprehensions) -/
section
variable {X : Cx} {e : Expr} {f : Str} {pos : Pos} {ta : TE} {tg : Expr} {a : Expr}
theorem kixL (K : PySem.W.Frag) (h : X.K = K) : IxR X (rIxL K) := h ▸ ix_list
theorem kixT (K : PySem.W.Frag) (h : X.K = K) : IxR X (rIxT K) := h ▸ ix_tup
theorem kixQ (K : PySem.W.Frag) (h : X.K = K) : IxR X (rIx K) := h ▸ ix_seq
theorem koIn (K : PySem.W.Frag) (h : X.K = K) : OpR X (compareOp .In) (rIn K false) := h ▸ op_in_seq
theorem koNi (K : PySem.W.Frag) (h : X.K = K) : OpR X (compareOp .NotIn) (rIn K true) := h ▸ op_notIn_seq
theorem koEq (K : PySem.W.Frag) (h : X.K = K) (hu : X.A.units + 64 < cLine) : OpR X (compareOp .Eq) (rEqD K) := h ▸ op_eqD hu
theorem koNe (K : PySem.W.Frag) (h : X.K = K) (hu : X.A.units + 64 < cLine) : OpR X (compareOp .NotEq) (rNeD K) := h ▸ op_neD hu
theorem koInD (K : PySem.W.Frag) (h : X.K = K) (hu : X.A.units + 65 < cLine) : OpR X (compareOp .In) (rInD K) := h ▸ op_inD hu
theorem koNiD (K : PySem.W.Frag) (h : X.K = K) (hu : X.A.units + 65 < cLine) : OpR X (compareOp .NotIn) (rNotInD K) := h ▸ op_notInD hu
theorem kcLen (K : PySem.W.Frag) (h : X.K = K) : CallR X (.builtin "len") (rLen K) := h ▸ c_len
theorem kcLst' (K : PySem.W.Frag) (h : X.K = K) : CallR X (.type "list") (rLst K) := h ▸ c_lst
theorem kcTup (K : PySem.W.Frag) (h : X.K = K) : CallR X (.type "tuple") (rTupl K) := h ▸ c_tup
theorem kcIsi (K : PySem.W.Frag) (h : X.K = K) : CallR X (.builtin "isinstance") (rIsi K) := h ▸ call_isi
theorem kslL (K : PySem.W.Frag) (h : X.K = K) : SlR X (rSlL K) := h ▸ sl_list
theorem kslT (K : PySem.W.Frag) (h : X.K = K) : SlR X (rSlA K) := h ▸ sl_tupA
theorem kcatA (K : PySem.W.Frag) (h : X.K = K) : OpR X (binaryOp .Add) (rCatA K) := h ▸ op_catA
theorem kpt_tru (K : PySem.W.Frag) (h : X.K = K) (ha : PE X a ta) (he : ∀ whole, isTrue a X.env whole = (do let v ← whole; standAt a.pos; holding [v] (truthy v))) : PT X a (tTruth K ta) := h ▸ pt_tru ha he
theorem kpe_fld (K : PySem.W.Frag) (h : X.K = K) (he : PE X e ta) (hb : attributeBase e f X.env (eval e X.env) = eval e X.env) : PE X (.Attribute e f pos) (tFld K ta f) := h ▸ pe_fld he hb
theorem kpi_list (K : PySem.W.Frag) (h : X.K = K) {l : Expr} {tl : TE} (hl : PE X l tl) : PI X tg l (iList K tl) := h ▸ pi_list hl
theorem kpi_tup (K : PySem.W.Frag) (h : X.K = K) {l : Expr} {tl : TE} (hl : PE X l tl) : PI X tg l (iTup K tl) := h ▸ pi_tup hl
end

/-! ### rules, goal by goal -/
section
variable {K : PySem.W.Frag} {σ : L2.St} {H : Hp} {Q : VK} {QT : Bool → Hp → Prop} {QA : List V → Hp → Prop} {D : Ends} {t u u2 : TS} {ta tb te to ti : TE} {c c1 c2 : TT} {tl tr : TA} {r : R2} {v x y : V} {i : Nat}
theorem seq (h : t { D with nx := u D } σ H) : tSeq t u D σ H := h
theorem seqA {g : TG} (h : te σ H fun x H1 => g x σ H1 (u D)) : tSeq (tAsg te g) u D σ H := h
theorem seqD (h : te σ H fun _ H1 => u D σ H1) : tSeq (tDrop te) u D σ H := h
theorem seqU {ip : TIp} (h : tAug i te ip { D with nx := u D } σ H) : tSeq (tAug i te ip) u D σ H := h
theorem seqP {j : Nat} (h : tPar i j tl { D with nx := u D } σ H) : tSeq (tPar i j tl) u D σ H := h
theorem seqI (h : c σ H fun b H1 => if b = true then t { D with nx := u2 D } σ H1 else u { D with nx := u2 D } σ H1) : tSeq (tIfS c t u) u2 D σ H := h
theorem parv {j : Nat} (h : tl σ H fun vs H1 => ∃ v w, vs = [v, w] ∧ D.nx ((σ.set i (some v)).set j (some w)) H1) : tPar i j tl D σ H := h
theorem augv {ip : TIp} (e : σ[i]? = some (some x)) (h : te σ H fun y H1 => ip x y H1 fun z H2 => D.nx (σ.set i (some z)) H2) : tAug i te ip D σ H := ⟨x, e, h⟩
theorem ipi {f : Int → Int → Int} {a b : Int} (h : Q (.int (f a b)) H) : ipI f (.int a) (.int b) H Q := ⟨a, b, rfl, rfl, h⟩
theorem nxk {f b k : L2.St → Hp → Prop} {r : VK} (h : f σ H) : Ends.nx ⟨f, r, b, k⟩ σ H := h
theorem rtk {f b k : L2.St → Hp → Prop} {r : VK} (h : r v H) : Ends.rt ⟨f, r, b, k⟩ v H := h
theorem bkk {f b k : L2.St → Hp → Prop} {r : VK} (h : b σ H) : Ends.bk ⟨f, r, b, k⟩ σ H := h
theorem ctk {f b k : L2.St → Hp → Prop} {r : VK} (h : k σ H) : Ends.ct ⟨f, r, b, k⟩ σ H := h
theorem ifK (k : ∀ Y Z : Hp → Prop, (∀ H1, t D σ H1 → Y H1) → (∀ H1, u D σ H1 → Z H1) → c σ H fun b H1 => if b = true then Y H1 else Z H1) : tIfS c t u D σ H := k _ _ (fun _ q => q) (fun _ q => q)
theorem seqR {P : L2.St → Hp → Prop} (h : ∀ σ H, P σ H → u D σ H) (k : ∀ U : L2.St → Hp → Prop, (∀ σ H, P σ H → U σ H) → t { D with nx := U } σ H) : tSeq t u D σ H := k _ h
theorem nxt (h : D.nx σ H) : tNext D σ H := h
theorem drop (h : te σ H fun _ H1 => D.nx σ H1) : tDrop te D σ H := h
theorem ret (h : te σ H D.rt) : tRet te D σ H := h
theorem ifs (h : c σ H fun b H1 => if b = true then t D σ H1 else u D σ H1) : tIfS c t u D σ H := h
theorem setv (h : te σ H fun x H1 => D.nx (σ.set i (some x)) H1) : tAsg te (gName i) D σ H := h
theorem sets {ts : TSet} (h : te σ H fun v H1 => to σ H1 fun o H2 => ti σ H2 fun i H3 => ts o i v H3 fun H4 => D.nx σ H4) : tAsg te (gSub to ti ts) D σ H := h
theorem gsb {QG : L2.St → Hp → Prop} {ts : TSet} (h : to σ H fun o H2 => ti σ H2 fun i H3 => ts o i v H3 fun H4 => QG σ H4) : gSub to ti ts v σ H QG := h
theorem gnm {QG : L2.St → Hp → Prop} (h : QG (σ.set i (some v)) H) : gName i v σ H QG := h
theorem var (e : σ[i]? = some (some v)) (h : Q v H) : tVar i σ H Q := ⟨v, e, h⟩
theorem cst (h : Q v H) : tC v σ H Q := h
theorem opr (h : ta σ H fun x H1 => tb σ H1 fun y H2 => r x y H2 Q) : tOp r ta tb σ H Q := h
theorem unr {r : V → Hp → VK → Prop} (h : ta σ H fun x H1 => r x H1 Q) : tUn r ta σ H Q := h
theorem tst (h : te σ H (kTest QT)) : tTest te σ H QT := h
theorem tbb (h : te σ H (kTest QT)) : tB te σ H QT := h
theorem exb {b : Bool} (h : QT b H) : kTest QT (.bl b) H := ⟨b, rfl, h⟩
theorem exi {j : Int} {QO : Option Int → Hp → Prop} (h : QO (some j) H) : kPart QO (.int j) H := ⟨j, rfl, h⟩
theorem tand (h : c1 σ H fun b H1 => if b = true then c2 σ H1 QT else QT false H1) : tAnd c1 c2 σ H QT := h
theorem tor (h : c1 σ H fun b H1 => if b = true then QT true H1 else c2 σ H1 QT) : tOr c1 c2 σ H QT := h
theorem tnot (h : c1 σ H fun b H1 => QT (!b) H1) : tNot c1 σ H QT := h
theorem tif (h : c1 σ H fun b H1 => if b = true then ta σ H1 Q else tb σ H1 Q) : tIf c1 ta tb σ H Q := h
theorem andv (h : ta σ H (kAnd tb σ Q)) : tAndV ta tb σ H Q := h
theorem orv (h : ta σ H (kOr tb σ Q)) : tOrV ta tb σ H Q := h
theorem kand {b : Bool} (h : if b = true then tb σ H Q else Q (.bl false) H) : kAnd tb σ Q (.bl b) H := ⟨b, rfl, h⟩
theorem kor {b : Bool} (h : if b = true then Q (.bl true) H else tb σ H Q) : kOr tb σ Q (.bl b) H := ⟨b, rfl, h⟩
theorem notv (h : ta σ H (kNot Q)) : tNotV ta σ H Q := h
theorem knot {b : Bool} (h : Q (.bl (!b)) H) : kNot Q (.bl b) H := ⟨b, rfl, h⟩
theorem tnil (h : QA [] H) : tNil σ H QA := h
theorem tcons (h : ta σ H fun x H1 => tr σ H1 fun xs H2 => QA (x :: xs) H2) : tCons ta tr σ H QA := h
theorem tcb {r : List V → Hp → VK → Prop} (h : tl σ H fun vs H1 => r vs H1 Q) : tCB r tl σ H Q := h
theorem tcall {sp : Sp} {dvs : List V} {E : XK} (h : tl σ H fun vs H1 => sp (vs ++ dvs) H1 Q E) : tCall sp dvs E tl σ H Q := h
theorem ttup (h : tl σ H fun xs H1 => xs.length ≤ sizeLine ∧ ∀ p, H1 p = none → Q (.ref p) (upd H1 p (.tup xs))) : tTup tl σ H Q := h
theorem tlst (h : tl σ H fun xs H1 => xs.length ≤ sizeLine ∧ ∀ p, H1 p = none → Q (.ref p) (upd H1 p (.lst xs))) : tLst tl σ H Q := h
theorem tbm {T : String} {r : V → List V → Hp → VK → Prop} (h : to σ H fun x H1 => tyV K T x H1 ∧ tl σ H1 fun xs H2 => r x xs H2 Q) : tBM K T r to tl σ H Q := h
theorem tbm0 {T : String} {r : V → List V → Hp → VK → Prop} (h : to σ H fun x H1 => tyV K T x H1 ∧ r x [] H1 Q) : tBM0 K T r to σ H Q := h
theorem tsl {r : V → Option Int → Option Int → Hp → VK → Prop} {t1 t2 : TO} (h : te σ H fun x H1 => t1 σ H1 fun l H2 => t2 σ H2 fun u H3 => r x l u H3 Q) : tSl r te t1 t2 σ H Q := h
theorem prt {QO : Option Int → Hp → Prop} (h : te σ H (kPart QO)) : tPart te σ H QO := h
theorem npr {QO : Option Int → Hp → Prop} (h : QO none H) : tNoPart σ H QO := h
theorem rI0' {g : Int → Int → V} {a b : Int} (h : Q (g a b) H) : rI0 g (.int a) (.int b) H Q := ⟨a, b, rfl, rfl, h⟩
theorem rI' {C : Int → Int → Prop} {g : Int → Int → V} {a b : Int} (hc : C a b) (h : Q (g a b) H) : rI C g (.int a) (.int b) H Q := ⟨a, b, rfl, rfl, hc, h⟩
theorem rU' {g : Int → V} {a : Int} (h : Q (g a) H) : rU g (.int a) H Q := ⟨a, rfl, h⟩
theorem req (hs : scal x y = true) (h : Q (.bl (decide (x = y))) H) : rEq x y H Q := ⟨hs, h⟩
theorem rne (hs : scal x y = true) (h : Q (.bl (!decide (x = y))) H) : rNe x y H Q := ⟨hs, h⟩
theorem ixl {p : Addr} {xs : List V} {j : Int} (hp : SqL K H p xs) (ha : atI xs j = some v) (h : Q v H) : rIxL K (.ref p) (.int j) H Q := ⟨p, xs, j, v, rfl, rfl, hp, ha, h⟩
theorem ixt {p : Addr} {xs : List V} {j : Int} (hp : SqT K H p xs) (ha : atI xs j = some v) (h : Q v H) : rIxT K (.ref p) (.int j) H Q := ⟨p, xs, j, v, rfl, rfl, hp, ha, h⟩
theorem setl {p : Addr} {xs : List V} {k : Int} {j : Nat} {QH : Hp → Prop} (hp : H p = some (.lst xs)) (hj : ixN xs.length k = some j) (h : QH (upd H p (.lst (xs.set j v)))) : rSetL (.ref p) (.int k) v H QH := ⟨p, xs, k, j, rfl, rfl, hp, hj, h⟩
theorem ins {neg : Bool} {p : Addr} {xs : List V} (hp : SqL K H p xs) (hx : flatV x = true) (ha : xs.all flatV = true) (h : Q (.bl (if neg then !inV x xs else inV x xs)) H) : rIn K neg x (.ref p) H Q := ⟨p, xs, rfl, .inl hp, hx, ha, h⟩
theorem inst {neg : Bool} {p : Addr} {xs : List V} (hp : SqT K H p xs) (hx : flatV x = true) (ha : xs.all flatV = true) (h : Q (.bl (if neg then !inV x xs else inV x xs)) H) : rIn K neg x (.ref p) H Q := ⟨p, xs, rfl, .inr hp, hx, ha, h⟩
theorem app {l : Addr} {xs : List V} (hl : H l = some (.lst xs)) (hn : xs.length < sizeLine) (h : Q .non (upd H l (.lst (xs ++ [y])))) : rAppend (.ref l) [y] H Q := ⟨l, xs, y, rfl, rfl, hl, hn, h⟩
theorem rvs {l : Addr} {xs : List V} (hl : H l = some (.lst xs)) (h : Q .non (upd H l (.lst xs.reverse))) : rReverse (.ref l) [] H Q := ⟨l, xs, rfl, rfl, hl, h⟩
theorem tyl {l : Addr} {xs : List V} {P : Prop} (hl : SqL K H l xs) (h : P) : tyV K "list" (.ref l) H ∧ P := ⟨.inl ⟨rfl, xs, hl⟩, h⟩
theorem sll {p : Addr} {xs : List V} {lo hi : Option Int} (hp : SqL K H p xs) (h : ∀ q, H q = none → Q (.ref q) (upd H q (.lst (cutV xs lo hi)))) : rSlL K (.ref p) lo hi H Q := ⟨p, xs, rfl, hp, h⟩
theorem cat {a b : Addr} {xs ys : List V} (h1 : H a = some (.lst xs)) (h2 : H b = some (.lst ys)) (hn : xs.length + ys.length ≤ sizeLine) (h : ∀ q, H q = none → Q (.ref q) (upd H q (.lst (xs ++ ys)))) : rCat (.ref a) (.ref b) H Q := ⟨a, b, xs, ys, rfl, rfl, h1, h2, hn, h⟩
theorem srtd {a : Addr} {ns : List Int} (h1 : SqL K H a (ns.map V.int)) (h : ∀ (ms : List Int) (q : Addr), ms.Perm ns → ms.Pairwise (· ≤ ·) → H q = none → Q (.ref q) (upd H q (.lst (ms.map V.int)))) : rSortedI K [.ref a] H Q := ⟨a, ns, rfl, h1, h⟩
theorem len_l {p : Addr} {xs : List V} (hp : SqL K H p xs) (h : Q (.int xs.length) H) : rLen K [.ref p] H Q := ⟨p, xs, rfl, .inl hp, h⟩
theorem len_t {p : Addr} {xs : List V} (hp : SqT K H p xs) (h : Q (.int xs.length) H) : rLen K [.ref p] H Q := ⟨p, xs, rfl, .inr hp, h⟩
theorem lst_l {p : Addr} {xs : List V} (hp : SqL K H p xs) (h : ∀ l, H l = none → Q (.ref l) (upd H l (.lst xs))) : rLst K [.ref p] H Q := ⟨p, xs, rfl, .inl hp, h⟩
theorem lst_t {p : Addr} {xs : List V} (hp : SqT K H p xs) (h : ∀ l, H l = none → Q (.ref l) (upd H l (.lst xs))) : rLst K [.ref p] H Q := ⟨p, xs, rfl, .inr hp, h⟩
theorem tup_l {p : Addr} {xs : List V} (hp : SqL K H p xs) (h : ∀ l, H l = none → Q (.ref l) (upd H l (.tup xs))) : rTupl K [.ref p] H Q := ⟨p, xs, rfl, .inl ⟨hp, h⟩⟩
theorem tup_t {p : Addr} {xs : List V} (hp : SqT K H p xs) (h : Q (.ref p) H) : rTupl K [.ref p] H Q := ⟨p, xs, rfl, .inr ⟨hp, h⟩⟩
theorem int_i {a : Int} (h : Q (.int a) H) : rInt [.int a] H Q := .inl ⟨a, rfl, h⟩
theorem abs_i {a : Int} (h : Q (.int (if a < 0 then -a else a)) H) : rAbs [.int a] H Q := ⟨a, rfl, h⟩
theorem max_i {a b : Int} (h : Q (.int (if b > a then b else a)) H) : rMax [.int a, .int b] H Q := ⟨a, b, rfl, h⟩
theorem min_i {a b : Int} (h : Q (.int (if b < a then b else a)) H) : rMin [.int a, .int b] H Q := ⟨a, b, rfl, h⟩
theorem adds {a b : Str} (hl : a.length + b.length ≤ sizeLine) (h : Q (.str (a ++ b)) H) : rAddStr (.str a) (.str b) H Q := ⟨a, b, rfl, rfl, hl, h⟩
theorem tru (h : te σ H (kTru K QT)) : tTruth K te σ H QT := h
theorem trl {p : Addr} {xs : List V} (hp : SqL K H p xs) (h : QT (!xs.isEmpty) H) : kTru K QT (.ref p) H := ⟨_, .inl ⟨xs, hp, rfl⟩, h⟩
theorem trt {p : Addr} {xs : List V} (hp : SqT K H p xs) (h : QT (!xs.isEmpty) H) : kTru K QT (.ref p) H := ⟨_, .inr (.inl ⟨xs, hp, rfl⟩), h⟩
theorem itT {A B : Prop} (h : A) : if true = true then A else B := by rw [if_pos rfl]; exact h
theorem itF {A B : Prop} (h : B) : if false = true then A else B := by rw [if_neg Bool.false_ne_true]; exact h
theorem itNT {A B : Prop} (h : B) : if (!true) = true then A else B := itF h
theorem itNF {A B : Prop} (h : A) : if (!false) = true then A else B := itT h
theorem itD {p : Prop} [Decidable p] {A B : Prop} (h1 : p → A) (h2 : ¬ p → B) : if decide p = true then A else B := by
  by_cases h : p
  · rw [if_pos (decide_eq_true h)]; exact h1 h
  · rw [if_neg (by rw [decide_eq_false h]; decide)]; exact h2 h
theorem itN {b : Bool} {A B : Prop} (h1 : b = false → A) (h2 : b = true → B) : if (!b) = true then A else B := by
  cases b with
  | true => exact itF (h2 rfl)
  | false => exact itT (h1 rfl)
theorem itB {b : Bool} {A B : Prop} (h1 : b = true → A) (h2 : b = false → B) : if b = true then A else B := by
  cases b with
  | true => exact itT (h1 rfl)
  | false => exact itF (h2 rfl)
end

/-! ### frames -/
/-- all but p is as it was -/
def Fr (p : Addr) (H H' : Hp) : Prop := ∀ b o, b ≠ p → H b = some o → H' b = some o
theorem Fr.refl (p : Addr) (H : Hp) : Fr p H H := fun _ _ _ h => h
theorem Fr.trans {p : Addr} {H H1 H2 : Hp} (a : Fr p H H1) (b : Fr p H1 H2) : Fr p H H2 := fun x o n h => b x o n (a x o n h)
theorem Fr.of {p : Addr} {H H' : Hp} (s : Same H H') : Fr p H H' := fun b o _ h => s b o h
theorem Fr.upd {p : Addr} {H H' : Hp} {o : HO} (f : Fr p H H') : Fr p H (upd H' p o) := fun b u n h => by rw [upd_ne n]; exact f b u n h
theorem Fr.l {K : PySem.W.Frag} {p a : Addr} {H H' : Hp} {xs : List V} (f : Fr p H H') (n : a ≠ p) (h : SqL K H a xs) : SqL K H' a xs := by
  rcases h with (h | ⟨o, h⟩) | h
  · exact .inl (.inl (f _ _ n h))
  · exact .inl (.inr ⟨o, f _ _ n h⟩)
  · exact .inr h
theorem Fr.t {K : PySem.W.Frag} {p a : Addr} {H H' : Hp} {xs : List V} (f : Fr p H H') (n : a ≠ p) (h : SqT K H a xs) : SqT K H' a xs := by
  rcases h with (h | ⟨o, h⟩) | h
  · exact .inl (.inl (f _ _ n h))
  · exact .inl (.inr ⟨o, f _ _ n h⟩)
  · exact .inr h
theorem same_new {H : Hp} {p : Addr} {o : HO} (h : H p = none) : Same H (upd H p o) := fun b x e => by
  rw [upd_ne (ne_of_none e h)]
  exact e
/-- an object that H does not know may change -/
theorem same_mut {H H' : Hp} {p : Addr} {o : HO} (s : Same H H') (h : H p = none) : Same H (upd H' p o) := fun a u ha => by
  rw [upd_ne (ne_of_none ha h)]
  exact s a u ha
theorem same_t {K : PySem.W.Frag} {H H' : Hp} {a : Addr} {xs : List V} (e : Same H H') (h : SqT K H a xs) : SqT K H' a xs := by
  rcases h with (h | ⟨o, h⟩) | h
  · exact .inl (.inl (e _ _ h))
  · exact .inl (.inr ⟨o, e _ _ h⟩)
  · exact .inr h
/-- what stood when g was new stands when g changes -/
theorem sq_mut {K : PySem.W.Frag} {H H' : Hp} {b g : Addr} {xs : List V} {o : HO} (h : SqL K H b xs) (hg : H g = none) (h' : SqL K H' b xs) : SqL K (upd H' g o) b xs := by
  by_cases e : b = g
  · subst e
    rcases h with (h | ⟨o, h⟩) | h
    · rw [hg] at h; cases h
    · rw [hg] at h; cases h
    · exact .inr h
  · rcases h' with (h' | ⟨o, h'⟩) | h'
    · exact .inl (.inl (by rw [upd_ne e]; exact h'))
    · exact .inl (.inr ⟨o, by rw [upd_ne e]; exact h'⟩)
    · exact .inr h'
/-- the heap without p -/
def wo (H : Hp) (p : Addr) : Hp := fun b => if b = p then none else H b
theorem wo_ne {H : Hp} {p b : Addr} (n : b ≠ p) : wo H p b = H b := by unfold wo; rw [if_neg n]
theorem wo_p {H : Hp} {p : Addr} : wo H p p = none := by unfold wo; rw [if_pos rfl]
theorem wo_same {H : Hp} {p : Addr} : Same (wo H p) H := fun b o e => by
  unfold wo at e
  split at e
  · cases e
  · exact e
theorem Fr.wo {p : Addr} {H H' : Hp} (f : Fr p H H') : Same (wo H p) (QB.wo H' p) := fun b o e => by
  by_cases n : b = p
  · subst n; rw [wo_p] at e; cases e
  · rw [wo_ne n] at e ⊢; exact f b o n e
theorem wo_upd {p : Addr} {H : Hp} {o : HO} : Same (wo H p) (wo (upd H p o) p) := Fr.wo ((Fr.refl p H).upd)

/-! ### defs as packages -/
structure Dd (K : PySem.W.Frag) (mg : Str → Option Value) (x : Str) (st : Stmt) (ps : List Str) : Prop where
  ex : ∃ (f : Addr) (fd : FuncData), C8.Def K mg x st f fd ∧ Binds K fd ps [] ∧ fd.defaults = .none
theorem dd_mk {K : PySem.W.Frag} {mg : Str → Option Value} {x : Str} {st : Stmt} {ps : List Str} {h : Heap} {f : Addr} {oc : Value} {od an : Option Addr} {osl : Array (Option Value)} {kV doc pm cdv ct : Value}
    (X : K.In h) (G : h.Ns mainGlobals mg) (a : PySem.W.nsIn K mainGlobals x = some (some (.ref f)))
    (l : K.lookup f = some ⟨oc, od, .func (PySem.W.fnOf x x (C8.fnArgs st) (C8.fnBody st) (C8.fnScope st) .none kV doc pm an cdv ct), osl⟩) (c : PySem.W.codeIn K cdv x = true) (k : PySem.W.keepIn K (.ref f) = true)
    (b : ∀ (kV doc pm : Value) (an : Option Addr) (cdv ct : Value) (us : List Value), us.length = ps.length → bindArgs (PySem.W.fnOf x x (C8.fnArgs st) (C8.fnBody st) (C8.fnScope st) .none kV doc pm an cdv ct) ⟨us, []⟩ = pure (ps.zip us)) : Dd K mg x st ps :=
  ⟨f, _, ⟨⟨_, _, _, _, _, _, _, _, _, _, rfl, l, c⟩, PySem.W.mg_of X G a, k⟩, .all (b kV doc pm an cdv ct), rfl⟩
theorem cal_of {P : Program} {w : World} {K : PySem.W.Frag} {mg : Str → Option Value} {base : Heap} {x : Str} {st : Stmt} {N ps : List Str} {k : Nat} {sp : Sp} (d : Dd K mg x st ps) (S : FnScope N ps (C8.fnScope st)) (len : ∀ vs H Q E, sp vs H Q E → vs.length = ps.length)
    (hbody : ∀ (f : Addr) (cdv : Value) (A : Around) (outer : List Env) (s : Shared) (H : Hp) (vs : List V) (Q : VK) (E : XK), Room k (A.deeper (envOfC x (C8.fnScope st) s.heap.objs.size f cdv)) → sp vs H Q E →
      ∃ t, PSs (cxOf CX0 P w K mg base N x (C8.fnScope st) f cdv A outer s H E).nox (C8.fnBody st) t ∧ t { nx := fun _ H' => Q .non H', rt := Q } (start N vs) H) : C8.Cal P w K mg base (k + 1) x sp [] := by
  obtain ⟨f, fd, F, b, _⟩ := d.ex
  exact C8.cal0 F b .nil S len (hbody f)
/-! ### ints in sequences -/
theorem idx_before : ∀ (ns : List Int) (x y : Int) (m : Nat), m < ns.idxOf x → ns[m]? = some y → y ≠ x
  | [], _, _, _, h, _ => by simp at h
  | z :: r, x, y, 0, h, e => by
    simp at e
    subst e
    intro e2
    subst e2
    simp at h
  | z :: r, x, y, m + 1, h, e => by
    rw [List.idxOf_cons] at h
    by_cases hz : z = x
    · subst hz; simp at h
    · have : (z == x) = false := by simp [hz]
      rw [this] at h
      simp at h e
      exact idx_before r x y m h e
theorem flat_ints (ns : List Int) : (ns.map V.int).all flatV = true := by simp [List.all_eq_true, flatV]
theorem in_ints (x : Int) (ns : List Int) : inV (.int x) (ns.map V.int) = decide (x ∈ ns) := by
  unfold inV
  induction ns with
  | nil => rfl
  | cons y r ih =>
    rw [List.map_cons, List.any_cons, ih]
    show ((y == x) || decide (x ∈ r)) = decide (x ∈ y :: r)
    by_cases h : y = x
    · subst h; simp
    · have h' : ¬ x = y := fun e => h e.symm
      simp [h, h']
section
variable {K : PySem.W.Frag} {σ : L2.St} {H : Hp} {Q : VK} {QT : Bool → Hp → Prop} {D : Ends} {t u tb : TS} {te : TE} {x : Int} {p : Addr} {ns : List Int} {g : TG} {A B : Prop} {v : V}
theorem inL (hp : SqL K H p (ns.map V.int)) (h : Q (.bl (decide (x ∈ ns))) H) : rIn K false (.int x) (.ref p) H Q := ⟨p, _, rfl, .inl hp, rfl, flat_ints ns, by rw [in_ints]; exact h⟩
theorem niL (hp : SqL K H p (ns.map V.int)) (h : Q (.bl (!decide (x ∈ ns))) H) : rIn K true (.int x) (.ref p) H Q := ⟨p, _, rfl, .inl hp, rfl, flat_ints ns, by rw [in_ints]; exact h⟩
theorem inT (hp : SqT K H p (ns.map V.int)) (h : Q (.bl (decide (x ∈ ns))) H) : rIn K false (.int x) (.ref p) H Q := ⟨p, _, rfl, .inr hp, rfl, flat_ints ns, by rw [in_ints]; exact h⟩
theorem niT (hp : SqT K H p (ns.map V.int)) (h : Q (.bl (!decide (x ∈ ns))) H) : rIn K true (.int x) (.ref p) H Q := ⟨p, _, rfl, .inr hp, rfl, flat_ints ns, by rw [in_ints]; exact h⟩
theorem idxL (hp : SqL K H p (ns.map V.int)) (hx : x ∈ ns) (h : Q (.int ((ns.idxOf x : Nat) : Int)) H) : rIndex K (.ref p) [.int x] H Q := by
  have hi := List.idxOf_lt_length_of_mem hx
  refine ⟨p, _, .int x, ns.idxOf x, .int x, rfl, rfl, hp, rfl, flat_ints ns, ?_, ?_, fun m z hm hz => ?_, h⟩
  · rw [List.getElem?_map, List.getElem?_eq_getElem hi, List.getElem_idxOf]; rfl
  · show (x == x) = true
    simp
  · rw [List.getElem?_map] at hz
    cases e : ns[m]? with
    | none => rw [e] at hz; cases hz
    | some y =>
      rw [e] at hz
      cases hz
      show (y == x) = false
      obtain ⟨hl, ey⟩ := List.getElem?_eq_some_iff.mp e
      have := idx_before ns x y m hm e
      simpa using this
theorem cut_take {xs : List V} {k : Nat} (h : k ≤ xs.length) : cutV xs none (some (k : Int)) = xs.take k := by
  unfold cutV
  rw [HT.sIx_nat, HT.sIx_none, Nat.min_eq_left h]
  simp
theorem cut_drop {xs : List V} {k : Nat} (h : k ≤ xs.length) : cutV xs (some (k : Int)) none = xs.drop k := by
  unfold cutV
  rw [HT.sIx_nat, HT.sIx_none, Nat.min_eq_left h]
  exact List.take_of_length_le (by rw [List.length_drop]; omega)
theorem itND {c : Prop} [Decidable c] (h1 : ¬ c → A) (h2 : c → B) : if (!decide c) = true then A else B := by
  by_cases h : c
  · rw [if_neg (by rw [decide_eq_true h]; decide)]; exact h2 h
  · rw [if_pos (by rw [decide_eq_false h]; rfl)]; exact h1 h
theorem len_map {f : Int → V} : ((ns.map f).length : Int) = (ns.length : Int) := by rw [List.length_map]
theorem at_ints {j : Int} {y : Int} (h0 : 0 ≤ j) (h : ns[j.toNat]? = some y) : atI (ns.map V.int) j = some (.int y) := at_of (j := j.toNat) (by omega) (by rw [List.getElem?_map, h]; rfl)
theorem at_any {xs : List V} {j : Int} {y : V} (h0 : 0 ≤ j) (h : xs[j.toNat]? = some y) : atI xs j = some y := at_of (j := j.toNat) (by omega) h
/-! ### for -/
def ForW (J : It) (g : TG) (tb : TS) (D : Ends) (σ : L2.St) (H : Hp) : Prop := ∃ W : Nat → Nat → L2.St → Hp → Prop, (∃ m, W 0 m σ H) ∧ ∀ i m σ H, W i m σ H →
  (J.stop i H ∧ D.nx σ H) ∨ (J.go i H ∧ ∃ N : L2.St → Hp → Prop, (∀ σ' H', N σ' H' → ∃ m', m' < m ∧ W (i + 1) m' σ' H') ∧ ∀ x H', J.yld i H x H' → g x σ H' fun σ2 H2 => tb { D with nx := N, ct := N, bk := D.nx } σ2 H2)
def kRng1 (g : TG) (tb : TS) (D : Ends) (σ : L2.St) : List V → Hp → Prop := fun vs H1 => ∃ j : Int, vs = [.int j] ∧ -(2 ^ 62) ≤ j ∧ j < 2 ^ 62 ∧ ForW (Itr 0 j.toNat) g tb D σ H1
def kRng2 (g : TG) (tb : TS) (D : Ends) (σ : L2.St) : List V → Hp → Prop := fun vs H1 => ∃ i j : Int, vs = [.int i, .int j] ∧ (-(2 ^ 62) ≤ i ∧ i < 2 ^ 62 ∧ -(2 ^ 62) ≤ j ∧ j < 2 ^ 62) ∧ ForW (Itr i (j - i).toNat) g tb D σ H1
def kLst (K : PySem.W.Frag) (g : TG) (tb : TS) (D : Ends) (σ : L2.St) : VK := fun x H1 => ∃ a, x = .ref a ∧ (∃ xs, SqL K H1 a xs) ∧ ForW (Itl K a) g tb D σ H1
def kTpl (K : PySem.W.Frag) (g : TG) (tb : TS) (D : Ends) (σ : L2.St) : VK := fun x H1 => ∃ a, x = .ref a ∧ (∃ xs, SqT K H1 a xs) ∧ ForW (Itt K a) g tb D σ H1
theorem f_rng1 {ta : TA} (h : ta σ H (kRng1 g tb D σ)) : tFor (iRng1 ta) g tb D σ H := h
theorem f_rng2 {ta : TA} (h : ta σ H (kRng2 g tb D σ)) : tFor (iRng2 ta) g tb D σ H := h
theorem f_lst (h : te σ H (kLst K g tb D σ)) : tFor (iList K te) g tb D σ H := h
theorem f_tup (h : te σ H (kTpl K g tb D σ)) : tFor (iTup K te) g tb D σ H := h
theorem fs_rng1 {ta : TA} (h : ta σ H (kRng1 g tb { D with nx := u D } σ)) : tSeq (tFor (iRng1 ta) g tb) u D σ H := h
theorem fs_rng2 {ta : TA} (h : ta σ H (kRng2 g tb { D with nx := u D } σ)) : tSeq (tFor (iRng2 ta) g tb) u D σ H := h
theorem fs_lst (h : te σ H (kLst K g tb { D with nx := u D } σ)) : tSeq (tFor (iList K te) g tb) u D σ H := h
theorem fs_tup (h : te σ H (kTpl K g tb { D with nx := u D } σ)) : tSeq (tFor (iTup K te) g tb) u D σ H := h
/-- for i in range(n): Pv by the turn; N: the next turn, B: behind the loop -/
theorem k_rng1 {j : Int} (Pv : Nat → L2.St → Hp → Prop) (b1 : -(2 ^ 62) ≤ j) (b2 : j < 2 ^ 62) (h0 : Pv 0 σ H)
    (hs : ∀ (i : Nat) σ H, (i : Int) < j → Pv i σ H → ∀ N B : L2.St → Hp → Prop, (∀ σ H, Pv (i + 1) σ H → N σ H) → (∀ σ H, D.nx σ H → B σ H) → g (.int (i : Int)) σ H fun σ2 H2 => tb ⟨N, D.rt, B, N⟩ σ2 H2)
    (hd : ∀ σ H, Pv j.toNat σ H → D.nx σ H) : kRng1 g tb D σ [.int j] H := by
  refine ⟨j, rfl, b1, b2, for_range (lo := 0) (n := j.toNat) Pv h0 (fun i σ H hi hp => ?_) hd⟩
  have e : (0 : Int) + (i : Int) = (i : Int) := Int.zero_add _
  rw [e]
  exact hs i σ H (by omega) hp _ _ (fun _ _ q => q) (fun _ _ q => q)
theorem k_rng2 {lo j : Int} (Pv : Nat → L2.St → Hp → Prop) (b : -(2 ^ 62) ≤ lo ∧ lo < 2 ^ 62 ∧ -(2 ^ 62) ≤ j ∧ j < 2 ^ 62) (h0 : Pv 0 σ H)
    (hs : ∀ (i : Nat) σ H, lo + (i : Int) < j → Pv i σ H → ∀ N B : L2.St → Hp → Prop, (∀ σ H, Pv (i + 1) σ H → N σ H) → (∀ σ H, D.nx σ H → B σ H) → g (.int (lo + (i : Int))) σ H fun σ2 H2 => tb ⟨N, D.rt, B, N⟩ σ2 H2)
    (hd : ∀ σ H, Pv (j - lo).toNat σ H → D.nx σ H) : kRng2 g tb D σ [.int lo, .int j] H := by
  refine ⟨lo, j, rfl, b, for_range (lo := lo) (n := (j - lo).toNat) Pv h0 (fun i σ H hi hp => ?_) hd⟩
  exact hs i σ H (by omega) hp _ _ (fun _ _ q => q) (fun _ _ q => q)
theorem k_lst {a : Addr} {xs : List V} (Pv : Nat → L2.St → Hp → Prop) (h0 : Pv 0 σ H) (hl : ∀ i σ H, Pv i σ H → SqL K H a xs)
    (hs : ∀ (i : Nat) x σ H, xs[i]? = some x → Pv i σ H → ∀ N B : L2.St → Hp → Prop, (∀ σ H, Pv (i + 1) σ H → N σ H) → (∀ σ H, D.nx σ H → B σ H) → g x σ H fun σ2 H2 => tb ⟨N, D.rt, B, N⟩ σ2 H2)
    (hd : ∀ σ H, Pv xs.length σ H → D.nx σ H) : kLst K g tb D σ (.ref a) H :=
  ⟨a, rfl, ⟨xs, hl 0 σ H h0⟩, for_list (K := K) (a := a) (xs := xs) Pv h0 (fun i σ H _ h => hl i σ H h) (fun i x σ H hx hp => hs i x σ H hx hp _ _ (fun _ _ q => q) (fun _ _ q => q)) hd⟩
theorem k_tpl {a : Addr} {xs : List V} (Pv : Nat → L2.St → Hp → Prop) (h0 : Pv 0 σ H) (hl : ∀ i σ H, Pv i σ H → SqT K H a xs)
    (hs : ∀ (i : Nat) x σ H, xs[i]? = some x → Pv i σ H → ∀ N B : L2.St → Hp → Prop, (∀ σ H, Pv (i + 1) σ H → N σ H) → (∀ σ H, D.nx σ H → B σ H) → g x σ H fun σ2 H2 => tb ⟨N, D.rt, B, N⟩ σ2 H2)
    (hd : ∀ σ H, Pv xs.length σ H → D.nx σ H) : kTpl K g tb D σ (.ref a) H :=
  ⟨a, rfl, ⟨xs, hl 0 σ H h0⟩, for_tup (K := K) (a := a) (xs := xs) Pv h0 (fun i σ H _ h => hl i σ H h) (fun i x σ H hx hp => hs i x σ H hx hp _ _ (fun _ _ q => q) (fun _ _ q => q)) hd⟩
/-! a list or a tuple -/
def iSeq (K : PySem.W.Frag) (tl : TE) : TI := fun σ H R => iList K tl σ H R ∨ iTup K tl σ H R
theorem pi_seq {X : Cx} {tg e : Expr} {tl : TE} (h : PE X e tl) : PI X tg e (iSeq X.K tl) := ⟨fun pins s σ H R I q => q.elim (fun q => (pi_list h).run pins s σ H R I q) fun q => (pi_tup h).run pins s σ H R I q⟩
theorem f_seq {a : Addr} {xs : List V} {i : Nat} (he : σ[i]? = some (some (.ref a))) (Pv : Nat → L2.St → Hp → Prop) (h0 : Pv 0 σ H) (hl : (∀ i σ H, Pv i σ H → SqL K H a xs) ∨ (∀ i σ H, Pv i σ H → SqT K H a xs))
    (hs : ∀ (i : Nat) x σ H, xs[i]? = some x → Pv i σ H → ∀ N B : L2.St → Hp → Prop, (∀ σ H, Pv (i + 1) σ H → N σ H) → (∀ σ H, D.nx σ H → B σ H) → g x σ H fun σ2 H2 => tb ⟨N, D.rt, B, N⟩ σ2 H2)
    (hd : ∀ σ H, Pv xs.length σ H → D.nx σ H) : tFor (iSeq K (tVar i)) g tb D σ H := by
  rcases hl with hl | hl
  · exact .inl ⟨_, he, k_lst (K := K) Pv h0 hl hs hd⟩
  · exact .inr ⟨_, he, k_tpl (K := K) Pv h0 hl hs hd⟩
/-! ### while -/
theorem k_while {c : TT} (Pv : L2.St → Hp → Prop) (μ : L2.St → Hp → Nat) (h0 : Pv σ H)
    (hs : ∀ σ H, Pv σ H → ∀ (Y : Hp → Prop) (Z : Hp → Prop), (∀ H1, (∀ N B : L2.St → Hp → Prop, (∀ σ' H', Pv σ' H' → μ σ' H' < μ σ H → N σ' H') → (∀ σ' H', D.nx σ' H' → B σ' H') → tb ⟨N, D.rt, B, N⟩ σ H1) → Y H1) → (∀ H1, D.nx σ H1 → Z H1) → c σ H fun b H1 => if b = true then Y H1 else Z H1)
    (mono : ∀ σ H Q Q', (∀ b H1, Q b H1 → Q' b H1) → c σ H Q → c σ H Q') : tWhile c tb D σ H := by
  refine while_by Pv μ h0 (fun σ H p => ?_) mono
  exact hs σ H p _ _ (fun H1 q => q _ _ (fun σ' H' p' l => ⟨p', l⟩) (fun _ _ q => q)) (fun H1 q => q)
/-! ### comprehensions -/
def LcW (J : It) (g : TG) (tt : TT) (te : TE) (vs : List Nat) (σ : L2.St) (H1 : Hp) (Q : VK) : Prop := ∀ D, H1 D = none → ∃ W : Nat → Nat → Hp → Prop, (∃ m, W 0 m (upd H1 D (.lst []))) ∧ ∀ i m H, W i m H →
  (J.stop i H ∧ Q (.ref D) H) ∨ (J.go i H ∧ ∃ Nx : Hp → Prop, (∀ H', Nx H' → ∃ m', m' < m ∧ W (i + 1) m' H') ∧ ∀ x H', J.yld i H x H' → g x (wipe σ vs) H' fun σ2 H2 => wipe σ2 vs = wipe σ vs ∧ tt σ2 H2 fun b H3 =>
    if b = true then te σ2 H3 fun y H4 => ∃ acc, H4 D = some (.lst acc) ∧ acc.length < sizeLine ∧ Nx (upd H4 D (.lst (acc ++ [y]))) else Nx H3)
def kcRng1 (g : TG) (tt : TT) (te : TE) (vs : List Nat) (σ : L2.St) (Q : VK) : List V → Hp → Prop := fun xs H1 => ∃ j : Int, xs = [.int j] ∧ -(2 ^ 62) ≤ j ∧ j < 2 ^ 62 ∧ LcW (Itr 0 j.toNat) g tt te vs σ H1 Q
def kcLst (K : PySem.W.Frag) (g : TG) (tt : TT) (te : TE) (vs : List Nat) (σ : L2.St) (Q : VK) : VK := fun x H1 => ∃ a, x = .ref a ∧ (∃ xs, SqL K H1 a xs) ∧ LcW (Itl K a) g tt te vs σ H1 Q
def kcTpl (K : PySem.W.Frag) (g : TG) (tt : TT) (te : TE) (vs : List Nat) (σ : L2.St) (Q : VK) : VK := fun x H1 => ∃ a, x = .ref a ∧ (∃ xs, SqT K H1 a xs) ∧ LcW (Itt K a) g tt te vs σ H1 Q
variable {tt : TT} {vs : List Nat} {tl : TE}
theorem c_rng1 {ta : TA} (h : ta σ H (kcRng1 g tt te vs σ Q)) : tLc (iRng1 ta) g tt te vs σ H Q := h
theorem c_lstL (h : tl σ H (kcLst K g tt te vs σ Q)) : tLc (iList K tl) g tt te vs σ H Q := h
theorem c_tupL (h : tl σ H (kcTpl K g tt te vs σ Q)) : tLc (iTup K tl) g tt te vs σ H Q := h
/-- over any iterator whose i-th item is xs[i] while G stands -/
theorem lcw {J : It} {xs : List V} (hsz : xs.length < sizeLine) (Pv : Addr → Nat → Hp → List V → Prop) (h0 : ∀ D, H D = none → Pv D 0 (upd H D (.lst [])) [])
    (hgo : ∀ D i H' acc, i < xs.length → Pv D i H' acc → J.go i H' ∧ ∀ x H2, J.yld i H' x H2 → H2 = H' ∧ xs[i]? = some x) (hst : ∀ D H' acc, Pv D xs.length H' acc → J.stop xs.length H')
    (hl : ∀ D i H' acc, Pv D i H' acc → H' D = some (.lst acc) ∧ acc.length ≤ i)
    (hs : ∀ D (i : Nat) x H' acc, xs[i]? = some x → Pv D i H' acc → ∀ (N : VK) (N0 : Hp → Prop), (∀ y H4, H4 D = some (.lst acc) → Pv D (i + 1) (upd H4 D (.lst (acc ++ [y]))) (acc ++ [y]) → N y H4) → (∀ H3, Pv D (i + 1) H3 acc → N0 H3) →
      g x (wipe σ vs) H' fun σ2 H2 => wipe σ2 vs = wipe σ vs ∧ tt σ2 H2 fun b H3 => if b = true then te σ2 H3 N else N0 H3)
    (hd : ∀ D H' acc, H D = none → Pv D xs.length H' acc → Q (.ref D) H') : LcW J g tt te vs σ H Q := by
  intro D hD
  refine ⟨fun i m H' => m = xs.length - i ∧ i ≤ xs.length ∧ ∃ acc, Pv D i H' acc, ⟨xs.length, by simp, Nat.zero_le _, [], h0 D hD⟩, ?_⟩
  rintro i m H' ⟨rfl, hi, acc, p⟩
  by_cases hlt : i < xs.length
  · obtain ⟨g1, g2⟩ := hgo D i H' acc hlt p
    refine .inr ⟨g1, fun H2 => ∃ acc, Pv D (i + 1) H2 acc, fun H2 p' => ⟨xs.length - (i + 1), by omega, rfl, hlt, p'⟩, fun x H2 y => ?_⟩
    obtain ⟨e, ex⟩ := g2 x H2 y
    subst e
    refine hs D i x _ acc ex p _ _ (fun y H4 e4 p4 => ⟨acc, e4, Nat.lt_of_le_of_lt (Nat.le_trans (hl D i _ acc p).2 hi) hsz, _, p4⟩) (fun H3 p3 => ⟨acc, p3⟩)
  · have e : i = xs.length := by omega
    subst e
    exact .inl ⟨hst D H' acc p, hd D H' acc hD p⟩
/-- the element and the test read what stood: f says what comes of an item -/
theorem lcp {J : It} {xs : List V} (hsz : xs.length < sizeLine) (f : V → Option V)
    (hgo : ∀ (i : Nat) H', i < xs.length → Same H H' → J.go i H' ∧ ∀ x H2, J.yld i H' x H2 → H2 = H' ∧ xs[i]? = some x) (hst : ∀ H', Same H H' → J.stop xs.length H')
    (hs : ∀ x H', x ∈ xs → Same H H' → ∀ (N : VK) (N0 : Hp → Prop), (∀ y, f x = some y → N y H') → (f x = none → N0 H') →
      g x (wipe σ vs) H' fun σ2 H2 => wipe σ2 vs = wipe σ vs ∧ tt σ2 H2 fun b H3 => if b = true then te σ2 H3 N else N0 H3)
    (hd : ∀ D H', H D = none → Same H H' → H' D = some (.lst (xs.filterMap f)) → Q (.ref D) H') : LcW J g tt te vs σ H Q := by
  refine lcw hsz (fun D i H' acc => H D = none ∧ Same H H' ∧ H' D = some (.lst acc) ∧ acc = (xs.take i).filterMap f) (fun D hD => ⟨hD, same_new hD, upd_same, by simp⟩)
    (fun D i H' acc hi p => hgo i H' hi p.2.1) (fun D H' acc p => hst H' p.2.1) (fun D i H' acc p => ⟨p.2.2.1, ?_⟩) (fun D i x H' acc hx p N N0 h1 h2 => ?_) (fun D H' acc hD p => ?_)
  · rw [p.2.2.2]
    exact Nat.le_trans (List.length_filterMap_le _ _) (by rw [List.length_take]; omega)
  · obtain ⟨hD, sm, hl, ha⟩ := p
    have ex : (xs.take (i + 1)).filterMap f = (xs.take i).filterMap f ++ (match f x with | some y => [y] | none => []) := by
      rw [List.take_add_one, hx, List.filterMap_append]
      cases hf : f x <;> simp [hf]
    refine hs x H' (List.mem_of_getElem? hx) sm N N0 (fun y hf => h1 y H' hl ⟨hD, same_mut sm hD, upd_same, ?_⟩) (fun hf => h2 H' ⟨hD, sm, hl, ?_⟩)
    · rw [ex, hf, ha]
    · rw [ex, hf, ha]; simp
  · obtain ⟨_, sm, hl, ha⟩ := p
    rw [ha, List.take_length] at hl
    exact hd D H' hD sm hl
/-- the same by places: R i the list behind i turns -/
theorem lcR {J : It} {xs : List V} (hsz : xs.length < sizeLine) (R : Nat → List V) (r0 : R 0 = [])
    (hgo : ∀ (i : Nat) H', i < xs.length → Same H H' → J.go i H' ∧ ∀ x H2, J.yld i H' x H2 → H2 = H' ∧ xs[i]? = some x) (hst : ∀ H', Same H H' → J.stop xs.length H')
    (hs : ∀ (i : Nat) x H', xs[i]? = some x → Same H H' → ∀ (N : VK) (N0 : Hp → Prop), (∀ y, R (i + 1) = R i ++ [y] → N y H') → (R (i + 1) = R i → N0 H') →
      g x (wipe σ vs) H' fun σ2 H2 => wipe σ2 vs = wipe σ vs ∧ tt σ2 H2 fun b H3 => if b = true then te σ2 H3 N else N0 H3)
    (hd : ∀ D H', H D = none → Same H H' → H' D = some (.lst (R xs.length)) → Q (.ref D) H') : LcW J g tt te vs σ H Q := by
  refine lcw hsz (fun D i H' acc => H D = none ∧ Same H H' ∧ H' D = some (.lst acc) ∧ acc = R i ∧ acc.length ≤ i) (fun D hD => ⟨hD, same_new hD, upd_same, r0.symm, Nat.le_refl _⟩)
    (fun D i H' acc hi p => hgo i H' hi p.2.1) (fun D H' acc p => hst H' p.2.1) (fun D i H' acc p => ⟨p.2.2.1, p.2.2.2.2⟩) (fun D i x H' acc hx p N N0 h1 h2 => ?_) (fun D H' acc hD p => ?_)
  · obtain ⟨hD, sm, hl, ha, hn⟩ := p
    refine hs i x H' hx sm N N0 (fun y hf => h1 y H' hl ⟨hD, same_mut sm hD, upd_same, by rw [hf, ha], by simp; omega⟩) (fun hf => h2 H' ⟨hD, sm, hl, by rw [hf, ha], by omega⟩)
  · obtain ⟨_, sm, hl, ha, _⟩ := p
    rw [ha] at hl
    exact hd D H' hD sm hl
/-- by places, new things may be made on the way -/
theorem lcRS {J : It} {xs : List V} (hsz : xs.length < sizeLine) (R : Nat → List V) (r0 : R 0 = [])
    (hgo : ∀ (i : Nat) H', i < xs.length → Same H H' → J.go i H' ∧ ∀ x H2, J.yld i H' x H2 → H2 = H' ∧ xs[i]? = some x) (hst : ∀ H', Same H H' → J.stop xs.length H')
    (hs : ∀ (i : Nat) x H', xs[i]? = some x → Same H H' → ∀ (N : VK) (N0 : Hp → Prop), (∀ y H4, Same H' H4 → R (i + 1) = R i ++ [y] → N y H4) → (∀ H3, Same H' H3 → R (i + 1) = R i → N0 H3) →
      g x (wipe σ vs) H' fun σ2 H2 => wipe σ2 vs = wipe σ vs ∧ tt σ2 H2 fun b H3 => if b = true then te σ2 H3 N else N0 H3)
    (hd : ∀ D H', H D = none → Same H H' → H' D = some (.lst (R xs.length)) → Q (.ref D) H') : LcW J g tt te vs σ H Q := by
  refine lcw hsz (fun D i H' acc => H D = none ∧ Same H H' ∧ H' D = some (.lst acc) ∧ acc = R i ∧ acc.length ≤ i) (fun D hD => ⟨hD, same_new hD, upd_same, r0.symm, Nat.le_refl _⟩)
    (fun D i H' acc hi p => hgo i H' hi p.2.1) (fun D H' acc p => hst H' p.2.1) (fun D i H' acc p => ⟨p.2.2.1, p.2.2.2.2⟩) (fun D i x H' acc hx p N N0 h1 h2 => ?_) (fun D H' acc hD p => ?_)
  · obtain ⟨hD, sm, hl, ha, hn⟩ := p
    refine hs i x H' hx sm N N0 (fun y H4 s4 hf => h1 y H4 (s4 _ _ hl) ⟨hD, same_mut (sm.trans s4) hD, upd_same, by rw [hf, ha], by simp; omega⟩) (fun H3 s3 hf => h2 H3 ⟨hD, sm.trans s3, s3 _ _ hl, by rw [hf, ha], by omega⟩)
  · obtain ⟨_, sm, hl, ha, _⟩ := p
    rw [ha] at hl
    exact hd D H' hD sm hl
theorem lst_go {a : Addr} {xs : List V} (hp : SqL K H a xs) : (∀ (i : Nat) H', i < xs.length → Same H H' → (Itl K a).go i H' ∧ ∀ x H2, (Itl K a).yld i H' x H2 → H2 = H' ∧ xs[i]? = some x) ∧ ∀ H', Same H H' → (Itl K a).stop xs.length H' :=
  ⟨fun i H' hi sm => ⟨⟨xs, xs[i], sm.seq hp, by simp [hi]⟩, fun x H2 y => ⟨y.1, y.2 xs (sm.seq hp)⟩⟩, fun H' sm => ⟨xs, sm.seq hp, Nat.le_refl _⟩⟩
theorem tup_go {a : Addr} {xs : List V} (hp : SqT K H a xs) : (∀ (i : Nat) H', i < xs.length → Same H H' → (Itt K a).go i H' ∧ ∀ x H2, (Itt K a).yld i H' x H2 → H2 = H' ∧ xs[i]? = some x) ∧ ∀ H', Same H H' → (Itt K a).stop xs.length H' :=
  ⟨fun i H' hi sm => ⟨⟨xs, xs[i], same_t sm hp, by simp [hi]⟩, fun x H2 y => ⟨y.1, y.2 xs (same_t sm hp)⟩⟩, fun H' sm => ⟨xs, same_t sm hp, Nat.le_refl _⟩⟩
def rngV (n : Nat) : List V := (List.range n).map fun i : Nat => V.int (i : Int)
theorem rng_go {n : Nat} : (∀ (i : Nat) H', i < (rngV n).length → Same H H' → (Itr 0 n).go i H' ∧ ∀ x H2, (Itr 0 n).yld i H' x H2 → H2 = H' ∧ (rngV n)[i]? = some x) ∧ ∀ H', Same H H' → (Itr 0 n).stop (rngV n).length H' := by
  have hl : (rngV n).length = n := by simp [rngV]
  refine ⟨fun i H' hi sm => ⟨by rw [hl] at hi; exact hi, fun x H2 y => ⟨y.1, ?_⟩⟩, fun H' sm => by rw [hl]; exact Nat.le_refl _⟩
  rw [y.2]
  rw [hl] at hi
  simp [rngV, hi]
theorem kc_lst {a : Addr} {xs : List V} (hp : SqL K H a xs) (hsz : xs.length < sizeLine) (f : V → Option V)
    (hs : ∀ x H', x ∈ xs → Same H H' → ∀ (N : VK) (N0 : Hp → Prop), (∀ y, f x = some y → N y H') → (f x = none → N0 H') → g x (wipe σ vs) H' fun σ2 H2 => wipe σ2 vs = wipe σ vs ∧ tt σ2 H2 fun b H3 => if b = true then te σ2 H3 N else N0 H3)
    (hd : ∀ D H', H D = none → Same H H' → H' D = some (.lst (xs.filterMap f)) → Q (.ref D) H') : kcLst K g tt te vs σ Q (.ref a) H :=
  ⟨a, rfl, ⟨xs, hp⟩, lcp hsz f (lst_go hp).1 (lst_go hp).2 hs hd⟩
theorem kc_tup {a : Addr} {xs : List V} (hp : SqT K H a xs) (hsz : xs.length < sizeLine) (f : V → Option V)
    (hs : ∀ x H', x ∈ xs → Same H H' → ∀ (N : VK) (N0 : Hp → Prop), (∀ y, f x = some y → N y H') → (f x = none → N0 H') → g x (wipe σ vs) H' fun σ2 H2 => wipe σ2 vs = wipe σ vs ∧ tt σ2 H2 fun b H3 => if b = true then te σ2 H3 N else N0 H3)
    (hd : ∀ D H', H D = none → Same H H' → H' D = some (.lst (xs.filterMap f)) → Q (.ref D) H') : kcTpl K g tt te vs σ Q (.ref a) H :=
  ⟨a, rfl, ⟨xs, hp⟩, lcp hsz f (tup_go hp).1 (tup_go hp).2 hs hd⟩
theorem kc_lstR {a : Addr} {xs : List V} (hp : SqL K H a xs) (hsz : xs.length < sizeLine) (R : Nat → List V) (r0 : R 0 = [])
    (hs : ∀ (i : Nat) x H', xs[i]? = some x → Same H H' → ∀ (N : VK) (N0 : Hp → Prop), (∀ y, R (i + 1) = R i ++ [y] → N y H') → (R (i + 1) = R i → N0 H') → g x (wipe σ vs) H' fun σ2 H2 => wipe σ2 vs = wipe σ vs ∧ tt σ2 H2 fun b H3 => if b = true then te σ2 H3 N else N0 H3)
    (hd : ∀ D H', H D = none → Same H H' → H' D = some (.lst (R xs.length)) → Q (.ref D) H') : kcLst K g tt te vs σ Q (.ref a) H :=
  ⟨a, rfl, ⟨xs, hp⟩, lcR hsz R r0 (lst_go hp).1 (lst_go hp).2 hs hd⟩
theorem kc_lstRS {a : Addr} {xs : List V} (hp : SqL K H a xs) (hsz : xs.length < sizeLine) (R : Nat → List V) (r0 : R 0 = [])
    (hs : ∀ (i : Nat) x H', xs[i]? = some x → Same H H' → ∀ (N : VK) (N0 : Hp → Prop), (∀ y H4, Same H' H4 → R (i + 1) = R i ++ [y] → N y H4) → (∀ H3, Same H' H3 → R (i + 1) = R i → N0 H3) → g x (wipe σ vs) H' fun σ2 H2 => wipe σ2 vs = wipe σ vs ∧ tt σ2 H2 fun b H3 => if b = true then te σ2 H3 N else N0 H3)
    (hd : ∀ D H', H D = none → Same H H' → H' D = some (.lst (R xs.length)) → Q (.ref D) H') : kcLst K g tt te vs σ Q (.ref a) H :=
  ⟨a, rfl, ⟨xs, hp⟩, lcRS hsz R r0 (lst_go hp).1 (lst_go hp).2 hs hd⟩
theorem kc_tupR {a : Addr} {xs : List V} (hp : SqT K H a xs) (hsz : xs.length < sizeLine) (R : Nat → List V) (r0 : R 0 = [])
    (hs : ∀ (i : Nat) x H', xs[i]? = some x → Same H H' → ∀ (N : VK) (N0 : Hp → Prop), (∀ y, R (i + 1) = R i ++ [y] → N y H') → (R (i + 1) = R i → N0 H') → g x (wipe σ vs) H' fun σ2 H2 => wipe σ2 vs = wipe σ vs ∧ tt σ2 H2 fun b H3 => if b = true then te σ2 H3 N else N0 H3)
    (hd : ∀ D H', H D = none → Same H H' → H' D = some (.lst (R xs.length)) → Q (.ref D) H') : kcTpl K g tt te vs σ Q (.ref a) H :=
  ⟨a, rfl, ⟨xs, hp⟩, lcR hsz R r0 (tup_go hp).1 (tup_go hp).2 hs hd⟩
theorem kc_rngR {j : Int} (b1 : 0 ≤ j) (b2 : j < 16777216) (R : Nat → List V) (r0 : R 0 = [])
    (hs : ∀ (i : Nat) H', (i : Int) < j → Same H H' → ∀ (N : VK) (N0 : Hp → Prop), (∀ y, R (i + 1) = R i ++ [y] → N y H') → (R (i + 1) = R i → N0 H') → g (.int (i : Int)) (wipe σ vs) H' fun σ2 H2 => wipe σ2 vs = wipe σ vs ∧ tt σ2 H2 fun b H3 => if b = true then te σ2 H3 N else N0 H3)
    (hd : ∀ D H', H D = none → Same H H' → H' D = some (.lst (R j.toNat)) → Q (.ref D) H') : kcRng1 g tt te vs σ Q [.int j] H := by
  have hl : (rngV j.toNat).length = j.toNat := by simp [rngV]
  refine ⟨j, rfl, by omega, by omega, lcR (xs := rngV j.toNat) (by rw [hl]; show j.toNat < 2 ^ 24; omega) R r0 rng_go.1 rng_go.2 (fun i x H' hx sm N N0 h1 h2 => ?_) (by rw [hl]; exact hd)⟩
  have hi : i < j.toNat := by rw [← hl]; exact (List.getElem?_eq_some_iff.mp hx).1
  have e : x = .int (i : Int) := by
    simp [rngV, hi] at hx
    exact hx.symm
  subst e
  exact hs i H' (by omega) sm N N0 h1 h2
theorem kc_rng {j : Int} (b1 : -(2 ^ 62) ≤ j) (b2 : j < 16777216) (f : V → Option V)
    (hs : ∀ (i : Nat) H', (i : Int) < j → Same H H' → ∀ (N : VK) (N0 : Hp → Prop), (∀ y, f (.int (i : Int)) = some y → N y H') → (f (.int (i : Int)) = none → N0 H') → g (.int (i : Int)) (wipe σ vs) H' fun σ2 H2 => wipe σ2 vs = wipe σ vs ∧ tt σ2 H2 fun b H3 => if b = true then te σ2 H3 N else N0 H3)
    (hd : ∀ D H', H D = none → Same H H' → H' D = some (.lst ((rngV j.toNat).filterMap f)) → Q (.ref D) H') : kcRng1 g tt te vs σ Q [.int j] H := by
  have hl : (rngV j.toNat).length = j.toNat := by simp [rngV]
  refine ⟨j, rfl, b1, by omega, lcp (xs := rngV j.toNat) (by rw [hl]; show j.toNat < 2 ^ 24; omega) f rng_go.1 rng_go.2 (fun x H' hx sm N N0 h1 h2 => ?_) hd⟩
  obtain ⟨i, hi, rfl⟩ := List.mem_map.mp hx
  exact hs i H' (by have := List.mem_range.mp hi; omega) sm N N0 h1 h2
theorem yes (h : QT true H) : tYes σ H QT := h
end
/-! ### data -/
mutual
theorem Dp.mono {K : PySem.W.Frag} {H H' : Hp} (s : Same H H') : ∀ {v : V} {d : PyData}, Dp K H v d → Dp K H' v d
  | _, _, .non => .non
  | _, _, .bl b => .bl b
  | _, _, .int i => .int i
  | _, _, .str x => .str x
  | _, _, .lst h a => .lst (s.seq h) (Dp.monoAll s a)
  | _, _, .tup h a => .tup (same_t s h) (Dp.monoAll s a)
theorem Dp.monoAll {K : PySem.W.Frag} {H H' : Hp} (s : Same H H') : ∀ {vs : List V} {ds : List PyData}, DpAll K H vs ds → DpAll K H' vs ds
  | _, _, .nil => .nil
  | _, _, .cons h t => .cons (Dp.mono s h) (Dp.monoAll s t)
end
theorem dp_ints {K : PySem.W.Frag} {H : Hp} : ∀ ns : List Int, DpAll K H (ns.map V.int) (ns.map PyData.int)
  | [] => .nil
  | n :: r => .cons (.int n) (dp_ints r)
theorem dp_app {K : PySem.W.Frag} {H : Hp} : ∀ {vs : List V} {ds : List PyData} {v : V} {d : PyData}, DpAll K H vs ds → Dp K H v d → DpAll K H (vs ++ [v]) (ds ++ [d])
  | _, _, _, _, .nil, h => .cons h .nil
  | _, _, _, _, .cons a b, h => .cons a (dp_app b h)
theorem dp_len {K : PySem.W.Frag} {H : Hp} : ∀ {vs : List V} {ds : List PyData}, DpAll K H vs ds → vs.length = ds.length
  | _, _, .nil => rfl
  | _, _, .cons _ b => by simp [dp_len b]
theorem dp_get {K : PySem.W.Frag} {H : Hp} : ∀ {vs : List V} {ds : List PyData} {i : Nat} {d : PyData}, DpAll K H vs ds → ds[i]? = some d → ∃ v, vs[i]? = some v ∧ Dp K H v d
  | _, _, _, _, .nil, h => by simp at h
  | _, _, 0, _, .cons a b, h => by simp at h; subst h; exact ⟨_, rfl, a⟩
  | _, _, i + 1, _, .cons a b, h => by simp at h; simpa using dp_get b h
theorem same_upd2 {G H : Hp} {t : Addr} {o : HO} (s : Same G H) : Same (upd G t o) (upd H t o) := fun b u e => by
  by_cases h : b = t
  · subst h; rw [upd_same] at e ⊢; exact e
  · rw [upd_ne h] at e ⊢; exact s b u e
/-! ### a dict of numbers by their order -/
def numsFrom : Nat → List Int → List (Key × V)
  | _, [] => []
  | n, v :: r => (.inl v, .int n) :: numsFrom (n + 1) r
theorem numsFrom_len : ∀ (s : List Int) (n : Nat), (numsFrom n s).length = s.length
  | [], _ => rfl
  | _ :: r, n => by simp [numsFrom, numsFrom_len r]
theorem numsFrom_val : ∀ (s : List Int) (n : Nat) (v : Int), valV (numsFrom n s) (.inl v) = if v ∈ s then some (.int ((n + s.idxOf v : Nat) : Int)) else none
  | [], _, _ => rfl
  | y :: r, n, v => by
    have ih := numsFrom_val r (n + 1) v
    unfold valV at ih ⊢
    rw [show numsFrom n (y :: r) = (Sum.inl y, V.int (n : Int)) :: numsFrom (n + 1) r from rfl, List.find?_cons]
    by_cases h : y = v
    · subst h
      simp
    · have h' : ¬ v = y := fun e => h e.symm
      have e1 : decide ((Sum.inl y : Key) = Sum.inl v) = false := decide_eq_false (fun e => h (Sum.inl.inj e))
      have e2 : (y == v) = false := by simp [h]
      simp only [e1, ih, List.idxOf_cons, e2, List.mem_cons, h', false_or]
      split <;> simp <;> omega
theorem numsFrom_snoc : ∀ (s : List Int) (n : Nat) (v : Int), numsFrom n (s ++ [v]) = numsFrom n s ++ [(.inl v, .int ((n + s.length : Nat) : Int))]
  | [], _, _ => rfl
  | y :: r, n, v => by
    show (_, _) :: numsFrom (n + 1) (r ++ [v]) = (_, _) :: (numsFrom (n + 1) r ++ _)
    rw [numsFrom_snoc r (n + 1) v]
    simp
    omega
/-! ### data: what == says -/
mutual
def plainD : PyData → Bool
  | .none => true
  | .int _ => true
  | .str _ => true
  | .list xs => plainDAll xs
  | .tuple xs => plainDAll xs
  | _ => false
def plainDAll : List PyData → Bool
  | [] => true
  | x :: xs => plainD x && plainDAll xs
end
mutual
theorem eqv_plain : ∀ (d e : PyData), plainD d = true → plainD e = true → (PyData.eqv d e = true ↔ d = e)
  | .none, e, _, h => by cases e <;> simp_all [PyData.eqv, plainD]
  | .int i, e, _, h => by cases e <;> simp_all [PyData.eqv, plainD]
  | .str x, e, _, h => by cases e <;> simp_all [PyData.eqv, plainD]
  | .list xs, e, hd, h => by
    cases e with
    | list ys =>
      have := eqv_plainAll xs ys (by simpa [plainD] using hd) (by simpa [plainD] using h)
      simp only [PyData.eqv, this, PyData.list.injEq]
    | _ => simp_all [PyData.eqv, plainD]
  | .tuple xs, e, hd, h => by
    cases e with
    | tuple ys =>
      have := eqv_plainAll xs ys (by simpa [plainD] using hd) (by simpa [plainD] using h)
      simp only [PyData.eqv, this, PyData.tuple.injEq]
    | _ => simp_all [PyData.eqv, plainD]
  | .bool _, _, h, _ => by simp [plainD] at h
  | .dict _, _, h, _ => by simp [plainD] at h
theorem eqv_plainAll : ∀ (ds es : List PyData), plainDAll ds = true → plainDAll es = true → (PyData.eqvAll ds es = true ↔ ds = es)
  | [], [], _, _ => by simp [PyData.eqvAll]
  | [], _ :: _, _, _ => by simp [PyData.eqvAll]
  | _ :: _, [], _, _ => by simp [PyData.eqvAll]
  | d :: ds, e :: es, h1, h2 => by
    simp only [plainDAll, Bool.and_eq_true] at h1 h2
    have a := eqv_plain d e h1.1 h2.1
    have b := eqv_plainAll ds es h1.2 h2.2
    simp only [PyData.eqvAll, Bool.and_eq_true, a, b, List.cons.injEq]
end
theorem eqv_dec {d e : PyData} [Decidable (d = e)] (h1 : plainD d = true) (h2 : plainD e = true) : PyData.eqv d e = decide (d = e) := by
  have := eqv_plain d e h1 h2
  by_cases h : d = e
  · rw [decide_eq_true h]; exact this.mpr h
  · rw [decide_eq_false h]
    cases hq : PyData.eqv d e with
    | true => exact absurd (this.mp hq) h
    | false => rfl
theorem plainAll_of : ∀ {ds : List PyData}, (∀ d ∈ ds, plainD d = true) → plainDAll ds = true
  | [], _ => rfl
  | d :: ds, h => by
    simp only [plainDAll, Bool.and_eq_true]
    exact ⟨h d List.mem_cons_self, plainAll_of fun x hx => h x (List.mem_cons_of_mem _ hx)⟩
theorem lay_of : ∀ {ds : List PyData}, (∀ d ∈ ds, PyData.canLay0 d = true) → PyData.canLayAll0 ds = true
  | [], _ => rfl
  | d :: ds, h => by
    simp only [PyData.canLayAll0, Bool.and_eq_true]
    exact ⟨h d List.mem_cons_self, lay_of fun x hx => h x (List.mem_cons_of_mem _ hx)⟩
theorem depth_of {n : Nat} : ∀ {ds : List PyData}, (∀ d ∈ ds, d.depth ≤ n) → PyData.depthAll ds ≤ n
  | [], _ => by simp [PyData.depthAll]
  | d :: ds, h => by
    simp only [PyData.depthAll]
    have h1 := h d List.mem_cons_self
    have h2 := depth_of fun x hx => h x (List.mem_cons_of_mem _ hx)
    omega
theorem shaped_t {ds : List PyData} (h : ∀ d ∈ ds, PyData.canLay0 d = true ∧ d.depth ≤ 63) : SeqAt.shaped (.tuple ds) = true := by
  unfold SeqAt.shaped
  rw [Bool.and_eq_true]
  refine ⟨by simp only [PyData.canLay0]; exact lay_of fun d hd => (h d hd).1, decide_eq_true ?_⟩
  simp only [PyData.depth]
  have := depth_of fun d hd => (h d hd).2
  omega
theorem shaped_l {ds : List PyData} (h : ∀ d ∈ ds, PyData.canLay0 d = true ∧ d.depth ≤ 63) : SeqAt.shaped (.list ds) = true := by
  unfold SeqAt.shaped
  rw [Bool.and_eq_true]
  refine ⟨by simp only [PyData.canLay0]; exact lay_of fun d hd => (h d hd).1, decide_eq_true ?_⟩
  simp only [PyData.depth]
  have := depth_of fun d hd => (h d hd).2
  omega
theorem shaped_ints_l (ns : List Int) : SeqAt.shaped (.list (ns.map PyData.int)) = true := shaped_l fun d hd => by
  obtain ⟨i, _, rfl⟩ := List.mem_map.mp hd
  exact ⟨rfl, by simp [PyData.depth]⟩
theorem shaped_ints_t (ns : List Int) : SeqAt.shaped (.tuple (ns.map PyData.int)) = true := shaped_t fun d hd => by
  obtain ⟨i, _, rfl⟩ := List.mem_map.mp hd
  exact ⟨rfl, by simp [PyData.depth]⟩
/-! ### isinstance -/
theorem isi {K : PySem.W.Frag} {H : Hp} {Q : VK} {x : V} {T C : String} {b : Bool} (ht : TyX K H x (.type T)) (hk : kitB T C = some b) (h : Q (.bl b) H) : rIsi K [x, .ty C] H Q := ⟨x, .ty C, .type T, .type C, b, rfl, .ty C, ht, kit_ty hk, h⟩
theorem ty_of_t {K : PySem.W.Frag} {H : Hp} {a : Addr} {xs : List V} (h : H a = some (.tup xs)) : TyX K H (.ref a) (.type "tuple") := .base (.tup h)
theorem ty_of_l {K : PySem.W.Frag} {H : Hp} {a : Addr} {xs : List V} (h : H a = some (.lst xs)) : TyX K H (.ref a) (.type "list") := .base (.lst h)
theorem ty_i {K : PySem.W.Frag} {H : Hp} {i : Int} : TyX K H (.int i) (.type "int") := .base (.int i)
theorem eqd {K : PySem.W.Frag} {H : Hp} {Q : VK} {x y : V} {d e : PyData} (h1 : Dp K H x d) (h2 : Dp K H y e) (s1 : SeqAt.shaped d = true) (s2 : SeqAt.shaped e = true) (h : Q (.bl (PyData.eqv d e)) H) : rEqD K x y H Q := ⟨d, e, h1, h2, s1, s2, h⟩
theorem ned {K : PySem.W.Frag} {H : Hp} {Q : VK} {x y : V} {d e : PyData} (h1 : Dp K H x d) (h2 : Dp K H y e) (s1 : SeqAt.shaped d = true) (s2 : SeqAt.shaped e = true) (h : Q (.bl (!PyData.eqv d e)) H) : rNeD K x y H Q := ⟨d, e, h1, h2, s1, s2, h⟩
/-! ### the laws' pool of draws -/
/-- the pool at p over the script at a -/
def Pool (K : PySem.W.Frag) (H : Hp) (p a : Addr) (ns : List Int) : Prop := SqL K (wo H p) a (ns.map V.int) ∧ ∃ i c s : Int, 0 ≤ i ∧ H p = some (.lst [.ref a, .int i, .int c, .int s])
def spDraw (K : PySem.W.Frag) : Sp := fun vs H Q _ => ∃ (p a : Addr) (ns : List Int) (m : Int), vs = [.ref p, .int m] ∧ 0 < m ∧ m < 2 ^ 60 ∧ Pool K H p a ns ∧ ∀ (r : Int) (H' : Hp), 0 ≤ r → r < m → Fr p H H' → Pool K H' p a ns → Q (.int r) H'
def spPick (K : PySem.W.Frag) : Sp := fun vs H Q _ => ∃ (p a l : Addr) (ns xs : List Int), vs = [.ref p, .ref l] ∧ Pool K H p a ns ∧ l ≠ p ∧ SqL K H l (xs.map V.int) ∧ 0 < xs.length ∧ xs.length < 1000 ∧ ∀ (x : Int) (H' : Hp), x ∈ xs → Fr p H H' → Pool K H' p a ns → Q (.int x) H'
def spNumber (K : PySem.W.Frag) : Sp := fun vs H Q _ => ∃ (p a : Addr) (ns : List Int), vs = [.ref p] ∧ Pool K H p a ns ∧ ∀ (x : Int) (H' : Hp), -1000000000 < x → x < 1000000000 → Fr p H H' → Pool K H' p a ns → Q (.int x) H'
def spKept (K : PySem.W.Frag) (m : Nat) : Sp := fun vs H Q _ => ∃ (p a : Addr) (ns : List Int), vs = [.ref p] ∧ Pool K H p a ns ∧ ∀ (l : Addr) (ks : List Int) (H' : Hp), H l = none → ks.Nodup → ks.length ≤ m → Fr p H H' → Pool K H' p a ns → H' l = some (.lst (ks.map V.int)) → Q (.ref l) H'
def spValues (K : PySem.W.Frag) : Sp := fun vs H Q _ => ∃ (p a l : Addr) (ns ks : List Int) (n : Nat), vs = [.ref p, .int n, .ref l] ∧ Pool K H p a ns ∧ l ≠ p ∧ SqL K H l (ks.map V.int) ∧ ks.length < 1000 ∧ n < 1000 ∧ ∀ (r : Addr) (xs : List Int) (H' : Hp), H r = none → xs.length = n → Fr p H H' → Pool K H' p a ns → H' r = some (.lst (xs.map V.int)) → Q (.ref r) H'
def spTaken (K : PySem.W.Frag) : Sp := fun vs H Q _ => ∃ (p a v l : Addr) (ns ks ws : List Int), vs = [.ref p, .ref v, .ref l] ∧ Pool K H p a ns ∧ l ≠ p ∧ v ≠ p ∧ SqL K H l (ks.map V.int) ∧ SqL K H v (ws.map V.int) ∧ ws.length < 1000 ∧ ∀ (r : Addr) (xs : List Int) (H' : Hp), H r = none → xs.length = ws.length → Fr p H H' → Pool K H' p a ns → H' r = some (.lst (xs.map V.int)) → Q (.ref r) H'
theorem wo_new {H : Hp} {p l : Addr} {o : HO} (hl : H l = none) : Same (wo H p) (wo (upd H l o) p) := (Fr.of (same_new hl)).wo
theorem Pool.fr {K : PySem.W.Frag} {H H' : Hp} {p a : Addr} {ns : List Int} {i c s : Int} (h : Pool K H p a ns) (f : Fr p H H') (hi : 0 ≤ i) (hp : H' p = some (.lst [.ref a, .int i, .int c, .int s])) : Pool K H' p a ns := ⟨f.wo.seq h.1, i, c, s, hi, hp⟩
theorem Pool.sq {K : PySem.W.Frag} {H : Hp} {p a : Addr} {ns : List Int} (h : Pool K H p a ns) : SqL K H a (ns.map V.int) := wo_same.seq h.1
theorem pool_mk {K : PySem.W.Frag} {H : Hp} {p a : Addr} {ns : List Int} {i c s : Int} (hS : SqL K H a (ns.map V.int)) (hp : H p = none) (hi : 0 ≤ i) : Pool K (upd H p (.lst [.ref a, .int i, .int c, .int s])) p a ns := by
  refine ⟨?_, i, c, s, hi, upd_same⟩
  rcases hS with (h | ⟨o, h⟩) | h
  · exact .inl (.inl (by rw [wo_ne (ne_of_none h hp), upd_ne (ne_of_none h hp)]; exact h))
  · exact .inl (.inr ⟨o, by rw [wo_ne (ne_of_none h hp), upd_ne (ne_of_none h hp)]; exact h⟩)
  · exact .inr h
/-- a new object, and then all but p as it was -/
theorem pool_new {K : PySem.W.Frag} {H : Hp} {p a l : Addr} {ns : List Int} {o : HO} (h : Pool K H p a ns) (hl : H l = none) : Pool K (upd H l o) p a ns := by
  obtain ⟨hS, i, c, s, h0, hp⟩ := h
  exact ⟨(wo_new hl).seq hS, i, c, s, h0, by rw [upd_ne (ne_of_none hp hl)]; exact hp⟩
/-- l is no part of the pool: it was new when the pool stood -/
theorem pool_mut {K : PySem.W.Frag} {H0 H : Hp} {p a l : Addr} {ns : List Int} {o : HO} (h0 : Pool K H0 p a ns) (hl : H0 l = none) (h : Pool K H p a ns) : Pool K (upd H l o) p a ns := by
  obtain ⟨hS, i, c, s, hi, hp⟩ := h
  obtain ⟨hS0, _, _, _, _, hp0⟩ := h0
  have np : p ≠ l := ne_of_none hp0 hl
  refine ⟨?_, i, c, s, hi, by rw [upd_ne np]; exact hp⟩
  have key : a = l → K.lookup a = K.lookup a ∧ SqL K (fun _ => Option.none) a (ns.map V.int) := fun e => by
    subst e
    have hw : wo H0 p a = Option.none := by rw [wo_ne np.symm]; exact hl
    refine ⟨rfl, ?_⟩
    rcases hS0 with (h' | ⟨o, h'⟩) | h'
    · rw [hw] at h'; cases h'
    · rw [hw] at h'; cases h'
    · exact .inr h'
  by_cases e : a = l
  · rcases (key e).2 with (h' | ⟨o, h'⟩) | h'
    · cases h'
    · cases h'
    · exact .inr h'
  · have eq : wo (upd H l o) p a = wo H p a := by
      unfold wo
      split
      · rfl
      · rw [upd_ne e]
    rcases hS with (h | ⟨o', h⟩) | h
    · exact .inl (.inl (by rw [eq]; exact h))
    · exact .inl (.inr ⟨o', by rw [eq]; exact h⟩)
    · exact .inr h
theorem pool_ne {K : PySem.W.Frag} {H : Hp} {p a l : Addr} {ns : List Int} (h : Pool K H p a ns) (hl : H l = none) : l ≠ p := by
  obtain ⟨_, _, _, _, _, hp⟩ := h
  exact (ne_of_none hp hl).symm
theorem Fr.mut {p l : Addr} {H H' : Hp} {o : HO} (f : Fr p H H') (h : H l = Option.none) : Fr p H (L2.upd H' l o) := fun b u n e => by rw [upd_ne (ne_of_none e h)]; exact f b u n e
theorem Fr.nne {p l : Addr} {H H' : Hp} (f : Fr p H H') (n : l ≠ p) (h : H' l = Option.none) : H l = Option.none := by
  cases e : H l with
  | none => rfl
  | some o => rw [f l o n e] at h; cases h
end QB

set_option Elab.async false
set_option linter.all false
set_option maxRecDepth 100000
set_option maxHeartbeats 4000000
/-! Own rules: objects of several classes under one promise (a method without arguments, ==), making without __init__. -/
namespace QC
open PySem PySem.Spec PyProof.Rows L2
section
variable {X : Cx} {pins : List (Addr × Obj)} {σ : L2.St} {H : Hp} {s : Shared}
theorem inst_of {a C dx : Addr} {fs : List (Str × V)} (I : Inv X pins σ H s) (h : H a = some (.ins C dx fs)) : ∃ ox od, PySem.W.InstAt s.heap a ox C od := by
  obtain ⟨mA, O, _⟩ := ins_get I.hok h
  obtain ⟨od, J, _⟩ := O.look
  exact ⟨_, _, J⟩
theorem met_raw {P : Program} {w : World} {K : PySem.W.Frag} {mg : Str → Option Value} {base : Heap} {k : Nat} {C : Addr} {m : Str} {sp : Sp} (c : C8.Met P w K mg base k C m sp []) : ∃ f, Cls K C ∧ Meth K C m f ∧ FnR P w K mg base CX0 k f sp := by
  obtain ⟨f, fd, ps, ds, hc, hm, F, hb, hd⟩ := c.ex
  refine ⟨f, hc, hm, ?_⟩
  have := F.raw hb hd
  refine this.imp fun vs H Q E h => ?_
  rw [List.append_nil]
  exact h
/-- o.m(), o an object of one of the classes C i, whose def m keeps the promise sp i -/
def kDyn {ι : Type} (C : ι → Addr) (m : Str) (sp : ι → Sp) (Q : VK) : VK := fun x H1 => ∃ i a dx fs, x = .ref a ∧ H1 a = some (.ins (C i) dx fs) ∧ fs.lookup m = none ∧ sp i [.ref a] H1 Q C8.E0
def tDyn0 {ι : Type} (C : ι → Addr) (m : Str) (sp : ι → Sp) (ta : TE) : TE := fun σ H Q => ta σ H (kDyn C m sp Q)
theorem pe_dyn0 {ι : Type} {C : ι → Addr} {k j : Nat} {o : Expr} {m : Str} {apos pos : Pos} {sp : ι → Sp} {ta : TE} {pl : Sem Bool} (c : ∀ i, C8.Met X.prog X.w X.K X.mg X.base k (C i) m (sp i) []) (hr : Room j X.A) (hk : k ≤ j) (he : PE X o ta)
    (shape : eval (.Call (.Attribute o m apos) [] [] pos) X.env = (do
      let ov ← eval o X.env
      standAt apos.atName
      let (f, first) ← holding [ov] (getMethod ov m pl)
      callWith pos f first (backTo pos (starEach [] X.env)) (backToKw pos (keywordEach [] X.env))) := by rfl) :
    PE X (.Call (.Attribute o m apos) [] [] pos) (tDyn0 C m sp ta) := by
  constructor
  intro pins s σ H Q I h
  refine PySem.W.methodCall_KW (pl := pl) (thn (he.run pins s σ H _ I h) fun u s1 h1 => ?_) shape
  obtain ⟨x, H1, I1, rx, i, a, dx, fs, rfl, ha, hl, q⟩ := h1
  obtain rfl : u = Value.ref a := rx
  obtain ⟨f, fd, ps, ds, hc, hm, F, hb, hd⟩ := (c i).ex
  refine getmeth_ok I1 ha hc hm hl ?_
  exact PySem.W.callWith_K0 (first := [.ref a]) I1.kIn hm.kp (run_fn (us := [.ref a]) (vs := [.ref a]) F (hr.mono hk) hb hd pass0 I1 (.cons rfl .nil) q)
/-- x == y by the __eq__ of x's class; y an object of these classes, or a text -/
def rDynEq {ι : Type} (K : PySem.W.Frag) (C : ι → Addr) (sp : ι → Sp) : R2 := fun x y H Q => ∃ i a dx fs, x = .ref a ∧ H a = some (.ins (C i) dx fs) ∧
  ((∃ b D dy gs, y = .ref b ∧ H b = some (.ins D dy gs) ∧ PySem.W.notFirst K (C i) (.ref D) = true) ∨ (∃ z, y = .str z ∧ PySem.W.notFirst K (C i) (.type "str") = true)) ∧ sp i [.ref a, y] H Q C8.E0
theorem op_dynEq {ι : Type} {C : ι → Addr} {k j : Nat} {sp : ι → Sp} (c : ∀ i, C8.Met X.prog X.w X.K X.mg X.base k (C i) "__eq__" (sp i) []) (hr : Room j X.A) (hk : k ≤ j) : OpR X (compareOp .Eq) (rDynEq X.K C sp) := by
  intro pins s σ H x y v u Q I rx ry h
  obtain ⟨i, a, dx, fs, rfl, ha, hy, q⟩ := h
  obtain rfl : v = Value.ref a := rx
  obtain ⟨f, hc, hm, F⟩ := met_raw (c i)
  obtain ⟨ox, od, J⟩ := inst_of I ha
  obtain ⟨m, hF⟩ := I.fr
  have run : wpAny (model X.prog X.w) X.A (call (.ref f) [.ref a, u]) (PySem.W.CmpBack (EP X pins σ Q)) X.xe s := by
    refine wpAny_mono (wpAny_call (run_fnR (us := [.ref a, u]) (vs := [.ref a, y]) F (hr.mono hk) pass0 I (.cons rfl (.cons ry .nil)) q)) (fun w s' z => ?_) fun _ _ e => e
    obtain ⟨z', H', I', rz, qz⟩ := z
    exact SlX.cmpback rz ⟨z', H', I', rz, qz⟩
  show wpAny _ _ (richCompare .Eq (.ref a) u) _ _ _
  rcases hy with ⟨b, D, dy, gs, rfl, hb, hn⟩ | ⟨z, rfl, hn⟩
  · obtain rfl : u = Value.ref b := ry
    obtain ⟨ob, od', J'⟩ := inst_of I hb
    exact PySem.W.cmp_K (op := .Eq) (tb := .ref D) hr.units0 hF I.ok.mod.kin J J'.type hn hm.at_ hm.fn run
  · obtain ⟨t, rfl⟩ := ry
    exact PySem.W.cmp_K (op := .Eq) (tb := .type "str") hr.units0 hF I.ok.mod.kin J (PySem.W.Looks.of_pure rfl) hn hm.at_ hm.fn run
/-- C(), a class without an __init__ of its own -/
def tMake0 (C : Addr) : TE := fun _ H Q => ∀ x dx, H x = none → H dx = none → dx ≠ x → Q (.ref x) (upd (upd H dx (.own x)) x (.ins C dx []))
theorem pe_mk00 {C : Addr} {x : Str} {p pos : Pos} (hmk : PySem.W.makesIn X.K C = true) (hin : PySem.W.findIn X.K (.ref C) "__init__" = some (some (.builtin "object.__init__"))) (hkp : PySem.W.keepIn X.K (.ref C) = true) (hg : Gl X x) (hm : X.mg x = some (.ref C))
    (hdb : (x == ("__debug__" : Str)) = false := by decide) : PE X (.Call (.Name x p) [] [] pos) (tMake0 C) := by
  constructor
  intro pins s σ H Q I h
  refine wpAny_Call_Name_kw (ld_glob I hg hm ?_ hdb)
  refine PySem.W.callWith_K0 I.kIn hkp (wpAny_call ?_)
  have fin := h (s.heap.objs.size + 1) s.heap.objs.size (I.hok.fresh (Nat.le_succ _)) (I.hok.fresh (Nat.le_refl _)) (Nat.ne_of_lt (Nat.lt_succ_self _))
  have I2 := Inv.made (C := C) I
  have Y := PySem.W.makes_of (M := model X.prog X.w) I.kIn hmk
  refine make_map0 I.kIn hmk hin (fun self => PySem.W.Looks.of_pure (PySem.W.oi_bind self)) ?_
  have at1 : ((s.heap.push PySem.W.emptyDict).push (PySem.W.instObj C s.heap.objs.size)).get? (s.heap.objs.size + 1) = some (PySem.W.instObj C s.heap.objs.size) := by
    have := Heap.get?_push_size (s.heap.push PySem.W.emptyDict) (o := PySem.W.instObj C s.heap.objs.size) rfl
    rwa [Heap.size_push] at this
  have ty : PySem.W.Looks (model X.prog X.w) ((s.heap.push PySem.W.emptyDict).push (PySem.W.instObj C s.heap.objs.size)) (typeOf (.ref (s.heap.objs.size + 1))) (.ref C) := (PySem.W.Looks.ld at1).andThen .now
  have isO : PySem.W.Looks (model X.prog X.w) ((s.heap.push PySem.W.emptyDict).push (PySem.W.instObj C s.heap.objs.size)) (isInstance (.ref (s.heap.objs.size + 1)) (.type "object")) true := ty.andThen (Y.top.keeps fun b o e => Heap.get?_push_of_some _ (Heap.get?_push_of_some _ e))
  refine codeAny_call_builtin PySem.W.oi_plain PySem.W.entry_oi (@PySem.W.check_slot (model X.prog X.w) _ _ _ "object.__init__" "object" "__init__" (.ref (s.heap.objs.size + 1)) [] [] _ PySem.W.oi_kind PySem.W.oi_split isO (PySem.W.oi_args (.ref (s.heap.objs.size + 1))) ?_)
  rw [PySem.W.oi_run]
  exact wpAny_pure (show PySem.W.InitBack (s.heap.objs.size + 1) _ (Except.ok (Flow.ret Value.none)) _ from ⟨rfl, V.ref _, _, I2, rfl, fin⟩)
end
/-! ### readings by name, rules goal by goal -/
def kFld (K : PySem.W.Frag) (f : Str) (Q : VK) : VK := fun x H1 => ∃ a C dx fs v, x = .ref a ∧ H1 a = some (.ins C dx fs) ∧ Cls K C ∧ NoAttr K C f ∧ fs.lookup f = some v ∧ Q v H1
def kSF (K : PySem.W.Frag) (f : Str) (y : V) (σ : L2.St) (R : L2.St → Hp → Prop) : VK := fun x H2 => ∃ a C dx fs, x = .ref a ∧ H2 a = some (.ins C dx fs) ∧ Cls K C ∧ NoAttr K C f ∧ fs.length < 1000 ∧ R σ (upd H2 a (.ins C dx (putF f y fs)))
def kMk (C : Addr) (sp : Sp) (dvs : List V) (E : XK) (Q : VK) : List V → Hp → Prop := fun vs H1 => ∀ x dx, H1 x = none → H1 dx = none → dx ≠ x → sp (.ref x :: (vs ++ dvs)) (upd (upd H1 dx (.own x)) x (.ins C dx [])) (fun v H2 => v = .non ∧ Q (.ref x) H2) E
def kJ (ts : List TE) (acc : Str) (σ : L2.St) (Q : Str → Hp → Prop) : VK := fun x H1 => ∃ y : Str, x = .str y ∧ (acc ++ y).length ≤ sizeLine ∧ tJs ts (acc ++ y) σ H1 Q
def kFmt (Q : VK) : VK := fun x H1 => (∃ y : Str, x = .str y ∧ y.length ≤ sizeLine ∧ Q (.str y) H1) ∨ ∃ i : Int, x = .int i ∧ i.natAbs.log2 < 1920 ∧ Q (.str (toString i)) H1
def tJoin (ts : List TE) : TE := fun σ H Q => tJs ts Str.empty σ H fun out H1 => Q (.str out) H1
def rStrI : List V → Hp → VK → Prop := fun xs H Q => ∃ i, xs = [.int i] ∧ i.natAbs.log2 < 1920 ∧ Q (.str (toString i)) H
section
variable {X : Cx}
theorem pe_join {v1 v2 : Expr} {rest : List Expr} {ts : List TE} {pos : Pos} (h : PJ X (v1 :: v2 :: rest) ts) : PE X (.JoinedStr (v1 :: v2 :: rest) pos) (tJoin ts) := pe_joined h
theorem c_strI : CallR X (.type "str") rStrI := call_str_int
end
section
variable {K : PySem.W.Frag} {σ : L2.St} {H : Hp} {Q : VK} {D : Ends} {ta tv : TE} {f : Str} {v y : V}
theorem fld (h : ta σ H (kFld K f Q)) : tFld K ta f σ H Q := h
theorem kfld {a C dx : Addr} {fs : List (Str × V)} (ha : H a = some (.ins C dx fs)) (hc : Cls K C ∧ NoAttr K C f) (hl : fs.lookup f = some v) (h : Q v H) : kFld K f Q (.ref a) H := ⟨a, C, dx, fs, v, rfl, ha, hc.1, hc.2, hl, h⟩
theorem sfld (h : tv σ H fun y H1 => ta σ H1 (kSF K f y σ D.nx)) : sFld K ta tv f D σ H := h
theorem sqfld {u : TS} (h : tv σ H fun y H1 => ta σ H1 (kSF K f y σ (u D))) : tSeq (sFld K ta tv f) u D σ H := h
theorem ksf {R : L2.St → Hp → Prop} {a C dx : Addr} {fs : List (Str × V)} (ha : H a = some (.ins C dx fs)) (hc : Cls K C ∧ NoAttr K C f) (hl : fs.length < 1000) (h : R σ (upd H a (.ins C dx (putF f y fs)))) : kSF K f y σ R (.ref a) H := ⟨a, C, dx, fs, rfl, ha, hc.1, hc.2, hl, h⟩
theorem dyn {ι : Type} {C : ι → Addr} {m : Str} {sp : ι → Sp} (h : ta σ H (kDyn C m sp Q)) : tDyn0 C m sp ta σ H Q := h
theorem mk {C : Addr} {sp : Sp} {dvs : List V} {E : XK} {t : TA} (h : t σ H (kMk C sp dvs E Q)) : tMake C sp dvs E t σ H Q := h
theorem join {ts : List TE} (h : tJs ts Str.empty σ H fun out H1 => Q (.str out) H1) : tJoin ts σ H Q := h
theorem jcons {t : TE} {ts : List TE} {acc : Str} {R : Str → Hp → Prop} (h : t σ H (kJ ts acc σ R)) : tJs (t :: ts) acc σ H R := h
theorem jnil {acc : Str} {R : Str → Hp → Prop} (h : R acc H) : tJs [] acc σ H R := h
theorem kj {ts : List TE} {acc y : Str} {R : Str → Hp → Prop} (hl : (acc ++ y).length ≤ sizeLine) (h : tJs ts (acc ++ y) σ H R) : kJ ts acc σ R (.str y) H := ⟨y, rfl, hl, h⟩
theorem fmt (h : ta σ H (kFmt Q)) : tFmt ta σ H Q := h
theorem kfs {y : Str} (hl : y.length ≤ sizeLine) (h : Q (.str y) H) : kFmt Q (.str y) H := .inl ⟨y, rfl, hl, h⟩
theorem kfi {i : Int} (hl : i.natAbs.log2 < 1920) (h : Q (.str (toString i)) H) : kFmt Q (.int i) H := .inr ⟨i, rfl, hl, h⟩
theorem stri {i : Int} (hl : i.natAbs.log2 < 1920) (h : Q (.str (toString i)) H) : rStrI [.int i] H Q := ⟨i, rfl, hl, h⟩
theorem adds {a b : Str} (hl : a.length + b.length ≤ sizeLine) (h : Q (.str (a ++ b)) H) : QB.rAddStr (.str a) (.str b) H Q := ⟨a, b, rfl, rfl, hl, h⟩
theorem ixs {z : Str} {i : Int} {c : Nat} (hz : z.length ≤ sizeLine) (ha : atI z.cps.toList i = some c) (h : Q (.str ⟨#[c]⟩) H) : rIxS (.str z) (.int i) H Q := ⟨z, i, c, rfl, rfl, hz, ha, h⟩
theorem isiO {x : V} {t : Value} {C : Addr} {b : Bool} (ht : TyX K H x t) (hk : PySem.W.kitOne K t (.ref C) = some b) (h : Q (.bl b) H) : rIsi K [x, .ref C] H Q := ⟨x, .ref C, t, .ref C, b, rfl, .own C, ht, hk, h⟩
theorem qs {a b : Str} (q : Q (.str b) H) (e : b = a) : Q (.str a) H := e ▸ q
theorem qb {a b : Bool} (q : Q (.bl b) H) (e : b = a) : Q (.bl a) H := e ▸ q
variable {g : TG} {tt : TT} {te : TE} {vs : List Nat}
theorem kc_rngW {j : Int} (b1 : 0 ≤ j) (b2 : j < 16777216) (Pv : Addr → Nat → Hp → List V → Prop) (h0 : ∀ D, H D = none → Pv D 0 (upd H D (.lst [])) [])
    (hl : ∀ D i H' acc, Pv D i H' acc → H' D = some (.lst acc) ∧ acc.length ≤ i)
    (hs : ∀ D (i : Nat) H' acc, (i : Int) < j → Pv D i H' acc → ∀ (N : VK) (N0 : Hp → Prop), (∀ y H4, H4 D = some (.lst acc) → Pv D (i + 1) (upd H4 D (.lst (acc ++ [y]))) (acc ++ [y]) → N y H4) → (∀ H3, Pv D (i + 1) H3 acc → N0 H3) →
      g (.int (i : Int)) (wipe σ vs) H' fun σ2 H2 => wipe σ2 vs = wipe σ vs ∧ tt σ2 H2 fun b H3 => if b = true then te σ2 H3 N else N0 H3)
    (hd : ∀ D H' acc, H D = none → Pv D j.toNat H' acc → Q (.ref D) H') : QB.kcRng1 g tt te vs σ Q [.int j] H := by
  have hn : (QB.rngV j.toNat).length = j.toNat := by simp [QB.rngV]
  refine ⟨j, rfl, by omega, by omega, QB.lcw (xs := QB.rngV j.toNat) (by rw [hn]; show j.toNat < 2 ^ 24; omega) Pv h0 (fun D i H' acc hi p => (QB.rng_go (H := H')).1 i H' hi (fun _ _ e => e)) (fun D H' acc p => (QB.rng_go (H := H')).2 H' (fun _ _ e => e)) hl (fun D i x H' acc hx p N N0 h1 h2 => ?_) (by rw [hn]; exact hd)⟩
  have hi : i < j.toNat := by rw [← hn]; exact (List.getElem?_eq_some_iff.mp hx).1
  have e : x = .int (i : Int) := by
    simp [QB.rngV, hi] at hx
    exact hx.symm
  subst e
  exact hs D i H' acc (by omega) p N N0 h1 h2
end
/-! ### what is new -/
def nw (H H' : Hp) : Hp := fun b => match H b with | none => H' b | some _ => none
theorem nw_some {H H' : Hp} {b : Addr} {o : HO} (h : nw H H' b = some o) : H b = none ∧ H' b = some o := by
  unfold nw at h
  cases e : H b with
  | none => rw [e] at h; exact ⟨rfl, h⟩
  | some u => rw [e] at h; cases h
theorem nw_mk {H H' : Hp} {b : Addr} {o : HO} (h1 : H b = none) (h2 : H' b = some o) : nw H H' b = some o := by
  unfold nw
  rw [h1]
  exact h2
theorem nw_sub {H H' : Hp} : Same (nw H H') H' := fun b o h => (nw_some h).2
theorem nw_none {H H' : Hp} {b : Addr} {u : HO} (h : H b = some u) : nw H H' b = none := by
  unfold nw
  rw [h]
/-- later: all but p is kept -/
theorem nw_fr {p : Addr} {H H1 H2 : Hp} {u : HO} (hp : H p = some u) (f : QB.Fr p H1 H2) : Same (nw H H1) (nw H H2) := fun b o h => by
  obtain ⟨h1, h2⟩ := nw_some h
  refine nw_mk h1 (f b o (fun e => ?_) h2)
  subst e
  rw [hp] at h1
  cases h1
/-- what is new since a later heap -/
theorem nw_lt {p : Addr} {H H1 H2 : Hp} {u : HO} (hp : H1 p = some u) (f : QB.Fr p H H1) : Same (nw H1 H2) (nw H H2) := fun b o h => by
  obtain ⟨h1, h2⟩ := nw_some h
  refine nw_mk ?_ h2
  cases e : H b with
  | none => rfl
  | some w =>
    have n : b ≠ p := fun e2 => by subst e2; rw [hp] at h1; cases h1
    rw [f b w n e] at h1
    cases h1
end QC

set_option Elab.async false
set_option linter.all false
set_option maxRecDepth 100000
set_option maxHeartbeats 4000000
/-! Own layer: promises of defs that are called where no repr is under way (guards known to be empty); repr of lists and tuples. -/
namespace QG
open PySem PySem.Spec PyProof.Rows L2
/-- FnOk where no repr is under way -/
structure FnG (P : Program) (w : World) (K : PySem.W.Frag) (mg : Str → Option Value) (base : Heap) (k : Nat) (f : Addr) (fd : FuncData) (ps : List Str) (sp : Sp) : Prop where
  len : ∀ vs H Q E, sp vs H Q E → vs.length = ps.length
  run : ∀ (A : Around) (outer : List Env) (s : Shared) (H : Hp) (args : Args) (us : List Value) (vs : List V) (Q : VK) (E : XK), A.guards = some [] → Room k A → Env0 P w K mg base A outer s H → BindsTo s fd args (ps.zip us) → Vals vs us → sp vs H Q E →
    codeAny (model P w) A (.call (.ref f) args) (CR CX0 outer P w H s Q E) s
theorem deeper_guards {A : Around} {env : Env} (h : A.guards = some []) : (A.deeper env).guards = some [] := h
section
variable {P : Program} {w : World} {K : PySem.W.Frag} {mg : Str → Option Value} {base : Heap}
/-- by its body -/
theorem fnG {x qual : Str} {st : Stmt} {f : Addr} {fd : FuncData} {N ps : List Str} {k : Nat} {sp : Sp} (F : C8.Fun K x qual st f fd) (S : FnScope N ps (C8.fnScope st)) (len : ∀ vs H Q E, sp vs H Q E → vs.length = ps.length)
    (hbody : ∀ (cdv : Value) (A : Around) (outer : List Env) (s : Shared) (H : Hp) (vs : List V) (Q : VK) (E : XK), (A.deeper (envOfC qual (C8.fnScope st) s.heap.objs.size f cdv)).guards = some [] → Room k (A.deeper (envOfC qual (C8.fnScope st) s.heap.objs.size f cdv)) → sp vs H Q E →
      ∃ t, PSs (cxOf CX0 P w K mg base N qual (C8.fnScope st) f cdv A outer s H E).nox (C8.fnBody st) t ∧ t { nx := fun _ H' => Q .non H', rt := Q } (start N vs) H) : FnG P w K mg base (k + 1) f fd ps sp := by
  obtain ⟨oc, od, dV, kV, doc, pm, an, cdv, ct, osl, rfl, lk, hcd⟩ := F.ex
  refine ⟨len, fun A outer s H args us vs Q E hg hr e0 hb r hsp => ?_⟩
  have low : ∀ b o, base.get? b = some o → s.heap.get? b = some o := fun b o e => (e0.bs b o e).1
  have KX : K.In s.heap := e0.mod.kin.keeps low
  refine codeAny_call_function hr.depth (KX _ _ lk) rfl S.co S.gen rfl (PySem.W.codeRec_of KX hcd) (hb _ _ _ _ ?_)
  refine wpAny_newFunctionEnv_cells S.kind (fun y hy => ?_) fun env he s1 x => ?_
  · rcases S.par y.1 (List.of_mem_zip (show (y.1, y.2) ∈ _ from hy)).1 with q | q
    · exact .inl q
    · exact .inr ⟨q, PySem.W.cellsFrom_some _ _ _ (.inl q)⟩
  · subst he
    refine ⟨(e0.mod.nolimit.keeps low).keeps x.toInCall.keep, codeAny_func ?_⟩
    obtain ⟨t, ht, hq⟩ := hbody cdv A outer s H vs Q E (deeper_guards hg) (hr.deeper _) hsp
    have I := inv_start (CX := CX0) (E := E) S hr.hd e0 (len _ _ _ _ hsp) r x
    refine wpAny_mono (ht.nox.run [] s1 (start N vs) H _ I hq) (fun fl s' hs => ?_) fun e s' hs => hs
    cases fl with
    | ret u =>
      obtain ⟨v, σ', H', J, rv, q⟩ := hs
      exact ⟨v, H', J.os, J.bare, J.base, J.hok, rv, q⟩
    | next =>
      obtain ⟨σ', H', J, q⟩ := hs
      exact ⟨.non, H', J.os, J.bare, J.base, J.hok, rfl, q⟩
    | brk =>
      obtain ⟨_, _, _, q⟩ := hs
      exact q.elim
    | cont =>
      obtain ⟨_, _, _, q⟩ := hs
      exact q.elim
/-- a def of the module -/
structure CalG (P : Program) (w : World) (K : PySem.W.Frag) (mg : Str → Option Value) (base : Heap) (k : Nat) (x : Str) (sp : Sp) : Prop where
  ex : ∃ (f : Addr) (fd : FuncData) (ps : List Str), FnG P w K mg base k f fd ps sp ∧ mg x = some (.ref f) ∧ PySem.W.keepIn K (.ref f) = true ∧ Binds K fd ps []
theorem calG_of {x : Str} {st : Stmt} {N ps : List Str} {k : Nat} {sp : Sp} (d : QB.Dd K mg x st ps) (S : FnScope N ps (C8.fnScope st)) (len : ∀ vs H Q E, sp vs H Q E → vs.length = ps.length)
    (hbody : ∀ (f : Addr) (cdv : Value) (A : Around) (outer : List Env) (s : Shared) (H : Hp) (vs : List V) (Q : VK) (E : XK), (A.deeper (envOfC x (C8.fnScope st) s.heap.objs.size f cdv)).guards = some [] → Room k (A.deeper (envOfC x (C8.fnScope st) s.heap.objs.size f cdv)) → sp vs H Q E →
      ∃ t, PSs (cxOf CX0 P w K mg base N x (C8.fnScope st) f cdv A outer s H E).nox (C8.fnBody st) t ∧ t { nx := fun _ H' => Q .non H', rt := Q } (start N vs) H) : CalG P w K mg base (k + 1) x sp := by
  obtain ⟨f, fd, F, b, _⟩ := d.ex
  exact ⟨f, fd, ps, fnG F.fn S len (hbody f), F.mgf, F.kp, b⟩
end
section
variable {X : Cx} {k j : Nat} {x : Str} {sp : Sp} {p pos : Pos} {e : Expr} {es : List Expr} {t : TA}
theorem run_fnG {pins : List (Addr × Obj)} {σ : L2.St} {H : Hp} {s : Shared} {Q : VK} {us : List Value} {vs : List V} {f : Addr} {fd : FuncData} {ps : List Str} (F : FnG X.prog X.w X.K X.mg X.base k f fd ps sp) (hG : X.A.guards = some []) (hr : Room k X.A) (hb : Binds X.K fd ps [])
    (I : Inv X pins σ H s) (r : Vals vs us) (h : sp vs H Q C8.E0) : wpAny (model X.prog X.w) X.A (call (.ref f) us) (EP X pins σ Q) X.xe s := by
  have hl : us.length = ps.length := by rw [← r.length]; exact F.len _ _ _ _ h
  have hb2 := hb s us I.kIn (by rw [List.append_nil]; exact hl)
  rw [List.append_nil] at hb2
  refine wpAny_call (codeAny_mono (F.run X.A X.stack s H ⟨us, []⟩ us vs Q C8.E0 hG hr I.env0 hb2 r h) fun r s' hq => ?_)
  cases r with
  | error e => exact False.elim hq
  | ok fl =>
    cases fl with
    | ret u => exact I.after hq
    | next => exact False.elim hq
    | brk => exact False.elim hq
    | cont => exact False.elim hq
theorem pe_cG (c : CalG X.prog X.w X.K X.mg X.base k x sp) (hG : X.A.guards = some []) (hr : Room j X.A) (hk : k ≤ j) (hg : Gl X x) (ha : PA X (e :: es) t)
    (hdb : (x == ("__debug__" : Str)) = false := by decide) (he : starEach (e :: es) X.env = (false, eval e X.env) :: starEach es X.env := by rfl) (hpl : (backTo pos (starEach es X.env)).any (·.1) = false := by rfl) :
    PE X (.Call (.Name x p) (e :: es) [] pos) (tCall sp [] C8.E0 t) := by
  obtain ⟨f, fd, ps, F, hm, kp, b⟩ := c.ex
  refine ⟨fun pins s σ H Q I h => ?_⟩
  refine wpAny_Call_Name_kw (ld_glob I hg hm ?_ hdb)
  refine PySem.W.callWith_K (h₀ := X.base) I.ok.mod.kin kp (thn (ha.run pos pins s σ H _ I h) fun us s1 ⟨vs, H1, I1, r, q⟩ => ⟨I1.kIn, ?_⟩) he hpl
  have q2 : sp vs H1 Q C8.E0 := by
    have q1 : sp (vs ++ []) H1 Q C8.E0 := q
    rwa [List.append_nil] at q1
  exact run_fnG F hG (hr.mono hk) b I1 r q2
/-- repr of data: lists and tuples of ints, texts, .. -/
def rRepr (K : PySem.W.Frag) : List V → Hp → VK → Prop := fun xs H Q => ∃ (a : Addr) (d : PyData), xs = [.ref a] ∧ Dp K H (.ref a) d ∧ d.showable = true ∧ d.hasDict = false ∧ d.depth ≤ 63 ∧ d.shown.length ≤ sizeLine ∧ Q (.str d.shown) H
theorem c_repr (hG : X.A.guards = some []) (hr : Room j X.A) : CallR X (.builtin "repr") (rRepr X.K) := by
  intro pins s σ H xs us Q I r h
  obtain ⟨a, d, rfl, hd, h1, h2, h3, h4, q⟩ := h
  obtain ⟨u, rfl, ru⟩ := vals1 r
  obtain rfl : u = Value.ref a := ru
  obtain ⟨as, R⟩ := Dp.reads I d _ _ hd rfl
  exact repr_of_reads' R h1 (fun e => by rw [h2] at e; cases e) hG (by have := hr.un; omega) (fun _ _ e => e) (fun h' u tk hk => ⟨.str d.shown, H, I.kept hk, ⟨u, rfl⟩, q⟩) h4
end
/-! ### the end: the law's call -/
theorem law_callG {P : Program} {w : World} {K : PySem.W.Frag} {mg mb : Str → Option Value} {k : Nat} {fa a : Addr} {fd : FuncData} {x : Str} {sp : Sp} {s₁ : Shared} {vs : List Value} {ns : List Int}
    (KX : K.In s₁.heap) (hns : s₁.heap.Ns mainGlobals mg) (hb : s₁.heap.Ns builtinsNs mb) (hbb : ∀ x : Str, x ≠ "__name__" → mb x = bootBuiltins x) (hlim : s₁.heap.NoLimit) (hg : s₁.gens = #[])
    (ha : s₁.heap.get? a = some { cls := .type "list", data := .seq vs.toArray }) (hi : IntsAre vs ns) (hl : ns.length ≤ sizeLine) (hr : Room k callerA)
    (F : ∀ base : Heap, K.In base → base.Ns mainGlobals mg → FnG P w K mg base k fa fd [x] sp) (hbind : ∀ (s : Shared) (u : Value), BindsTo s fd ⟨[u], []⟩ [(x, u)])
    (hsp : ∀ H : Hp, Only H → SqL K H a (ns.map V.int) → sp [.ref a] H (fun v _ => v = .bl true) fun _ _ _ => False) :
    codeAny (model P w) callerA (.call (.ref fa) ⟨[.ref a], []⟩) (fun r s' => r = .ok (.ret (.bool true)) ∧ OldK s₁.heap s'.heap ∧ s'.os = s₁.os ∧ AllBare s'.gens) s₁ := by
  have rv := vals_ints hi
  obtain ⟨H, hO, hS, hok, hA, hK⟩ : ∃ H : Hp, Only H ∧ SqL K H a (ns.map V.int) ∧ HOk P w H s₁.heap ∧ (∀ b u, H b = some u → b = a) ∧ (∀ u, H a = some u → K.lookup a = none) := by
    cases hk : K.lookup a with
    | some o =>
      have e := KX a o hk
      rw [ha] at e
      cases e
      exact ⟨fun _ => none, fun _ => .inl rfl, .inr ⟨_, vs.toArray, _, hk, rfl, rfl, rfl, by rw [List.size_toArray, hi.length]; exact hl, by simpa using rv⟩, (fun b u z => nomatch z), (fun b u z => nomatch z), (fun u z => nomatch z)⟩
    | none =>
      have one : ∀ b u, upd (fun _ => none) a (HO.frz { cls := .type "list", data := .seq vs.toArray } (.lst (ns.map V.int))) b = some u → b = a ∧ u = HO.frz { cls := .type "list", data := .seq vs.toArray } (.lst (ns.map V.int)) := fun b u z => by
        by_cases e : b = a
        · subst e; rw [upd_same] at z; cases z; exact ⟨rfl, rfl⟩
        · rw [upd_ne e] at z; cases z
      refine ⟨upd (fun _ => none) a (.frz { cls := .type "list", data := .seq vs.toArray } (.lst (ns.map V.int))), fun b => ?_, .inl (.inr ⟨{ cls := .type "list", data := .seq vs.toArray }, upd_same⟩), fun b u z => ?_, fun b u z => (one b u z).1, fun _ _ => rfl⟩
      · by_cases e : b = a
        · subst e; exact .inr ⟨_, _, upd_same⟩
        · exact .inl (upd_ne e)
      · obtain ⟨rfl, rfl⟩ := one b u z
        exact ⟨ha, by rw [List.length_map]; exact hl, vs, _, rv, ha⟩
  have at_ : ∀ {b : Addr} {o : Obj}, s₁.heap.get? b = some o → H b = none → (hidT s₁.heap H).get? b = some o := fun e n => hidT_get e n
  have nsK : ∀ {b : Addr} {m : Str → Option Value}, s₁.heap.Ns b m → (hidT s₁.heap H).Ns b m := fun {b m} ⟨o, es, ep, e, d, r⟩ => ⟨o, es, ep, at_ e (by
    cases z : H b with
    | none => rfl
    | some u =>
      obtain rfl := hA b u z
      rw [ha] at e
      cases e
      cases (show Data.seq vs.toArray _ = Data.dict es ep from d)), d, r⟩
  have hKb : K.In (hidT s₁.heap H) := fun b o e => at_ (KX b o e) (by
    cases z : H b with
    | none => rfl
    | some u =>
      obtain rfl := hA b u z
      rw [hK u z] at e
      cases e)
  have hM : Mod K mg (hidT s₁.heap H) := ⟨hKb, nsK hns, ⟨mb, nsK hb, hbb⟩, let ⟨mc, h1, h2⟩ := hlim; ⟨mc, nsK h1, h2⟩⟩
  have e0 : Env0 P w K mg (hidT s₁.heap H) callerA [] s₁ H := ⟨rfl, hM, fun b o e => of_hidT e, Nat.le_of_eq (hidT_size _ _), trivial, fun b z => absurd (show b ∈ ([] : List Addr) from z) (by simp), hok, .of_eq hg⟩
  refine codeAny_mono ((F _ hKb (nsK hns)).run callerA [] s₁ H ⟨[.ref a], []⟩ [.ref a] [.ref a] _ _ rfl hr e0 (hbind s₁ (.ref a)) (.cons rfl .nil) (hsp H hO hS)) fun r s' h => ?_
  match r, h with
  | .error e, h => exact False.elim h
  | .ok .next, h => exact False.elim h
  | .ok .brk, h => exact False.elim h
  | .ok .cont, h => exact False.elim h
  | .ok (.ret u), ⟨v, H', os, bare, un, hok', r', q⟩ =>
    obtain rfl : v = .bl true := q
    obtain rfl : u = Value.bool true := r'
    refine ⟨rfl, OldK.of_keep fun b o e => ?_, os, bare⟩
    cases z : H b with
    | none => exact un.keep b o e z (fun y => absurd (show b ∈ ([] : List Addr) from y) (by simp)) (by simp)
    | some u =>
      rcases hO b with y | ⟨ob, xs, y⟩
      · rw [z] at y; cases y
      · have e1 := (hok b _ y).1
        rw [e] at e1
        cases e1
        exact (hok' b _ (un.frzs b _ _ y)).1
theorem walk_ofG {l : PySem.W.OpenLaw} {n k : Nat} {q : Program} {loose : List Str} {XP : (Str → Option Value) → Heap → Prop} {YP : World → Heap → Prop} {d : DefRec} {K : Params → PySem.W.Frag} {sp : World → Sp} {x : Str}
    (hn : l.most = some n) (hn2 : n ≤ sizeLine) (hdf : d.params.defaults = []) (hr : Room k callerA)
    (hY : ∀ (w : World) (h : Heap), YP w h → (K w.params).In h)
    (F : ∀ (w : World) (mg : Str → Option Value) (fa : Addr) (h : Heap), (K w.params).In h → h.Ns mainGlobals mg → mg d.name = some (.ref fa) →
      ∃ fd : FuncData, (∀ (s : Shared) (u : Value), BindsTo s fd ⟨[u], []⟩ [(x, u)]) ∧
        ∀ base : Heap, (K w.params).In base → base.Ns mainGlobals mg → FnG l.prog w (K w.params) mg base k fa fd [x] (sp w))
    (hsp : ∀ (w : World) (H : Hp) (a : Addr) (ns : List Int), ns.length ≤ n → Only H → SqL (K w.params) H a (ns.map V.int) → sp w [.ref a] H (fun v _ => v = .bl true) fun _ _ _ => False) :
    PySem.W.WalkO q loose XP YP l.row.toRowW d [] (fun f vs => PySem.call f vs) := by
  refine Att.attach_call hn hdf fun w s₀ s₁ mg mb fa o pm cd doc a vs ns G Y ho hd hcd hmg hobj hints hlen hg => ?_
  obtain ⟨fd, hb, hF⟩ := F w mg fa _ (hY w _ Y) G.T.g hmg
  exact law_callG (hY w _ Y) G.T.g G.T.b G.T.builtins G.T.nolimit hg hobj hints (Nat.le_trans hlen hn2) hr hF hb (fun H hO hS => hsp w H a ns hlen hO hS)
end QG

set_option Elab.async false
set_option linter.all false
set_option maxRecDepth 100000
set_option maxHeartbeats 4000000
/-! Own rules: enumerate, targets that are tuples, join, insert, pop at a place, copies of dicts, xs[::-1], a, b = x, y with cells. -/
namespace QE
open PySem PySem.Spec PyProof.Rows L2
def rJoin (K : PySem.W.Frag) : V → List V → Hp → VK → Prop := fun x xs H Q => ∃ a p, ∃ ys : List Str, x = .str a ∧ xs = [.ref p] ∧ (SqL K H p (ys.map V.str) ∨ SqT K H p (ys.map V.str)) ∧ (ys.map (·.length)).sum + ys.length * a.length ≤ 16777216 ∧ Q (.str (Txt.join a ys)) H
def tStrJ (K : PySem.W.Frag) (to te : TE) : TE := tM1 (rJoin K) to te
def kJn (K : PySem.W.Frag) (te : TE) (σ : L2.St) (Q : VK) : VK := fun x H1 => (∃ a, x = .str a) ∧ te σ H1 fun y H2 => rJoin K x [y] H2 Q
def rDcp : List V → Hp → VK → Prop := fun xs H Q => ∃ (a : Addr) (kvs : List (Key × V)), xs = [.ref a] ∧ Rd H a (.dK kvs) ∧ ∀ p, H p = none → Q (.ref p) (upd H p (.dK kvs))
def rIns : V → List V → Hp → VK → Prop := fun x vs H Q => ∃ (l : Addr) (xs : List V) (i : Int) (y : V), x = .ref l ∧ vs = [.int i, y] ∧ H l = some (.lst xs) ∧ xs.length < sizeLine ∧ 0 ≤ i ∧ i < 2 ^ 63 ∧ Q .non (upd H l (.lst (xs.take i.toNat ++ [y] ++ xs.drop i.toNat)))
def kRev (K : PySem.W.Frag) (Q : VK) : VK := fun x H1 => ∃ a xs, x = .ref a ∧ SqL K H1 a xs ∧ ∀ p, H1 p = none → Q (.ref p) (upd H1 p (.lst xs.reverse))
section
variable {X : Cx} {o e : Expr} {to te : TE}
theorem pe_strJ {apos pos : Pos} (ho : PE X o to) (he : PE X e te) (hs : starEach [e] X.env = [(false, eval e X.env)] := by rfl) (hbase : attributeBase o "join" X.env (eval o X.env) = eval o X.env := by rfl) (hline : (apos.endLine == pos.line) = true := by rfl) :
    PE X (.Call (.Attribute o "join" apos) [e] [] pos) (tStrJ X.K to te) := L2.pe_join ho he hs hbase hline
theorem c_dcp : CallR X (.type "dict") rDcp := call_dictD
theorem m_ins : MtR X "list.insert" rIns := mt_insert
end
section
variable {K : PySem.W.Frag} {σ : L2.St} {H : Hp} {Q : VK} {D : Ends} {ta to te : TE} {g : TG} {tb : TS}
theorem strj (h : to σ H (kJn K te σ Q)) : tStrJ K to te σ H Q := h
theorem kjn {a : Str} (h : te σ H fun y H2 => rJoin K (.str a) [y] H2 Q) : kJn K te σ Q (.str a) H := ⟨⟨a, rfl⟩, h⟩
theorem joinL {a : Str} {p : Addr} {ys : List Str} (hp : SqL K H p (ys.map V.str)) (hz : (ys.map (·.length)).sum + ys.length * a.length ≤ 16777216) (h : Q (.str (Txt.join a ys)) H) : rJoin K (.str a) [.ref p] H Q := ⟨a, p, ys, rfl, rfl, .inl hp, hz, h⟩
theorem joinT {a : Str} {p : Addr} {ys : List Str} (hp : SqT K H p (ys.map V.str)) (hz : (ys.map (·.length)).sum + ys.length * a.length ≤ 16777216) (h : Q (.str (Txt.join a ys)) H) : rJoin K (.str a) [.ref p] H Q := ⟨a, p, ys, rfl, rfl, .inr hp, hz, h⟩
theorem dcp {a : Addr} {kvs : List (Key × V)} (ha : H a = some (.dK kvs)) (h : ∀ p, H p = none → Q (.ref p) (upd H p (.dK kvs))) : rDcp [.ref a] H Q := ⟨a, kvs, rfl, .inl ha, h⟩
theorem ins {l : Addr} {xs : List V} {i : Int} {y : V} (hl : H l = some (.lst xs)) (hz : xs.length < sizeLine) (h0 : 0 ≤ i) (h1 : i < 2 ^ 63) (h : Q .non (upd H l (.lst (xs.take i.toNat ++ [y] ++ xs.drop i.toNat)))) : rIns (.ref l) [.int i, y] H Q := ⟨l, xs, i, y, rfl, rfl, hl, hz, h0, h1, h⟩
theorem rev (h : te σ H (kRev K Q)) : tRevL K te σ H Q := h
theorem krev {a : Addr} {xs : List V} (hp : SqL K H a xs) (h : ∀ p, H p = none → Q (.ref p) (upd H p (.lst xs.reverse))) : kRev K Q (.ref a) H := ⟨a, xs, rfl, hp, h⟩
/-! targets -/
theorem gtup {n : Nat} {t : TGs} {a : Addr} {xs : List V} {QG : L2.St → Hp → Prop} (hp : SqT K H a xs) (hn : xs.length = n) (h : t xs σ H QG) : gTup K n t (.ref a) σ H QG := ⟨a, xs, rfl, hp, hn, h⟩
theorem gcons {t : TG} {u : TGs} {v : V} {r : List V} {QG : L2.St → Hp → Prop} (h : t v σ H fun σ' H' => u r σ' H' QG) : gCons t u (v :: r) σ H QG := ⟨v, r, rfl, h⟩
theorem gnil {QG : L2.St → Hp → Prop} (h : QG σ H) : gNil [] σ H QG := ⟨rfl, h⟩
theorem seqA2 {u : TS} (h : te σ H fun x H1 => g x σ H1 (u D)) : tSeq (tAsg te g) u D σ H := h
def kPar (σ : L2.St) (i j : Nat) (R : L2.St → Hp → Prop) : List V → Hp → Prop := fun vs H1 => ∃ v w, vs = [v, w] ∧ R ((σ.set i (some v)).set j (some w)) H1
theorem spar {u : TS} {i j : Nat} {tl : TA} (h : tl σ H (kPar σ i j (u D))) : tSeq (tPar i j tl) u D σ H := h
theorem kpar {i j : Nat} {R : L2.St → Hp → Prop} {v w : V} (h : R ((σ.set i (some v)).set j (some w)) H) : kPar σ i j R [v, w] H := ⟨v, w, rfl, h⟩
theorem tifR {c : TT} {ta tb : TE} (P : V → Hp → Prop) (hQ : ∀ x H', P x H' → Q x H') (k : ∀ Q' : VK, (∀ x H', P x H' → Q' x H') → tIf c ta tb σ H Q') : tIf c ta tb σ H Q := k Q hQ
/-! enumerate -/
def kEnum (K : PySem.W.Frag) (g : TG) (tb : TS) (D : Ends) (σ : L2.St) : List V → Hp → Prop := fun vs H1 => ∃ a xs, vs = [.ref a] ∧ SqL K H1 a xs ∧ QB.ForW (Ite K a) g tb D σ H1
theorem f_enum {ta : TA} (h : ta σ H (kEnum K g tb D σ)) : tFor (iEnum K ta) g tb D σ H := h
theorem fs_enum {ta : TA} {u : TS} (h : ta σ H (kEnum K g tb { D with nx := u D } σ)) : tSeq (tFor (iEnum K ta) g tb) u D σ H := h
theorem k_enum {a : Addr} {xs : List V} (Pv : Nat → L2.St → Hp → Prop) (h0 : Pv 0 σ H) (hl : ∀ i σ H, Pv i σ H → SqL K H a xs)
    (hs : ∀ (i : Nat) x T σ H, xs[i]? = some x → Pv i σ H → H T = none → ∀ N B : L2.St → Hp → Prop, (∀ σ H, Pv (i + 1) σ H → N σ H) → (∀ σ H, D.nx σ H → B σ H) → g (.ref T) σ (upd H T (.tup [.int (i : Nat), x])) fun σ2 H2 => tb ⟨N, D.rt, B, N⟩ σ2 H2)
    (hd : ∀ σ H, Pv xs.length σ H → D.nx σ H) : kEnum K g tb D σ [.ref a] H := by
  refine ⟨a, xs, rfl, hl 0 σ H h0, fun i m σ H => m = xs.length - i ∧ i ≤ xs.length ∧ Pv i σ H, ⟨xs.length, by simp, Nat.zero_le _, h0⟩, ?_⟩
  rintro i m σ H ⟨rfl, hi, hp⟩
  have hq := hl i σ H hp
  by_cases hlt : i < xs.length
  · refine .inr ⟨⟨xs, xs[i], hq, by simp [hlt]⟩, fun σ' H' => Pv (i + 1) σ' H', fun σ' H' p' => ⟨xs.length - (i + 1), by omega, rfl, hlt, p'⟩, ?_⟩
    rintro v H' ⟨T, x, rfl, hT, rfl, hx⟩
    exact hs i x T σ H (hx xs hq) hp hT _ _ (fun _ _ q => q) (fun _ _ q => q)
  · have e : i = xs.length := by omega
    subst e
    exact .inl ⟨⟨xs, hq, Nat.le_refl _⟩, hd σ H hp⟩
variable {tt : TT} {vs : List Nat}
def kcEnum (K : PySem.W.Frag) (g : TG) (tt : TT) (te : TE) (vs : List Nat) (σ : L2.St) (Q : VK) : List V → Hp → Prop := fun ws H1 => ∃ a xs, ws = [.ref a] ∧ SqL K H1 a xs ∧ QB.LcW (Ite K a) g tt te vs σ H1 Q
theorem c_enum {ta : TA} (h : ta σ H (kcEnum K g tt te vs σ Q)) : tLc (iEnum K ta) g tt te vs σ H Q := h
/-- by places; what stood stays -/
theorem kc_enum {a : Addr} {xs : List V} (hp : SqL K H a xs) (hsz : xs.length < sizeLine) (R : Nat → List V) (r0 : R 0 = [])
    (hs : ∀ (i : Nat) x T H', xs[i]? = some x → Same H H' → H' T = none → ∀ (N : VK) (N0 : Hp → Prop), (∀ y H4, Same (upd H' T (.tup [.int (i : Nat), x])) H4 → R (i + 1) = R i ++ [y] → N y H4) → (∀ H3, Same (upd H' T (.tup [.int (i : Nat), x])) H3 → R (i + 1) = R i → N0 H3) →
      g (.ref T) (wipe σ vs) (upd H' T (.tup [.int (i : Nat), x])) fun σ2 H2 => wipe σ2 vs = wipe σ vs ∧ tt σ2 H2 fun b H3 => if b = true then te σ2 H3 N else N0 H3)
    (hd : ∀ D H', H D = none → Same H H' → H' D = some (.lst (R xs.length)) → Q (.ref D) H') : kcEnum K g tt te vs σ Q [.ref a] H := by
  refine ⟨a, xs, rfl, hp, fun D hD => ⟨fun i m H' => m = xs.length - i ∧ i ≤ xs.length ∧ Same H H' ∧ H' D = some (.lst (R i)) ∧ (R i).length ≤ i, ⟨xs.length, by simp, Nat.zero_le _, QB.same_new hD, by rw [r0]; exact upd_same, by rw [r0]; simp⟩, ?_⟩⟩
  rintro i m H' ⟨rfl, hi, sm, hl, hn⟩
  have hq := sm.seq hp
  by_cases hlt : i < xs.length
  · refine .inr ⟨⟨xs, xs[i], hq, by simp [hlt]⟩, fun H2 => Same H H2 ∧ H2 D = some (.lst (R (i + 1))) ∧ (R (i + 1)).length ≤ i + 1, fun H2 p' => ⟨xs.length - (i + 1), by omega, rfl, hlt, p'⟩, ?_⟩
    rintro v H2 ⟨T, x, rfl, hT, rfl, hx⟩
    have sT : Same H' (upd H' T (.tup [.int (i : Nat), x])) := QB.same_new hT
    refine hs i x T H' (hx xs hq) sm hT _ _ (fun y H4 s4 e => ?_) (fun H3 s3 e => ?_)
    · refine ⟨R i, s4 _ _ (sT _ _ hl), ?_, QB.same_mut ((sm.trans sT).trans s4) hD, by rw [upd_same, e], by rw [e]; simp; omega⟩
      have : (R i).length ≤ xs.length := by omega
      omega
    · exact ⟨(sm.trans sT).trans s3, by rw [e]; exact s3 _ _ (sT _ _ hl), by rw [e]; omega⟩
  · have e : i = xs.length := by omega
    subst e
    exact .inl ⟨⟨xs, hq, Nat.le_refl _⟩, hd D H' hD sm hl⟩
theorem kc_lstW {a : Addr} {xs : List V} (hp : SqL K H a xs) (hsz : xs.length < sizeLine) (Pv : Addr → Nat → Hp → List V → Prop) (h0 : ∀ D, H D = none → Pv D 0 (upd H D (.lst [])) [])
    (hq : ∀ D i H' acc, Pv D i H' acc → SqL K H' a xs) (hl : ∀ D i H' acc, Pv D i H' acc → H' D = some (.lst acc) ∧ acc.length ≤ i)
    (hs : ∀ D (i : Nat) x H' acc, xs[i]? = some x → Pv D i H' acc → ∀ (N : VK) (N0 : Hp → Prop), (∀ y H4, H4 D = some (.lst acc) → Pv D (i + 1) (upd H4 D (.lst (acc ++ [y]))) (acc ++ [y]) → N y H4) → (∀ H3, Pv D (i + 1) H3 acc → N0 H3) →
      g x (wipe σ vs) H' fun σ2 H2 => wipe σ2 vs = wipe σ vs ∧ tt σ2 H2 fun b H3 => if b = true then te σ2 H3 N else N0 H3)
    (hd : ∀ D H' acc, H D = none → Pv D xs.length H' acc → Q (.ref D) H') : QB.kcLst K g tt te vs σ Q (.ref a) H :=
  ⟨a, rfl, ⟨xs, hp⟩, QB.lcw hsz Pv h0 (fun D i H' acc hi p => (QB.lst_go (hq D i H' acc p)).1 i H' hi (fun _ _ e => e)) (fun D H' acc p => (QB.lst_go (hq D _ H' acc p)).2 H' (fun _ _ e => e)) hl hs hd⟩
end
end QE

set_option Elab.async false
set_option linter.all false
set_option maxRecDepth 100000
set_option maxHeartbeats 4000000
/-! Own layer: trees. A value of the heap is read as a tree; defs are read as functions over trees; what a def alone holds may be changed. -/
namespace QT
open PySem PySem.Spec PyProof.Rows L2 QB
/-- a value as a tree -/
inductive T where
  | non | bl (b : Bool) | int (i : Int) | str (x : Str) | lst (xs : List T) | tup (xs : List T) | dct (kvs : List (Key × T)) | obj (c : Nat) (fs : List (Str × T)) | cls (c : Nat) | ty (n : String)
abbrev Oset := Addr → Prop
open Classical in
noncomputable def hide (H : Hp) (O : Oset) : Hp := fun a => if O a then none else H a
def Oset.add (O : Oset) (p : Addr) : Oset := fun a => a = p ∨ O a
def Oset.del (O : Oset) (p : Addr) : Oset := fun a => a ≠ p ∧ O a
section
variable {H H' H1 H2 : Hp} {O O' O1 O2 : Oset} {a b p : Addr} {o : HO}
theorem hide_some : hide H O a = some o ↔ ¬ O a ∧ H a = some o := by
  unfold hide
  by_cases h : O a <;> simp [h]
theorem hide_of (h : ¬ O a) (e : H a = some o) : hide H O a = some o := hide_some.mpr ⟨h, e⟩
theorem hide_sub : Same (hide H O) H := fun b u e => (hide_some.mp e).2
theorem hide_mono (h : ∀ p, O' p → O p) : Same (hide H O) (hide H O') := fun b u e => hide_of (fun x => (hide_some.mp e).1 (h b x)) (hide_some.mp e).2
theorem hide_upd (h : O p) : hide (upd H p o) O = hide H O := by
  funext b
  unfold hide
  by_cases hb : O b
  · simp [hb]
  · have : b ≠ p := fun e => hb (e ▸ h)
    simp [hb, upd_ne this]
theorem hide_new (h : H p = none) : Same (hide H O) (hide (upd H p o) (O.add p)) := fun b u e => by
  obtain ⟨h1, h2⟩ := hide_some.mp e
  have : b ≠ p := ne_of_none h2 h
  exact hide_of (fun x => x.elim this h1) (by rw [upd_ne this]; exact h2)
theorem hide_newv (h : H p = none) : Same (hide H O) (hide (upd H p o) O) := fun b u e => by
  obtain ⟨h1, h2⟩ := hide_some.mp e
  have : b ≠ p := ne_of_none h2 h
  exact hide_of h1 (by rw [upd_ne this]; exact h2)
end
/-! ### locks -/
def c1 : HO → HO
  | .frz _ u => u
  | o => o
def dic : HO → Prop
  | .dK _ => True
  | .dT _ => True
  | .set _ _ => True
  | _ => False
def Lk (o o' : HO) : Prop := o' = o ∨ (c1 o = c1 o' ∧ dic (c1 o))
def Le (H H' : Hp) : Prop := ∀ a o, H a = some o → ∃ o', H' a = some o' ∧ Lk o o'
theorem Le.of {H H' : Hp} (s : Same H H') : Le H H' := fun a o e => ⟨o, s a o e, .inl rfl⟩
theorem c1_of {u o : HO} (h : c1 o = u) (n : ∀ x y, u ≠ .frz x y) : o = u ∨ ∃ ob, o = .frz ob u := by
  cases o <;> simp [c1] at h <;> first | exact .inl h | exact .inr ⟨_, by rw [h]⟩
theorem Le.rd {H H' : Hp} {a : Addr} {u : HO} (l : Le H H') (n : ∀ x y, u ≠ .frz x y) (h : Rd H a u) : Rd H' a u := by
  rcases h with h | ⟨ob, h⟩
  · obtain ⟨o', e, rfl | ⟨k, _⟩⟩ := l a _ h
    · exact .inl e
    · have hu : c1 u = u := by cases u <;> first | rfl | exact absurd rfl (n _ _)
      rw [hu] at k
      rcases c1_of k.symm n with rfl | ⟨ob, rfl⟩
      · exact .inl e
      · exact .inr ⟨ob, e⟩
  · obtain ⟨o', e, rfl | ⟨k, _⟩⟩ := l a _ h
    · exact .inr ⟨ob, e⟩
    · rcases c1_of (show c1 o' = u from k.symm) n with rfl | ⟨ob, rfl⟩
      · exact .inl e
      · exact .inr ⟨ob, e⟩
theorem Le.sqL {K : PySem.W.Frag} {H H' : Hp} {a : Addr} {xs : List V} (l : Le H H') (h : SqL K H a xs) : SqL K H' a xs := by
  rcases h with h | h
  · exact .inl (l.rd (fun _ _ => by simp) h)
  · exact .inr h
theorem Le.sqT {K : PySem.W.Frag} {H H' : Hp} {a : Addr} {xs : List V} (l : Le H H') (h : SqT K H a xs) : SqT K H' a xs := by
  rcases h with h | h
  · exact .inl (l.rd (fun _ _ => by simp) h)
  · exact .inr h
theorem Le.ins {H H' : Hp} {a C dx : Addr} {fs : List (Str × V)} (l : Le H H') (h : H a = some (.ins C dx fs)) : H' a = some (.ins C dx fs) := by
  obtain ⟨o', e, rfl | ⟨_, k⟩⟩ := l a _ h
  · exact e
  · exact k.elim
/-! ### a tree in the heap -/
mutual
inductive Rp (K : PySem.W.Frag) (A : Nat → Addr) (H : Hp) : V → T → Prop
  | non : Rp K A H .non .non
  | bl (b : Bool) : Rp K A H (.bl b) (.bl b)
  | int (i : Int) : Rp K A H (.int i) (.int i)
  | str (x : Str) : Rp K A H (.str x) (.str x)
  | cls (c : Nat) : Rp K A H (.ref (A c)) (.cls c)
  | ty (n : String) : Rp K A H (.ty n) (.ty n)
  | lst {p : Addr} {vs : List V} {ts : List T} : SqL K H p vs → RpL K A H vs ts → Rp K A H (.ref p) (.lst ts)
  | tup {p : Addr} {vs : List V} {ts : List T} : SqT K H p vs → RpL K A H vs ts → Rp K A H (.ref p) (.tup ts)
  | dct {p : Addr} {vs : List (Key × V)} {ts : List (Key × T)} : Rd H p (.dK vs) → RpK K A H vs ts → Rp K A H (.ref p) (.dct ts)
  | obj {p dx : Addr} {c : Nat} {vs : List (Str × V)} {ts : List (Str × T)} : H p = some (.ins (A c) dx vs) → RpF K A H vs ts → Rp K A H (.ref p) (.obj c ts)
inductive RpL (K : PySem.W.Frag) (A : Nat → Addr) (H : Hp) : List V → List T → Prop
  | nil : RpL K A H [] []
  | cons {v : V} {t : T} {vs : List V} {ts : List T} : Rp K A H v t → RpL K A H vs ts → RpL K A H (v :: vs) (t :: ts)
inductive RpK (K : PySem.W.Frag) (A : Nat → Addr) (H : Hp) : List (Key × V) → List (Key × T) → Prop
  | nil : RpK K A H [] []
  | cons {k : Key} {v : V} {t : T} {vs : List (Key × V)} {ts : List (Key × T)} : Rp K A H v t → RpK K A H vs ts → RpK K A H ((k, v) :: vs) ((k, t) :: ts)
inductive RpF (K : PySem.W.Frag) (A : Nat → Addr) (H : Hp) : List (Str × V) → List (Str × T) → Prop
  | nil : RpF K A H [] []
  | cons {k : Str} {v : V} {t : T} {vs : List (Str × V)} {ts : List (Str × T)} : Rp K A H v t → RpF K A H vs ts → RpF K A H ((k, v) :: vs) ((k, t) :: ts)
end
section
variable {K : PySem.W.Frag} {A : Nat → Addr} {H H' : Hp}
mutual
theorem Rp.mono (s : Le H H') : ∀ {v : V} {t : T}, Rp K A H v t → Rp K A H' v t
  | _, _, .non => .non
  | _, _, .bl b => .bl b
  | _, _, .int i => .int i
  | _, _, .str x => .str x
  | _, _, .cls c => .cls c
  | _, _, .ty n => .ty n
  | _, _, .lst h a => .lst (s.sqL h) (RpL.mono s a)
  | _, _, .tup h a => .tup (s.sqT h) (RpL.mono s a)
  | _, _, .dct h a => .dct (s.rd (fun _ _ => by simp) h) (RpK.mono s a)
  | _, _, .obj h a => .obj (s.ins h) (RpF.mono s a)
theorem RpL.mono (s : Le H H') : ∀ {vs : List V} {ts : List T}, RpL K A H vs ts → RpL K A H' vs ts
  | _, _, .nil => .nil
  | _, _, .cons h t => .cons (Rp.mono s h) (RpL.mono s t)
theorem RpK.mono (s : Le H H') : ∀ {vs : List (Key × V)} {ts : List (Key × T)}, RpK K A H vs ts → RpK K A H' vs ts
  | _, _, .nil => .nil
  | _, _, .cons h t => .cons (Rp.mono s h) (RpK.mono s t)
theorem RpF.mono (s : Le H H') : ∀ {vs : List (Str × V)} {ts : List (Str × T)}, RpF K A H vs ts → RpF K A H' vs ts
  | _, _, .nil => .nil
  | _, _, .cons h t => .cons (Rp.mono s h) (RpF.mono s t)
end
theorem RpL.len : ∀ {vs : List V} {ts : List T}, RpL K A H vs ts → vs.length = ts.length
  | _, _, .nil => rfl
  | _, _, .cons _ t => by simp [RpL.len t]
theorem RpL.get : ∀ {vs : List V} {ts : List T} {i : Nat} {t : T}, RpL K A H vs ts → ts[i]? = some t → ∃ v, vs[i]? = some v ∧ Rp K A H v t
  | _, _, _, _, .nil, h => by simp at h
  | _, _, 0, _, .cons a b, h => by simp at h; subst h; exact ⟨_, rfl, a⟩
  | _, _, i + 1, _, .cons a b, h => by simp at h; simpa using RpL.get b h
theorem RpL.app : ∀ {vs ws : List V} {ts us : List T}, RpL K A H vs ts → RpL K A H ws us → RpL K A H (vs ++ ws) (ts ++ us)
  | _, _, _, _, .nil, h => h
  | _, _, _, _, .cons a b, h => .cons a (RpL.app b h)
theorem RpL.snoc {vs : List V} {ts : List T} {v : V} {t : T} (h : RpL K A H vs ts) (x : Rp K A H v t) : RpL K A H (vs ++ [v]) (ts ++ [t]) := h.app (.cons x .nil)
theorem RpL.take : ∀ {vs : List V} {ts : List T} (n : Nat), RpL K A H vs ts → RpL K A H (vs.take n) (ts.take n)
  | _, _, 0, _ => .nil
  | _, _, _ + 1, .nil => .nil
  | _, _, n + 1, .cons a b => .cons a (RpL.take n b)
theorem RpL.drop : ∀ {vs : List V} {ts : List T} (n : Nat), RpL K A H vs ts → RpL K A H (vs.drop n) (ts.drop n)
  | _, _, 0, h => h
  | _, _, _ + 1, .nil => .nil
  | _, _, n + 1, .cons a b => RpL.drop n b
theorem RpL.set {v : V} {t : T} (x : Rp K A H v t) : ∀ {vs : List V} {ts : List T} (n : Nat), RpL K A H vs ts → RpL K A H (vs.set n v) (ts.set n t)
  | _, _, _, .nil => .nil
  | _, _, 0, .cons _ b => .cons x b
  | _, _, n + 1, .cons a b => .cons a (RpL.set x n b)
theorem RpL.rev : ∀ {vs : List V} {ts : List T}, RpL K A H vs ts → RpL K A H vs.reverse ts.reverse
  | _, _, .nil => .nil
  | _, _, .cons a b => by simpa using (RpL.rev b).snoc a
theorem RpL.strs : ∀ {vs : List V} {xs : List Str}, RpL K A H vs (xs.map T.str) → vs = xs.map V.str
  | _, [], .nil => rfl
  | _, _ :: _, .cons (.str x) b => by simp [RpL.strs b]
theorem RpL.ints : ∀ {vs : List V} {xs : List Int}, RpL K A H vs (xs.map T.int) → vs = xs.map V.int
  | _, [], .nil => rfl
  | _, _ :: _, .cons (.int x) b => by simp [RpL.ints b]
theorem RpL.ofInts : ∀ (xs : List Int), RpL K A H (xs.map V.int) (xs.map T.int)
  | [] => .nil
  | x :: r => .cons (.int x) (RpL.ofInts r)
theorem RpL.ofStrs : ∀ (xs : List Str), RpL K A H (xs.map V.str) (xs.map T.str)
  | [] => .nil
  | x :: r => .cons (.str x) (RpL.ofStrs r)
theorem RpF.look : ∀ {vs : List (Str × V)} {ts : List (Str × T)} {f : Str} {t : T}, RpF K A H vs ts → ts.lookup f = some t → ∃ v, vs.lookup f = some v ∧ Rp K A H v t
  | _, _, _, _, .nil, h => by simp at h
  | _, _, f, t, .cons (k := k) a b, h => by
    rw [List.lookup_cons] at h ⊢
    cases e : f == k with
    | true => rw [e] at h; cases h; exact ⟨_, rfl, a⟩
    | false => rw [e] at h; exact RpF.look b h
theorem RpF.none : ∀ {vs : List (Str × V)} {ts : List (Str × T)} {f : Str}, RpF K A H vs ts → ts.lookup f = Option.none → vs.lookup f = Option.none
  | _, _, _, .nil, h => rfl
  | _, _, f, .cons (k := k) a b, h => by
    rw [List.lookup_cons] at h ⊢
    cases e : f == k with
    | true => rw [e] at h; cases h
    | false => rw [e] at h; exact RpF.none b h
def putT (f : Str) (t : T) : List (Str × T) → List (Str × T)
  | [] => [(f, t)]
  | (g, u) :: r => if g = f then (g, t) :: r else (g, u) :: putT f t r
theorem RpF.len : ∀ {vs : List (Str × V)} {ts : List (Str × T)}, RpF K A H vs ts → vs.length = ts.length
  | _, _, .nil => rfl
  | _, _, .cons _ t => by simp [RpF.len t]
end
/-- what stands at p, which is held -/
def Own1 (K : PySem.W.Frag) (A : Nat → Addr) (H Hh : Hp) (p : Addr) : T → Prop
  | .lst ts => ∃ vs, H p = some (.lst vs) ∧ RpL K A Hh vs ts
  | .dct ts => ∃ vs, H p = some (.dK vs) ∧ RpK K A Hh vs ts
  | .obj c ts => ∃ dx vs, H p = some (.ins (A c) dx vs) ∧ RpF K A Hh vs ts
  | _ => False
theorem Own1.some {K : PySem.W.Frag} {A : Nat → Addr} {H Hh : Hp} {p : Addr} {t : T} (h : Own1 K A H Hh p t) : H p ≠ none := by
  cases t <;> first | exact h.elim | (obtain ⟨_, h, _⟩ := h; rw [h]; simp) | (obtain ⟨_, _, h, _⟩ := h; rw [h]; simp)
theorem Own1.mono {K : PySem.W.Frag} {A : Nat → Addr} {H H' Hh Hh' : Hp} {p : Addr} {t : T} (h : Own1 K A H Hh p t) (e : H' p = H p) (l : Le Hh Hh') : Own1 K A H' Hh' p t := by
  cases t <;> first | exact h.elim | skip
  · obtain ⟨vs, h, r⟩ := h; exact ⟨vs, e.trans h, r.mono l⟩
  · obtain ⟨vs, h, r⟩ := h; exact ⟨vs, e.trans h, r.mono l⟩
  · obtain ⟨dx, vs, h, r⟩ := h; exact ⟨dx, vs, e.trans h, r.mono l⟩
theorem Own1.rp {K : PySem.W.Frag} {A : Nat → Addr} {H Hh : Hp} {p : Addr} {t : T} {O : Oset} (h : Own1 K A H Hh p t) (n : ¬ O p) (l : Le Hh (hide H O)) : Rp K A (hide H O) (.ref p) t := by
  cases t <;> first | exact h.elim | skip
  · obtain ⟨vs, h, r⟩ := h; exact .lst (.inl (.inl (hide_of n h))) (r.mono l)
  · obtain ⟨vs, h, r⟩ := h; exact .dct (.inl (hide_of n h)) (r.mono l)
  · obtain ⟨dx, vs, h, r⟩ := h; exact .obj (hide_of n h) (r.mono l)
/-! ### slots -/
inductive Sl where
  | no | val (t : T) | own (t : T) | io (t : T)
abbrev Rho := List Sl
def hold (ρ : Rho) (i : Nat) : Prop := ∃ t, ρ[i]? = some (.own t) ∨ ρ[i]? = some (.io t)
structure Fx where
  H0 : Hp
  O0 : Oset
  I : Oset
  σ0 : L2.St
structure Rel (K : PySem.W.Frag) (A : Nat → Addr) (G : Fx) (σ : L2.St) (H : Hp) (ρ : Rho) (O : Oset) : Prop where
  len : σ.length = ρ.length
  val : ∀ (i : Nat) (t : T), ρ[i]? = some (Sl.val t) → ∃ v, σ[i]? = some (some v) ∧ Rp K A (hide H O) v t
  own : ∀ (i : Nat) (t : T), ρ[i]? = some (Sl.own t) → ∃ p, σ[i]? = some (some (V.ref p)) ∧ O p ∧ ¬ G.O0 p ∧ Own1 K A H (hide H O) p t
  io : ∀ (i : Nat) (t : T), ρ[i]? = some (Sl.io t) → ∃ p, σ[i]? = some (some (V.ref p)) ∧ G.I p ∧ G.σ0[i]? = some (some (V.ref p)) ∧ Own1 K A H (hide H O) p t
  inj : ∀ (i j : Nat) (p : Addr), hold ρ i → hold ρ j → σ[i]? = some (some (V.ref p)) → σ[j]? = some (some (V.ref p)) → i = j
  dom : ∀ p, O p → H p ≠ none
  sub : ∀ p, G.O0 p → O p
  isub : ∀ p, G.I p → G.O0 p
  fr : ∀ p, G.O0 p → ¬ G.I p → H p = G.H0 p
  new : ∀ p, O p → ¬ G.O0 p → G.H0 p = none
  live : ∀ a, G.H0 a ≠ none → H a ≠ none
section
variable {K : PySem.W.Frag} {A : Nat → Addr} {G : Fx} {σ : L2.St} {H H' : Hp} {ρ ρ' : Rho} {O O' : Oset} {i : Nat} {p : Addr} {t t' : T} {v : V} {o : HO}
theorem Rel.held (r : Rel K A G σ H ρ O) (h : hold ρ i) : ∃ p t, σ[i]? = some (some (V.ref p)) ∧ O p ∧ Own1 K A H (hide H O) p t ∧ (ρ[i]? = some (Sl.own t) ∨ ρ[i]? = some (Sl.io t)) := by
  obtain ⟨t, h | h⟩ := h
  · obtain ⟨p, h1, h2, _, h3⟩ := r.own i t h; exact ⟨p, t, h1, h2, h3, .inl h⟩
  · obtain ⟨p, h1, h2, _, h3⟩ := r.io i t h; exact ⟨p, t, h1, r.sub p (r.isub p h2), h3, .inr h⟩
/-- the heap grows; what is held stays -/
theorem Rel.grow (r : Rel K A G σ H ρ O) (s : Le (hide H O) (hide H' O)) (k : ∀ p, O p → H' p = H p) (lv : ∀ a, H a ≠ none → H' a ≠ none) : Rel K A G σ H' ρ O where
  len := r.len
  val := fun i t e => let ⟨v, h1, h2⟩ := r.val i t e; ⟨v, h1, h2.mono s⟩
  own := fun i t e => let ⟨p, h1, h2, h3, h4⟩ := r.own i t e; ⟨p, h1, h2, h3, h4.mono (k p h2) s⟩
  io := fun i t e => let ⟨p, h1, h2, h3, h4⟩ := r.io i t e; ⟨p, h1, h2, h3, h4.mono (k p (r.sub p (r.isub p h2))) s⟩
  inj := r.inj
  dom := fun p e => lv p (r.dom p e)
  sub := r.sub
  isub := r.isub
  fr := fun p e n => (k p (r.sub p e)).trans (r.fr p e n)
  new := r.new
  live := fun a e => lv a (r.live a e)
theorem Rel.fresh (r : Rel K A G σ H ρ O) (h : H p = none) : ¬ O p ∧ ¬ G.O0 p ∧ G.H0 p = none := by
  have n : ¬ O p := fun e => r.dom p e h
  refine ⟨n, fun e => n (r.sub p e), ?_⟩
  cases e : G.H0 p with
  | none => rfl
  | some u => exact absurd h (r.live p (by rw [e]; simp))
theorem lv_upd (h : ∀ a, H a ≠ none → H' a ≠ none) : ∀ a, H a ≠ none → upd H' p o a ≠ none := fun a e => by
  by_cases x : a = p
  · subst x; rw [upd_same]; simp
  · rw [upd_ne x]; exact h a e
theorem lv_refl : ∀ a, H a ≠ none → H a ≠ none := fun _ e => e
/-- a new object -/
theorem Rel.newv (r : Rel K A G σ H ρ O) (h : H p = none) : Rel K A G σ (upd H p o) ρ O :=
  r.grow (Le.of (hide_newv h)) (fun q e => upd_ne (fun x => by subst x; exact r.dom q e h)) (lv_upd lv_refl)
/-- more is hidden -/
theorem Rel.add (r : Rel K A G σ H ρ O) (s : ∀ (i : Nat) (t : T), ρ[i]? = some (Sl.val t) → ∃ v, σ[i]? = some (some v) ∧ Rp K A (hide H (O.add p)) v t) (s2 : ∀ (i : Nat) (q : Addr) (t : T), (ρ[i]? = some (Sl.own t) ∨ ρ[i]? = some (Sl.io t)) → σ[i]? = some (some (V.ref q)) → Own1 K A H (hide H (O.add p)) q t) (hd : H p ≠ none) (n0 : ¬ G.O0 p) (h0 : G.H0 p = none) : Rel K A G σ H ρ (O.add p) where
  len := r.len
  val := s
  own := fun i t e => let ⟨q, h1, h2, h3, h4⟩ := r.own i t e; ⟨q, h1, .inr h2, h3, s2 i q t (.inl e) h1⟩
  io := fun i t e => let ⟨q, h1, h2, h3, h4⟩ := r.io i t e; ⟨q, h1, h2, h3, s2 i q t (.inr e) h1⟩
  inj := r.inj
  dom := fun q e => e.elim (fun x => by subst x; exact hd) (r.dom q)
  sub := fun q e => .inr (r.sub q e)
  isub := r.isub
  fr := r.fr
  new := fun q e n => e.elim (fun x => by subst x; exact h0) (fun x => r.new q x n)
  live := r.live
/-- a new object that is hidden -/
theorem Rel.newh (r : Rel K A G σ H ρ O) (h : H p = none) : Rel K A G σ (upd H p o) ρ (O.add p) := by
  obtain ⟨n, n0, h0⟩ := r.fresh h
  have r' := r.newv (o := o) h
  have s : Le (hide H O) (hide (upd H p o) (O.add p)) := Le.of (hide_new h)
  refine r'.add (fun i t e => ?_) (fun i q t e hq => ?_) (by rw [upd_same]; simp) n0 h0
  · obtain ⟨v, h1, h2⟩ := r.val i t e; exact ⟨v, h1, h2.mono s⟩
  · obtain ⟨q', t', h1, h2, h3, h4⟩ := r.held ⟨t, e⟩
    rw [hq] at h1; cases h1
    have et : t' = t := by rcases e with e | e <;> rcases h4 with h4 | h4 <;> rw [e] at h4 <;> cases h4 <;> rfl
    subst et
    exact h3.mono (upd_ne (fun x => by subst x; exact n h2)) s
/-- less is hidden: p, which no slot holds -/
theorem Rel.less (r : Rel K A G σ H ρ (O.add p)) (r0 : ∀ (i : Nat) (t : T), ρ[i]? = some (Sl.own t) → σ[i]? ≠ some (some (V.ref p))) (n0 : ¬ G.O0 p) : Rel K A G σ H ρ O where
  len := r.len
  val := fun i t e => let ⟨v, h1, h2⟩ := r.val i t e; ⟨v, h1, h2.mono (Le.of (hide_mono fun _ e => .inr e))⟩
  own := fun i t e => let ⟨q, h1, h2, h3, h4⟩ := r.own i t e; ⟨q, h1, h2.resolve_left (fun x => r0 i t e (by rw [h1, x])), h3, h4.mono rfl (Le.of (hide_mono fun _ e => .inr e))⟩
  io := fun i t e => let ⟨q, h1, h2, h3, h4⟩ := r.io i t e; ⟨q, h1, h2, h3, h4.mono rfl (Le.of (hide_mono fun _ e => .inr e))⟩
  inj := r.inj
  dom := fun q e => r.dom q (.inr e)
  sub := fun q e => (r.sub q e).resolve_left (fun x => n0 (x ▸ e))
  isub := r.isub
  fr := r.fr
  new := fun q e => r.new q (.inr e)
  live := r.live
end
end QT

set_option Elab.async false
set_option linter.all false
set_option maxRecDepth 100000
set_option maxHeartbeats 4000000
namespace QT
open PySem PySem.Spec PyProof.Rows L2 QB
theorem set_get {α : Type} {l : List α} {i j : Nat} {a s : α} (h : (l.set i a)[j]? = some s) : (j = i ∧ s = a) ∨ (j ≠ i ∧ l[j]? = some s) := by
  rw [List.getElem?_set] at h
  by_cases e : i = j
  · subst e
    rw [if_pos rfl] at h
    split at h
    · cases h; exact .inl ⟨rfl, rfl⟩
    · cases h
  · rw [if_neg e] at h
    exact .inr ⟨fun x => e x.symm, h⟩
theorem set_ne {α : Type} {l : List α} {i j : Nat} {a : α} (h : j ≠ i) : (l.set i a)[j]? = l[j]? := List.getElem?_set_ne (fun e => h e.symm)
theorem set_eq {α : Type} {l : List α} {i : Nat} {a : α} (h : i < l.length) : (l.set i a)[i]? = some a := by simp [h]
def Sl.with : Sl → T → Sl
  | .own _, t => .own t
  | .io _, t => .io t
  | s, _ => s
section
variable {K : PySem.W.Frag} {A : Nat → Addr} {G : Fx} {σ : L2.St} {H H' : Hp} {ρ ρ' : Rho} {O O' : Oset} {i : Nat} {p : Addr} {t t' : T} {v : V} {o : HO}
theorem hold_set {s : Sl} {j : Nat} (h : hold (ρ.set i s) j) : (j = i ∧ ∃ t, s = .own t ∨ s = .io t) ∨ (j ≠ i ∧ hold ρ j) := by
  obtain ⟨t, h | h⟩ := h
  · rcases set_get h with ⟨rfl, rfl⟩ | ⟨n, h⟩
    · exact .inl ⟨rfl, t, .inl rfl⟩
    · exact .inr ⟨n, t, .inl h⟩
  · rcases set_get h with ⟨rfl, rfl⟩ | ⟨n, h⟩
    · exact .inl ⟨rfl, t, .inr rfl⟩
    · exact .inr ⟨n, t, .inr h⟩
/-- what slot i holds is changed -/
theorem Rel.mut {s : Sl} (r : Rel K A G σ H ρ O) (hs : ρ[i]? = some s) (hh : s = .own t ∨ s = .io t) (hi : σ[i]? = some (some (V.ref p))) (h : Own1 K A (upd H p o) (hide H O) p t') : Rel K A G σ (upd H p o) (ρ.set i (s.with t')) O := by
  have hol : hold ρ i := ⟨t, by rcases hh with rfl | rfl; exact .inl hs; exact .inr hs⟩
  obtain ⟨p', _, h1, hO, _, _⟩ := r.held hol
  rw [hi] at h1; cases h1
  have eh := hide_upd (H := H) (o := o) hO
  have hol' : ∀ j, hold (ρ.set i (s.with t')) j → hold ρ j := fun j h => by
    rcases hold_set h with ⟨rfl, _⟩ | ⟨_, h⟩
    · exact hol
    · exact h
  have ne : ∀ j q, j ≠ i → hold ρ j → σ[j]? = some (some (V.ref q)) → q ≠ p := fun j q n hj e x => by subst x; exact n (r.inj j i q hj hol e hi)
  refine ⟨by rw [List.length_set]; exact r.len, fun j u e => ?_, fun j u e => ?_, fun j u e => ?_, fun j k q h1 h2 => r.inj j k q (hol' j h1) (hol' k h2), fun q e => lv_upd lv_refl q (r.dom q e), r.sub, r.isub, fun q e n => ?_, r.new, fun a e => lv_upd lv_refl a (r.live a e)⟩
  · rw [eh]
    rcases set_get e with ⟨rfl, e'⟩ | ⟨_, e⟩
    · rcases hh with rfl | rfl <;> cases e'
    · exact r.val j u e
  · rw [eh]
    rcases set_get e with ⟨rfl, e'⟩ | ⟨n, e⟩
    · rcases hh with rfl | rfl <;> cases e'
      obtain ⟨q, h1, h2, h3, _⟩ := r.own j t hs
      rw [hi] at h1; cases h1
      exact ⟨p, hi, hO, h3, h⟩
    · obtain ⟨q, h1, h2, h3, h4⟩ := r.own j u e
      exact ⟨q, h1, h2, h3, h4.mono (upd_ne (ne j q n ⟨u, .inl e⟩ h1)) (Le.of (Same.refl _))⟩
  · rw [eh]
    rcases set_get e with ⟨rfl, e'⟩ | ⟨n, e⟩
    · rcases hh with rfl | rfl <;> cases e'
      obtain ⟨q, h1, h2, h3, _⟩ := r.io j t hs
      rw [hi] at h1; cases h1
      exact ⟨p, hi, h2, h3, h⟩
    · obtain ⟨q, h1, h2, h3, h4⟩ := r.io j u e
      exact ⟨q, h1, h2, h3, h4.mono (upd_ne (ne j q n ⟨u, .inr e⟩ h1)) (Le.of (Same.refl _))⟩
  · have : q ≠ p := fun x => by
      subst x
      rcases hh with rfl | rfl
      · obtain ⟨q', h1, _, h3, _⟩ := r.own i t hs
        rw [hi] at h1; cases h1
        exact h3 e
      · obtain ⟨q', h1, h2, _⟩ := r.io i t hs
        rw [hi] at h1; cases h1
        exact n h2
    rw [upd_ne this]; exact r.fr q e n
/-- what slot i held is let go -/
theorem Rel.freeze (r : Rel K A G σ H ρ O) (hs : ρ[i]? = some (Sl.own t)) (hi : σ[i]? = some (some (V.ref p))) : Rel K A G σ H (ρ.set i (.val t)) (O.del p) := by
  have hol : hold ρ i := ⟨t, .inl hs⟩
  obtain ⟨p', h1, hO, h0, hw⟩ := r.own i t hs
  rw [hi] at h1; cases h1
  have lt : i < ρ.length := (List.getElem?_eq_some_iff.mp hs).1
  have s : Le (hide H O) (hide H (O.del p)) := Le.of (hide_mono fun _ e => e.2)
  have hol' : ∀ j, hold (ρ.set i (.val t)) j → j ≠ i ∧ hold ρ j := fun j h => by
    rcases hold_set h with ⟨_, _, h | h⟩ | h
    · cases h
    · cases h
    · exact h
  have ne : ∀ j q, j ≠ i → hold ρ j → σ[j]? = some (some (V.ref q)) → q ≠ p := fun j q n hj e x => by subst x; exact n (r.inj j i q hj hol e hi)
  refine ⟨by rw [List.length_set]; exact r.len, fun j u e => ?_, fun j u e => ?_, fun j u e => ?_, fun j k q h1 h2 => r.inj j k q (hol' j h1).2 (hol' k h2).2, fun q e => r.dom q e.2, fun q e => ⟨fun x => h0 (x ▸ e), r.sub q e⟩, r.isub, r.fr, fun q e => r.new q e.2, r.live⟩
  · rcases set_get e with ⟨rfl, e'⟩ | ⟨_, e⟩
    · cases e'
      exact ⟨_, hi, hw.rp (fun x => x.1 rfl) s⟩
    · obtain ⟨v, h1, h2⟩ := r.val j u e; exact ⟨v, h1, h2.mono s⟩
  · rcases set_get e with ⟨rfl, e'⟩ | ⟨n, e⟩
    · cases e'
    · obtain ⟨q, h1, h2, h3, h4⟩ := r.own j u e
      exact ⟨q, h1, ⟨ne j q n ⟨u, .inl e⟩ h1, h2⟩, h3, h4.mono rfl s⟩
  · rcases set_get e with ⟨rfl, e'⟩ | ⟨n, e⟩
    · cases e'
    · obtain ⟨q, h1, h2, h3, h4⟩ := r.io j u e
      exact ⟨q, h1, h2, h3, h4.mono rfl s⟩
theorem Rel.put (r : Rel K A G σ H ρ O) (hv : Rp K A (hide H O) v t) : Rel K A G (σ.set i (some v)) H (ρ.set i (.val t)) O := by
  have hol' : ∀ j, hold (ρ.set i (.val t)) j → j ≠ i ∧ hold ρ j := fun j h => by
    rcases hold_set h with ⟨_, _, h | h⟩ | h
    · cases h
    · cases h
    · exact h
  refine ⟨by rw [List.length_set, List.length_set]; exact r.len, fun j u e => ?_, fun j u e => ?_, fun j u e => ?_, fun j k q h1 h2 e1 e2 => ?_, r.dom, r.sub, r.isub, r.fr, r.new, r.live⟩
  · rcases set_get e with ⟨rfl, e'⟩ | ⟨n, e⟩
    · cases e'
      have lt : j < ρ.length := by have := (List.getElem?_eq_some_iff.mp e).1; rwa [List.length_set] at this
      exact ⟨v, set_eq (by rw [r.len]; exact lt), hv⟩
    · rw [set_ne n]; exact r.val j u e
  · rcases set_get e with ⟨rfl, e'⟩ | ⟨n, e⟩
    · cases e'
    · rw [set_ne n]; exact r.own j u e
  · rcases set_get e with ⟨rfl, e'⟩ | ⟨n, e⟩
    · cases e'
    · rw [set_ne n]; exact r.io j u e
  · rw [set_ne (hol' j h1).1] at e1
    rw [set_ne (hol' k h2).1] at e2
    exact r.inj j k q (hol' j h1).2 (hol' k h2).2 e1 e2
def unheld (σ : L2.St) (ρ : Rho) (p : Addr) : Prop := ∀ i, hold ρ i → σ[i]? ≠ some (some (V.ref p))
theorem Rel.putOwn (r : Rel K A G σ H ρ O) (hO : O p) (n0 : ¬ G.O0 p) (un : unheld σ ρ p) (hw : Own1 K A H (hide H O) p t) : Rel K A G (σ.set i (some (.ref p))) H (ρ.set i (.own t)) O := by
  have nh : ∀ j q, hold ρ j → σ[j]? = some (some (V.ref q)) → q ≠ p := fun j q h e x => un j h (x ▸ e)
  refine ⟨by rw [List.length_set, List.length_set]; exact r.len, fun j u e => ?_, fun j u e => ?_, fun j u e => ?_, fun j k q h1 h2 e1 e2 => ?_, r.dom, r.sub, r.isub, r.fr, r.new, r.live⟩
  · rcases set_get e with ⟨rfl, e'⟩ | ⟨n, e⟩
    · cases e'
    · rw [set_ne n]; exact r.val j u e
  · rcases set_get e with ⟨rfl, e'⟩ | ⟨n, e⟩
    · cases e'
      have lt : j < ρ.length := by have := (List.getElem?_eq_some_iff.mp e).1; rwa [List.length_set] at this
      exact ⟨p, set_eq (by rw [r.len]; exact lt), hO, n0, hw⟩
    · rw [set_ne n]; exact r.own j u e
  · rcases set_get e with ⟨rfl, e'⟩ | ⟨n, e⟩
    · cases e'
    · rw [set_ne n]; exact r.io j u e
  · rcases hold_set h1 with ⟨a1, _⟩ | ⟨a1, b1⟩ <;> rcases hold_set h2 with ⟨a2, _⟩ | ⟨a2, b2⟩
    · rw [a1, a2]
    · have lt : i < σ.length := by
        have := (List.getElem?_eq_some_iff.mp e1).1
        rw [List.length_set, a1] at this; exact this
      rw [a1, set_eq lt] at e1; cases e1
      rw [set_ne a2] at e2
      exact absurd rfl (nh k p b2 e2)
    · have lt : i < σ.length := by
        have := (List.getElem?_eq_some_iff.mp e2).1
        rw [List.length_set, a2] at this; exact this
      rw [a2, set_eq lt] at e2; cases e2
      rw [set_ne a1] at e1
      exact absurd rfl (nh j p b1 e1)
    · rw [set_ne a1] at e1
      rw [set_ne a2] at e2
      exact r.inj j k q b1 b2 e1 e2
theorem Rel.kill (r : Rel K A G σ H ρ O) : Rel K A G σ H (ρ.set i .no) O := by
  have hol' : ∀ j, hold (ρ.set i .no) j → j ≠ i ∧ hold ρ j := fun j h => by
    rcases hold_set h with ⟨_, _, h | h⟩ | h
    · cases h
    · cases h
    · exact h
  refine ⟨by rw [List.length_set]; exact r.len, fun j u e => ?_, fun j u e => ?_, fun j u e => ?_, fun j k q h1 h2 => r.inj j k q (hol' j h1).2 (hol' k h2).2, r.dom, r.sub, r.isub, r.fr, r.new, r.live⟩
  · rcases set_get e with ⟨rfl, e'⟩ | ⟨n, e⟩
    · cases e'
    · exact r.val j u e
  · rcases set_get e with ⟨rfl, e'⟩ | ⟨n, e⟩
    · cases e'
    · exact r.own j u e
  · rcases set_get e with ⟨rfl, e'⟩ | ⟨n, e⟩
    · cases e'
    · exact r.io j u e
theorem hide_same (s : Same H H') : Same (hide H O) (hide H' O) := fun b u e => hide_of (hide_some.mp e).1 (s b u (hide_some.mp e).2)
theorem lv_same (s : Same H H') : ∀ a, H a ≠ none → H' a ≠ none := fun a e => by
  cases h : H a with
  | none => exact absurd h e
  | some u => rw [s a u h]; simp
theorem Rel.kept (r : Rel K A G σ H ρ O) (s : Same H H') : ∀ p, O p → H' p = H p := fun p e => by
  cases h : H p with
  | none => exact absurd h (r.dom p e)
  | some u => exact s p u h
theorem Rel.same (r : Rel K A G σ H ρ O) (s : Same H H') : Rel K A G σ H' ρ O := r.grow (Le.of (hide_same s)) (r.kept s) (lv_same s)
theorem hide_sameAdd (s : Same H H') (h : H p = none) : Same (hide H O) (hide H' (O.add p)) := fun b u e => by
  obtain ⟨h1, h2⟩ := hide_some.mp e
  exact hide_of (fun x => x.elim (ne_of_none h2 h) h1) (s b u h2)
/-- things are new, p among them is hidden -/
theorem Rel.sameAdd (r : Rel K A G σ H ρ O) (s : Same H H') (h : H p = none) (h' : H' p ≠ none) : Rel K A G σ H' ρ (O.add p) := by
  obtain ⟨n, n0, h0⟩ := r.fresh h
  have r' := r.same s
  have l : Le (hide H O) (hide H' (O.add p)) := Le.of (hide_sameAdd s h)
  refine r'.add (fun i t e => ?_) (fun i q t e hq => ?_) h' n0 h0
  · obtain ⟨v, h1, h2⟩ := r.val i t e; exact ⟨v, h1, h2.mono l⟩
  · obtain ⟨q', t', h1, h2, h3, h4⟩ := r.held ⟨t, e⟩
    rw [hq] at h1; cases h1
    have et : t' = t := by rcases e with e | e <;> rcases h4 with h4 | h4 <;> rw [e] at h4 <;> cases h4 <;> rfl
    subst et
    exact h3.mono (r.kept s q h2) l
end
/-! ### judgements -/
inductive Opd where
  | val (t : T) | own (t : T) | slot (i : Nat) | ot (xs : List (Bool × T))
abbrev EF := Rho → Option (Opd × Rho)
abbrev AF := Rho → Option (List Opd × Rho)
abbrev BF := Rho → Option (Bool × Rho)
structure Post (K : PySem.W.Frag) (A : Nat → Addr) (G : Fx) (σ : L2.St) (H : Hp) (ρ : Rho) (O : Oset) (H' : Hp) (ρ' : Rho) (O' : Oset) : Prop where
  rel : Rel K A G σ H' ρ' O'
  le : Same (hide H O) (hide H' O')
  sub : ∀ p, O' p → O p ∨ H p = none
  keep : ∀ p, O p → unheld σ ρ p → O' p ∧ H' p = H p
  hs : ∀ i, hold ρ' i → hold ρ i
  lv : ∀ a, H a ≠ none → H' a ≠ none
/-- a thing that was made since Hs and is held by nobody -/
structure Tmp (K : PySem.W.Frag) (A : Nat → Addr) (σ : L2.St) (Hs H : Hp) (ρ : Rho) (O : Oset) (p : Addr) (t : T) : Prop where
  new : Hs p = none
  hid : O p
  un : unheld σ ρ p
  own : Own1 K A H (hide H O) p t
def Cm (K : PySem.W.Frag) (A : Nat → Addr) (σ : L2.St) (Hs H : Hp) (ρ : Rho) (O : Oset) : V → Bool × T → Prop
  | v, (false, t) => Rp K A (hide H O) v t
  | v, (true, t) => ∃ p, v = .ref p ∧ Tmp K A σ Hs H ρ O p t
def cmA : List V → List (Bool × T) → List Addr
  | .ref p :: vs, (true, _) :: xs => p :: cmA vs xs
  | _ :: vs, _ :: xs => cmA vs xs
  | _, _ => []
/-- a value and what is known of it -/
def Rl (K : PySem.W.Frag) (A : Nat → Addr) (σ : L2.St) (Hs H : Hp) (ρ : Rho) (O : Oset) : V → Opd → Prop
  | v, .val t => Rp K A (hide H O) v t
  | v, .slot i => σ[i]? = some (some v)
  | v, .own t => ∃ p, v = .ref p ∧ Tmp K A σ Hs H ρ O p t
  | v, .ot xs => ∃ p vs, v = .ref p ∧ Hs p = none ∧ hide H O p = some (.tup vs) ∧ Paired (Cm K A σ Hs H ρ O) vs xs ∧ (cmA vs xs).Nodup
def EV (K : PySem.W.Frag) (A : Nat → Addr) (te : TE) (f : EF) : Prop := ∀ (G : Fx) (σ : L2.St) (H : Hp) (ρ : Rho) (O : Oset), Rel K A G σ H ρ O → ∀ o ρ', f ρ = some (o, ρ') → ∀ Q : VK, (∀ v H' O', Post K A G σ H ρ O H' ρ' O' → Rl K A σ H H' ρ' O' v o → Q v H') → te σ H Q
def TV (K : PySem.W.Frag) (A : Nat → Addr) (tt : TT) (f : BF) : Prop := ∀ (G : Fx) (σ : L2.St) (H : Hp) (ρ : Rho) (O : Oset), Rel K A G σ H ρ O → ∀ b ρ', f ρ = some (b, ρ') → ∀ Q : Bool → Hp → Prop, (∀ H' O', Post K A G σ H ρ O H' ρ' O' → Q b H') → tt σ H Q
/-- the addresses of what is new and held by nobody -/
def owA : List V → List Opd → List Addr
  | .ref p :: vs, .own _ :: os => p :: owA vs os
  | _ :: vs, _ :: os => owA vs os
  | _, _ => []
def AV (K : PySem.W.Frag) (A : Nat → Addr) (ta : TA) (f : AF) : Prop := ∀ (G : Fx) (σ : L2.St) (H : Hp) (ρ : Rho) (O : Oset), Rel K A G σ H ρ O → ∀ os ρ', f ρ = some (os, ρ') → ∀ Q : List V → Hp → Prop, (∀ vs H' O', Post K A G σ H ρ O H' ρ' O' → Paired (Rl K A σ H H' ρ' O') vs os → (owA vs os).Nodup → Q vs H') → ta σ H Q
section
variable {K : PySem.W.Frag} {A : Nat → Addr} {G : Fx} {σ : L2.St} {Hs Hr H H' H2 : Hp} {ρ ρ' ρ2 : Rho} {O O' O2 : Oset} {i : Nat} {p : Addr} {t t' : T} {v : V} {o : HO}
theorem Post.refl (r : Rel K A G σ H ρ O) : Post K A G σ H ρ O H ρ O := ⟨r, Same.refl _, fun _ e => .inl e, fun _ e _ => ⟨e, rfl⟩, fun _ e => e, fun _ e => e⟩
theorem Post.trans (a : Post K A G σ H ρ O H' ρ' O') (b : Post K A G σ H' ρ' O' H2 ρ2 O2) : Post K A G σ H ρ O H2 ρ2 O2 :=
  ⟨b.rel, a.le.trans b.le, fun p e => (b.sub p e).elim (a.sub p) (fun h => .inr (by
    cases e2 : H p with
    | none => rfl
    | some u => exact absurd h (a.lv p (by rw [e2]; simp)))), fun p e n => by
    obtain ⟨h1, h2⟩ := a.keep p e n
    obtain ⟨h3, h4⟩ := b.keep p h1 (fun i h => n i (a.hs i h))
    exact ⟨h3, h4.trans h2⟩, fun i h => a.hs i (b.hs i h), fun x e => b.lv x (a.lv x e)⟩
theorem Post.same (r : Rel K A G σ H ρ O) (s : Same H H') : Post K A G σ H ρ O H' ρ O := ⟨r.same s, hide_same s, fun _ e => .inl e, fun p e _ => ⟨e, r.kept s p e⟩, fun _ e => e, lv_same s⟩
theorem Post.sameAdd (r : Rel K A G σ H ρ O) (s : Same H H') (h : H p = none) (h' : H' p ≠ none) : Post K A G σ H ρ O H' ρ (O.add p) :=
  ⟨r.sameAdd s h h', hide_sameAdd s h, fun q e => e.elim (fun x => .inr (x ▸ h)) .inl, fun q e _ => ⟨.inr e, r.kept s q e⟩, fun _ e => e, lv_same s⟩
theorem nn_back (lv : ∀ a, Hr a ≠ none → Hs a ≠ none) (h : Hs p = none) : Hr p = none := by
  cases e : Hr p with
  | none => rfl
  | some u => exact absurd h (lv p (by rw [e]; simp))
theorem unheld.up (h : unheld σ ρ p) (hs : ∀ i, hold ρ' i → hold ρ i) : unheld σ ρ' p := fun i x => h i (hs i x)
theorem Tmp.up (h : Tmp K A σ Hs H ρ O p t) (P : Post K A G σ H ρ O H' ρ' O') : Tmp K A σ Hs H' ρ' O' p t :=
  let ⟨h1, h2⟩ := P.keep p h.hid h.un
  ⟨h.new, h1, h.un.up P.hs, h.own.mono h2 (Le.of P.le)⟩
theorem Tmp.back (h : Tmp K A σ Hs H ρ O p t) (lv : ∀ a, Hr a ≠ none → Hs a ≠ none) : Tmp K A σ Hr H ρ O p t := ⟨nn_back lv h.new, h.hid, h.un, h.own⟩
theorem Cm.up {x : Bool × T} (h : Cm K A σ Hs H ρ O v x) (P : Post K A G σ H ρ O H' ρ' O') : Cm K A σ Hs H' ρ' O' v x := by
  obtain ⟨b, t⟩ := x
  cases b with
  | false => exact Rp.mono (Le.of P.le) h
  | true => obtain ⟨p, e, h⟩ := h; exact ⟨p, e, h.up P⟩
theorem Cm.back {x : Bool × T} (h : Cm K A σ Hs H ρ O v x) (lv : ∀ a, Hr a ≠ none → Hs a ≠ none) : Cm K A σ Hr H ρ O v x := by
  obtain ⟨b, t⟩ := x
  cases b with
  | false => exact h
  | true => obtain ⟨p, e, h⟩ := h; exact ⟨p, e, h.back lv⟩
theorem paired_map {α β : Type} {R S : α → β → Prop} (f : ∀ a b, R a b → S a b) : ∀ {xs : List α} {ys : List β}, Paired R xs ys → Paired S xs ys
  | _, _, .nil => .nil
  | _, _, .cons a b => .cons (f _ _ a) (paired_map f b)
theorem Rl.up {x : Opd} (h : Rl K A σ Hs H ρ O v x) (P : Post K A G σ H ρ O H' ρ' O') : Rl K A σ Hs H' ρ' O' v x := by
  cases x with
  | val t => exact Rp.mono (Le.of P.le) h
  | slot i => exact h
  | own t => obtain ⟨p, e, h⟩ := h; exact ⟨p, e, h.up P⟩
  | ot xs => obtain ⟨p, vs, e, hn, hp, h, nd⟩ := h; exact ⟨p, vs, e, hn, P.le _ _ hp, paired_map (fun a b r => Cm.up r P) h, nd⟩
theorem Rl.back {x : Opd} (h : Rl K A σ Hs H ρ O v x) (lv : ∀ a, Hr a ≠ none → Hs a ≠ none) : Rl K A σ Hr H ρ O v x := by
  cases x with
  | val t => exact h
  | slot i => exact h
  | own t => obtain ⟨p, e, h⟩ := h; exact ⟨p, e, h.back lv⟩
  | ot xs => obtain ⟨p, vs, e, hn, hp, h, nd⟩ := h; exact ⟨p, vs, e, nn_back lv hn, hp, paired_map (fun a b r => Cm.back r lv) h, nd⟩
/-! ### release -/
def Oset.dels (O : Oset) (l : List Addr) : Oset := fun a => O a ∧ ¬ a ∈ l
theorem Post.rls {l : List Addr} (r0 : Rel K A G σ H ρ O) (P : Post K A G σ H ρ O H' ρ' O') (hl : ∀ q ∈ l, H q = none ∧ unheld σ ρ' q) : Post K A G σ H ρ O H' ρ' (O'.dels l) := by
  have s : Same (hide H' O') (hide H' (O'.dels l)) := hide_mono fun _ e => e.1
  have l' := Le.of s
  have r := P.rel
  have n0 : ∀ q ∈ l, ¬ O q ∧ ¬ G.O0 q := fun q h => let ⟨a, b, _⟩ := r0.fresh (hl q h).1; ⟨a, b⟩
  refine ⟨⟨r.len, fun i t e => ?_, fun i t e => ?_, fun i t e => ?_, r.inj, fun q e => r.dom q e.1, fun q e => ⟨r.sub q e, fun x => (n0 q x).2 e⟩, r.isub, r.fr, fun q e => r.new q e.1, r.live⟩, P.le.trans s, fun q e => P.sub q e.1, fun q e u => ?_, P.hs, P.lv⟩
  · obtain ⟨v, h1, h2⟩ := r.val i t e; exact ⟨v, h1, h2.mono l'⟩
  · obtain ⟨q, h1, h2, h3, h4⟩ := r.own i t e; exact ⟨q, h1, ⟨h2, fun x => (hl q x).2 i ⟨t, .inl e⟩ h1⟩, h3, h4.mono rfl l'⟩
  · obtain ⟨q, h1, h2, h3, h4⟩ := r.io i t e; exact ⟨q, h1, h2, h3, h4.mono rfl l'⟩
  · obtain ⟨h1, h2⟩ := P.keep q e u
    exact ⟨⟨h1, fun x => (n0 q x).1 e⟩, h2⟩
def Opd.fz : Opd → Opd
  | .own t => .val t
  | .ot xs => .val (.tup (xs.map (·.2)))
  | o => o
/-- all that is released for a value -/
def relA (H : Hp) : List V → List Opd → List Addr
  | .ref p :: vs, .own _ :: os => p :: relA H vs os
  | .ref p :: vs, .ot xs :: os => (match H p with | some (.tup ws) => cmA ws xs | _ => []) ++ relA H vs os
  | _ :: vs, _ :: os => relA H vs os
  | _, _ => []
theorem cm_in : ∀ {vs : List V} {xs : List (Bool × T)} {q : Addr}, Paired (Cm K A σ Hs H ρ O) vs xs → q ∈ cmA vs xs → ∃ t, Tmp K A σ Hs H ρ O q t
  | _, _, _, .nil, h => by simp [cmA] at h
  | v :: vs, (true, t) :: xs, q, .cons ⟨p, e, a⟩ b, h => by
    subst e
    simp only [cmA, List.mem_cons] at h
    rcases h with rfl | h
    · exact ⟨t, a⟩
    · exact cm_in b h
  | v :: vs, (false, t) :: xs, q, .cons a b, h => by
    have : cmA (v :: vs) ((false, t) :: xs) = cmA vs xs := by cases v <;> rfl
    rw [this] at h
    exact cm_in b h
theorem rel_in : ∀ {vs : List V} {os : List Opd} {q : Addr}, Paired (Rl K A σ Hs H ρ O) vs os → q ∈ relA H vs os → ∃ t, Tmp K A σ Hs H ρ O q t
  | _, _, _, .nil, h => by simp [relA] at h
  | v :: vs, .own t :: os, q, .cons ⟨p, e, a⟩ b, h => by
    subst e
    simp only [relA, List.mem_cons] at h
    rcases h with rfl | h
    · exact ⟨t, a⟩
    · exact rel_in b h
  | v :: vs, .ot xs :: os, q, .cons ⟨p, ws, e, _, hp, a, nd⟩ b, h => by
    subst e
    have hp' := (hide_some.mp hp).2
    simp only [relA, hp', List.mem_append] at h
    rcases h with h | h
    · exact cm_in a h
    · exact rel_in b h
  | v :: vs, .val t :: os, q, .cons a b, h => by
    have : relA H (v :: vs) (.val t :: os) = relA H vs os := by cases v <;> rfl
    rw [this] at h
    exact rel_in b h
  | v :: vs, .slot i :: os, q, .cons a b, h => by
    have : relA H (v :: vs) (.slot i :: os) = relA H vs os := by cases v <;> rfl
    rw [this] at h
    exact rel_in b h
theorem cm_rls {l : List Addr} : ∀ {vs : List V} {xs : List (Bool × T)}, Paired (Cm K A σ Hs H ρ O) vs xs → (∀ q ∈ cmA vs xs, q ∈ l) → RpL K A (hide H (O.dels l)) vs (xs.map (·.2))
  | _, _, .nil, _ => .nil
  | v :: vs, (true, t) :: xs, .cons ⟨p, e, a⟩ b, h => by
    subst e
    exact .cons (a.own.rp (fun x => x.2 (h p (by simp [cmA]))) (Le.of (hide_mono fun _ e => e.1))) (cm_rls b fun q hq => h q (by simp [cmA, hq]))
  | v :: vs, (false, t) :: xs, .cons a b, h => by
    have : cmA (v :: vs) ((false, t) :: xs) = cmA vs xs := by cases v <;> rfl
    rw [this] at h
    exact .cons (Rp.mono (Le.of (hide_mono fun _ e => e.1)) a) (cm_rls b h)
/-- what lasts: a tree, or a slot -/
def Rv (K : PySem.W.Frag) (A : Nat → Addr) (σ : L2.St) (H : Hp) (O : Oset) : V → Opd → Prop
  | v, .val t => Rp K A (hide H O) v t
  | v, .slot i => σ[i]? = some (some v)
  | _, _ => False
theorem rl_rls {l : List Addr} : ∀ {vs : List V} {os : List Opd}, Paired (Rl K A σ Hs H ρ O) vs os → (∀ q ∈ relA H vs os, q ∈ l) → Paired (Rv K A σ H (O.dels l)) vs (os.map Opd.fz)
  | _, _, .nil, _ => .nil
  | v :: vs, .own t :: os, .cons ⟨p, e, a⟩ b, h => by
    subst e
    exact .cons (a.own.rp (fun x => x.2 (h p (by simp [relA]))) (Le.of (hide_mono fun _ e => e.1))) (rl_rls b fun q hq => h q (by simp [relA, hq]))
  | v :: vs, .ot xs :: os, .cons ⟨p, ws, e, hn, hp, a, nd⟩ b, h => by
    subst e
    have hp' := (hide_some.mp hp).2
    simp only [relA, hp', List.mem_append] at h
    exact .cons (show Rp K A (hide H (O.dels l)) (.ref p) (.tup (xs.map (·.2))) from .tup (.inl (.inl (hide_mono (fun _ e => e.1) _ _ hp))) (cm_rls a fun q hq => h q (.inl hq))) (rl_rls b fun q hq => h q (.inr hq))
  | v :: vs, .val t :: os, .cons a b, h => by
    have : relA H (v :: vs) (.val t :: os) = relA H vs os := by cases v <;> rfl
    rw [this] at h
    exact .cons (Rp.mono (Le.of (hide_mono fun _ e => e.1)) a) (rl_rls b h)
  | v :: vs, .slot i :: os, .cons a b, h => by
    have : relA H (v :: vs) (.slot i :: os) = relA H vs os := by cases v <;> rfl
    rw [this] at h
    exact .cons a (rl_rls b h)
theorem release {vs : List V} {os : List Opd} (r0 : Rel K A G σ H ρ O) (P : Post K A G σ H ρ O H' ρ' O') (h : Paired (Rl K A σ H H' ρ' O') vs os) : ∃ O2, Post K A G σ H ρ O H' ρ' O2 ∧ Paired (Rv K A σ H' O2) vs (os.map Opd.fz) := by
  refine ⟨O'.dels (relA H' vs os), P.rls r0 fun q hq => ?_, rl_rls h fun q hq => hq⟩
  obtain ⟨t, x⟩ := rel_in h hq
  exact ⟨x.new, x.un⟩
theorem Rv.up {x : Opd} (h : Rv K A σ H O v x) (l : Same (hide H O) (hide H' O')) : Rv K A σ H' O' v x := by
  cases x with
  | val t => exact Rp.mono (Le.of l) h
  | slot i => exact h
  | own t => exact h.elim
  | ot xs => exact h.elim
def Opd.tree (ρ : Rho) : Opd → Option T
  | .val t => some t
  | .own t => some t
  | .ot xs => some (.tup (xs.map (·.2)))
  | .slot i => match ρ[i]? with
    | some (.val t) => some t
    | some (.own t) => some t
    | some (.io t) => some t
    | _ => none
theorem tree_fz (x : Opd) : x.fz.tree ρ = x.tree ρ := by cases x <;> rfl
/-- what may be looked at -/
def Top (K : PySem.W.Frag) (A : Nat → Addr) (H : Hp) (O : Oset) (v : V) (t : T) : Prop := Rp K A (hide H O) v t ∨ ∃ p, v = .ref p ∧ Own1 K A H (hide H O) p t
theorem Rv.top {x : Opd} (r : Rel K A G σ H ρ O) (h : Rv K A σ H O v x) (e : x.tree ρ = some t) : Top K A H O v t := by
  cases x with
  | val u => cases e; exact .inl h
  | own u => exact h.elim
  | ot u => exact h.elim
  | slot i =>
    have h : σ[i]? = some (some v) := h
    unfold Opd.tree at e
    dsimp only at e
    split at e
    · rename_i u hs
      cases e
      obtain ⟨w, h1, h2⟩ := r.val i _ hs
      rw [h] at h1; cases h1
      exact .inl h2
    · rename_i u hs
      cases e
      obtain ⟨q, h1, _, _, h2⟩ := r.own i _ hs
      rw [h] at h1; cases h1
      exact .inr ⟨q, rfl, h2⟩
    · rename_i u hs
      cases e
      obtain ⟨q, h1, _, _, h2⟩ := r.io i _ hs
      rw [h] at h1; cases h1
      exact .inr ⟨q, rfl, h2⟩
    · cases e
theorem hide_le : Le (hide H O) H := Le.of hide_sub
theorem Top.int {n : Int} (h : Top K A H O v (.int n)) : v = .int n := by
  rcases h with h | ⟨p, rfl, h⟩
  · cases h; rfl
  · exact h.elim
theorem Top.str {x : Str} (h : Top K A H O v (.str x)) : v = .str x := by
  rcases h with h | ⟨p, rfl, h⟩
  · cases h; rfl
  · exact h.elim
theorem Top.bl {x : Bool} (h : Top K A H O v (.bl x)) : v = .bl x := by
  rcases h with h | ⟨p, rfl, h⟩
  · cases h; rfl
  · exact h.elim
theorem Top.non (h : Top K A H O v .non) : v = .non := by
  rcases h with h | ⟨p, rfl, h⟩
  · cases h; rfl
  · exact h.elim
theorem Top.lst {ts : List T} (h : Top K A H O v (.lst ts)) : ∃ p vs, v = .ref p ∧ SqL K H p vs ∧ RpL K A (hide H O) vs ts := by
  rcases h with h | ⟨p, rfl, vs, h, r⟩
  · cases h with | lst h r => exact ⟨_, _, rfl, hide_le.sqL h, r⟩
  · exact ⟨p, vs, rfl, SqL.of h, r⟩
theorem Top.tup {ts : List T} (h : Top K A H O v (.tup ts)) : ∃ p vs, v = .ref p ∧ SqT K H p vs ∧ RpL K A (hide H O) vs ts := by
  rcases h with h | ⟨p, rfl, h⟩
  · cases h with | tup h r => exact ⟨_, _, rfl, hide_le.sqT h, r⟩
  · exact h.elim
theorem Top.dct {ts : List (Key × T)} (h : Top K A H O v (.dct ts)) : ∃ p vs, v = .ref p ∧ Rd H p (.dK vs) ∧ RpK K A (hide H O) vs ts := by
  rcases h with h | ⟨p, rfl, vs, h, r⟩
  · cases h with | dct h r => exact ⟨_, _, rfl, hide_le.rd (fun _ _ => by simp) h, r⟩
  · exact ⟨p, vs, rfl, .inl h, r⟩
theorem Top.obj {c : Nat} {ts : List (Str × T)} (h : Top K A H O v (.obj c ts)) : ∃ p dx vs, v = .ref p ∧ H p = some (.ins (A c) dx vs) ∧ RpF K A (hide H O) vs ts := by
  rcases h with h | ⟨p, rfl, dx, vs, h, r⟩
  · cases h with | obj h r => exact ⟨_, _, _, rfl, hide_le.ins h, r⟩
  · exact ⟨p, dx, vs, rfl, h, r⟩
abbrev Tops (K : PySem.W.Frag) (A : Nat → Addr) (H : Hp) (O : Oset) : List V → List T → Prop := Paired (Top K A H O)
def trees (ρ : Rho) : List Opd → Option (List T)
  | [] => some []
  | o :: r => do
    let t ← o.tree ρ
    let ts ← trees ρ r
    pure (t :: ts)
theorem tops_of (r : Rel K A G σ H ρ O) : ∀ {vs : List V} {os : List Opd} {ts : List T}, Paired (Rv K A σ H O) vs os → trees ρ os = some ts → Tops K A H O vs ts
  | _, _, _, .nil, e => by cases e; exact .nil
  | _, _, _, .cons (b := x) a b, e => by
    simp only [trees, Option.bind_eq_bind, Option.bind_eq_some_iff] at e
    obtain ⟨t, h1, ts, h2, h3⟩ := e
    cases h3
    exact .cons (a.top r h1) (tops_of r b h2)
theorem trees_fz : ∀ os : List Opd, trees ρ (os.map Opd.fz) = trees ρ os
  | [] => rfl
  | o :: r => by simp only [List.map_cons, trees, tree_fz, trees_fz r]
/-! ### sharing: a value that goes into another one -/
def share (o : Opd) (ρ : Rho) : Option (T × Rho) := match o with
  | .val t => some (t, ρ)
  | .own t => some (t, ρ)
  | .ot xs => some (.tup (xs.map (·.2)), ρ)
  | .slot i => match ρ[i]? with
    | some (.val t) => some (t, ρ)
    | some (.own t) => some (t, ρ.set i (.val t))
    | _ => none
theorem share_ok {x : Opd} (r : Rel K A G σ H ρ O) (h : Rv K A σ H O v x) (e : share x ρ = some (t, ρ')) : ∃ O', Post K A G σ H ρ O H ρ' O' ∧ Rp K A (hide H O') v t := by
  cases x with
  | val u => cases e; exact ⟨O, .refl r, h⟩
  | own u => exact h.elim
  | ot u => exact h.elim
  | slot i =>
    have h : σ[i]? = some (some v) := h
    unfold share at e
    dsimp only at e
    split at e
    · rename_i u hs
      cases e
      obtain ⟨w, h1, h2⟩ := r.val i _ hs
      rw [h] at h1; cases h1
      exact ⟨O, .refl r, h2⟩
    · rename_i u hs
      cases e
      obtain ⟨q, h1, hO, h0, h2⟩ := r.own i _ hs
      rw [h] at h1; cases h1
      have s : Same (hide H O) (hide H (O.del q)) := hide_mono fun _ e => e.2
      refine ⟨O.del q, ⟨r.freeze hs h, s, fun _ e => .inl e.2, fun p' e n => ⟨⟨fun x => ?_, e⟩, rfl⟩, fun j hj => ?_, fun _ e => e⟩, h2.rp (fun x => x.1 rfl) (Le.of s)⟩
      · subst x; exact n i ⟨_, .inl hs⟩ h
      · rcases hold_set hj with ⟨_, _, hx | hx⟩ | hx
        · cases hx
        · cases hx
        · exact hx.2
    · cases e
def shareL : List Opd → Rho → Option (List T × Rho)
  | [], ρ => some ([], ρ)
  | o :: r, ρ => do
    let (t, ρ1) ← share o ρ
    let (ts, ρ2) ← shareL r ρ1
    pure (t :: ts, ρ2)
theorem shareL_ok : ∀ {vs : List V} {os : List Opd} {ts : List T} {ρ ρ' : Rho} {O : Oset}, Rel K A G σ H ρ O → Paired (Rv K A σ H O) vs os → shareL os ρ = some (ts, ρ') → ∃ O', Post K A G σ H ρ O H ρ' O' ∧ RpL K A (hide H O') vs ts
  | _, _, _, _, _, O, r, .nil, e => by cases e; exact ⟨O, .refl r, .nil⟩
  | _, _, _, ρ, _, O, r, .cons a b, e => by
    simp only [shareL, Option.bind_eq_bind, Option.bind_eq_some_iff] at e
    obtain ⟨⟨t, ρ1⟩, h1, ⟨ts, ρ2⟩, h2, h3⟩ := e
    cases h3
    obtain ⟨O1, p1, x1⟩ := share_ok r a h1
    obtain ⟨O2, p2, x2⟩ := shareL_ok p1.rel (paired_map (fun a b r => Rv.up r p1.le) b) h2
    exact ⟨O2, p1.trans p2, .cons (x1.mono (Le.of p2.le)) x2⟩
theorem share_fz (x : Opd) : share x.fz ρ = share x ρ := by cases x <;> rfl
theorem shareL_fz : ∀ (os : List Opd) (ρ : Rho), shareL (os.map Opd.fz) ρ = shareL os ρ
  | [], _ => rfl
  | o :: r, ρ => by
    simp only [List.map_cons, shareL, share_fz, Option.bind_eq_bind]
    congr 1
    funext x
    rw [shareL_fz r]
end
end QT

set_option Elab.async false
set_option linter.all false
set_option maxRecDepth 100000
set_option maxHeartbeats 4000000
namespace QT
open PySem PySem.Spec PyProof.Rows L2 QB
/-! ### what is made by values alone: builtins, operators -/
def NewR (K : PySem.W.Frag) (A : Nat → Addr) (H : Hp) (O : Oset) (H' : Hp) (v : V) : Opd → Prop
  | .val t => Rp K A (hide H' O) v t
  | .own t => ∃ p, v = .ref p ∧ H p = none ∧ Own1 K A H' (hide H' (O.add p)) p t
  | .slot _ => False
  | .ot _ => False
def Bv (K : PySem.W.Frag) (A : Nat → Addr) (r : List V → Hp → VK → Prop) (f : List T → Option Opd) : Prop := ∀ (H : Hp) (O : Oset) (vs : List V) (ts : List T) (o : Opd), (∀ p, O p → H p ≠ none) → Tops K A H O vs ts → f ts = some o → ∀ Q : VK, (∀ v H', Same H H' → NewR K A H O H' v o → Q v H') → r vs H Q
def l2 (r : R2) : List V → Hp → VK → Prop
  | [x, y] => r x y
  | _ => fun _ _ => False
def l1 (r : V → Hp → VK → Prop) : List V → Hp → VK → Prop
  | [x] => r x
  | _ => fun _ _ => False
abbrev B2 (K : PySem.W.Frag) (A : Nat → Addr) (r : R2) (f : List T → Option Opd) : Prop := Bv K A (l2 r) f
abbrev B1 (K : PySem.W.Frag) (A : Nat → Addr) (r : V → Hp → VK → Prop) (f : List T → Option Opd) : Prop := Bv K A (l1 r) f
section
variable {K : PySem.W.Frag} {A : Nat → Addr} {G : Fx} {σ : L2.St} {H H' H2 : Hp} {ρ ρ' ρ2 : Rho} {O O' O2 : Oset} {i : Nat} {p : Addr} {t t' : T} {v : V} {x : Opd}
theorem Rel.unh (r : Rel K A G σ H ρ O) (h : H p = none) : unheld σ ρ p := fun i hi e => by
  obtain ⟨q, t, h1, h2, _⟩ := r.held hi
  rw [e] at h1; cases h1
  exact r.dom p h2 h
theorem NewR.post (r : Rel K A G σ H ρ O) (s : Same H H') (h : NewR K A H O H' v x) : ∃ O', Post K A G σ H ρ O H' ρ O' ∧ Rl K A σ H H' ρ O' v x := by
  cases x with
  | val t => exact ⟨O, .same r s, h⟩
  | slot i => exact h.elim
  | ot i => exact h.elim
  | own t =>
    obtain ⟨p, rfl, hn, hw⟩ := h
    exact ⟨O.add p, .sameAdd r s hn hw.some, p, rfl, hn, .inl rfl, r.unh hn, hw⟩
/-! ### arguments -/
def aN : AF := fun ρ => some ([], ρ)
def aC (e : EF) (r : AF) : AF := fun ρ => do
  let (o, ρ1) ← e ρ
  let (os, ρ2) ← r ρ1
  pure (o :: os, ρ2)
theorem av_nil : AV K A tNil aN := fun G σ H ρ O r os ρ' e Q q => by
  cases e
  exact q [] H O (.refl r) .nil .nil
theorem ow_in {Hs : Hp} : ∀ {vs : List V} {os : List Opd} {q : Addr}, Paired (Rl K A σ Hs H ρ O) vs os → q ∈ owA vs os → ∃ t, Tmp K A σ Hs H ρ O q t
  | _, _, _, .nil, h => by simp [owA] at h
  | v :: vs, .own t :: os, q, .cons ⟨p, e, a⟩ b, h => by
    subst e
    simp only [owA, List.mem_cons] at h
    rcases h with rfl | h
    · exact ⟨t, a⟩
    · exact ow_in b h
  | v :: vs, .ot xs :: os, q, .cons a b, h => by
    have : owA (v :: vs) (.ot xs :: os) = owA vs os := by cases v <;> rfl
    rw [this] at h
    exact ow_in b h
  | v :: vs, .val t :: os, q, .cons a b, h => by
    have : owA (v :: vs) (.val t :: os) = owA vs os := by cases v <;> rfl
    rw [this] at h
    exact ow_in b h
  | v :: vs, .slot i :: os, q, .cons a b, h => by
    have : owA (v :: vs) (.slot i :: os) = owA vs os := by cases v <;> rfl
    rw [this] at h
    exact ow_in b h
theorem av_cons {te : TE} {tr : TA} {e : EF} {r : AF} (he : EV K A te e) (hr : AV K A tr r) : AV K A (tCons te tr) (aC e r) := fun G σ H ρ O rl os ρ' ee Q q => by
  simp only [aC, Option.bind_eq_bind, Option.bind_eq_some_iff] at ee
  obtain ⟨⟨o, ρ1⟩, h1, ⟨os1, ρ2⟩, h2, h3⟩ := ee
  cases h3
  refine he G σ H ρ O rl o ρ1 h1 _ fun v H1 O1 p1 s1 => ?_
  refine hr G σ H1 ρ1 O1 p1.rel os1 ρ2 h2 _ fun vs H2 O2 p2 s2 nd => ?_
  refine q _ _ O2 (p1.trans p2) (.cons (s1.up p2) (paired_map (fun a b r => Rl.back r p1.lv) s2)) ?_
  cases o with
  | val t => have : owA (v :: vs) (.val t :: os1) = owA vs os1 := by cases v <;> rfl
             rw [this]; exact nd
  | slot t => have : owA (v :: vs) (.slot t :: os1) = owA vs os1 := by cases v <;> rfl
              rw [this]; exact nd
  | ot t => have : owA (v :: vs) (.ot t :: os1) = owA vs os1 := by cases v <;> rfl
            rw [this]; exact nd
  | own t =>
    obtain ⟨p, rfl, tm⟩ := s1
    simp only [owA, List.nodup_cons]
    refine ⟨fun hp => ?_, nd⟩
    obtain ⟨u, tu⟩ := ow_in s2 hp
    exact p1.rel.dom p tm.hid tu.new
def eB (f : List T → Option Opd) (a : AF) : EF := fun ρ => do
  let (os, ρ1) ← a ρ
  let ts ← trees ρ1 os
  let o ← f ts
  pure (o, ρ1)
theorem ev_cb {r : List V → Hp → VK → Prop} {f : List T → Option Opd} {tl : TA} {a : AF} (ha : AV K A tl a) (hb : Bv K A r f) : EV K A (tCB r tl) (eB f a) := fun G σ H ρ O rl o ρ' e Q q => by
  simp only [eB, Option.bind_eq_bind, Option.bind_eq_some_iff] at e
  obtain ⟨⟨os, ρ1⟩, h1, ts, h2, o', h3, h4⟩ := e
  cases h4
  refine ha G σ H ρ O rl os ρ1 h1 _ fun vs H1 O1 p1 s1 nd => ?_
  obtain ⟨O2, p2, s2⟩ := release rl p1 s1
  refine hb H1 O2 vs ts _ p2.rel.dom (tops_of p2.rel s2 (by rw [trees_fz]; exact h2)) h3 _ fun v H2 s2 n2 => ?_
  obtain ⟨O3, p3, r3⟩ := n2.post p2.rel s2
  exact q v H2 O3 (p2.trans p3) (r3.back p2.lv)
theorem ev_op {r : R2} {f : List T → Option Opd} {ta tb : TE} {a b : EF} (ha : EV K A ta a) (hb : EV K A tb b) (h : B2 K A r f) : EV K A (tOp r ta tb) (eB f (aC a (aC b aN))) := ev_cb (r := l2 r) (av_cons ha (av_cons hb av_nil)) h
theorem ev_un {r : V → Hp → VK → Prop} {f : List T → Option Opd} {ta : TE} {a : EF} (ha : EV K A ta a) (h : B1 K A r f) : EV K A (tUn r ta) (eB f (aC a aN)) := ev_cb (r := l1 r) (av_cons ha av_nil) h
/-! ### names, constants -/
def eVar (i : Nat) : EF := fun ρ => match ρ[i]? with
  | some (.val _) => some (.slot i, ρ)
  | some (.own _) => some (.slot i, ρ)
  | some (.io _) => some (.slot i, ρ)
  | _ => none
theorem ev_var {i : Nat} : EV K A (tVar i) (eVar i) := fun G σ H ρ O rl o ρ' e Q q => by
  unfold eVar at e
  have key : ∀ w, σ[i]? = some (some w) → some (Opd.slot i, ρ) = some (o, ρ') → tVar i σ H Q := fun w h e => by
    cases e
    exact ⟨w, h, q w H O (.refl rl) h⟩
  split at e
  · rename_i u hs; obtain ⟨w, h1, _⟩ := rl.val i u hs; exact key w h1 e
  · rename_i u hs; obtain ⟨w, h1, _⟩ := rl.own i u hs; exact key _ h1 e
  · rename_i u hs; obtain ⟨w, h1, _⟩ := rl.io i u hs; exact key _ h1 e
  · cases e
def eC (t : T) : EF := fun ρ => some (.val t, ρ)
theorem ev_c {v : V} {t : T} (h : ∀ H, Rp K A H v t) : EV K A (tC v) (eC t) := fun G σ H ρ O rl o ρ' e Q q => by
  cases e
  exact q v H O (.refl rl) (h _)
theorem ev_int {n : Int} : EV K A (tC (.int n)) (eC (.int n)) := ev_c fun _ => .int n
theorem ev_str {x : Str} : EV K A (tC (.str x)) (eC (.str x)) := ev_c fun _ => .str x
theorem ev_bl {b : Bool} : EV K A (tC (.bl b)) (eC (.bl b)) := ev_c fun _ => .bl b
theorem ev_non : EV K A (tC .non) (eC .non) := ev_c fun _ => .non
/-! ### tests -/
def bE (e : EF) : BF := fun ρ => do
  let (o, ρ1) ← e ρ
  let t ← o.tree ρ1
  match t with
  | .bl b => pure (b, ρ1)
  | _ => none
theorem tv_b {te : TE} {e : EF} (he : EV K A te e) : TV K A (tB te) (bE e) := fun G σ H ρ O rl b ρ' ee Q q => by
  simp only [bE, Option.bind_eq_bind, Option.bind_eq_some_iff] at ee
  obtain ⟨⟨o, ρ1⟩, h1, t, h2, h3⟩ := ee
  refine he G σ H ρ O rl o ρ1 h1 _ fun v H1 O0 p0 s0 => ?_
  obtain ⟨O1, p1, s1⟩ := release (vs := [v]) (os := [o]) rl p0 (.cons s0 .nil)
  have tp : Top K A H1 O1 v t := (match s1 with | .cons s1 _ => s1.top p1.rel (by rw [tree_fz]; exact h2))
  split at h3
  · cases h3
    exact ⟨_, tp.bl, q H1 O1 p1⟩
  · cases h3
theorem tv_test {te : TE} {e : EF} (he : EV K A te e) : TV K A (tTest te) (bE e) := tv_b he
def bAnd (a b : BF) : BF := fun ρ => do
  let (x, ρ1) ← a ρ
  if x then b ρ1 else pure (false, ρ1)
def bOr (a b : BF) : BF := fun ρ => do
  let (x, ρ1) ← a ρ
  if x then pure (true, ρ1) else b ρ1
def bNot (a : BF) : BF := fun ρ => do
  let (x, ρ1) ← a ρ
  pure (!x, ρ1)
def bYes : BF := fun ρ => some (true, ρ)
theorem tv_and {t u : TT} {a b : BF} (ha : TV K A t a) (hb : TV K A u b) : TV K A (tAnd t u) (bAnd a b) := fun G σ H ρ O rl x ρ' e Q q => by
  simp only [bAnd, Option.bind_eq_bind, Option.bind_eq_some_iff] at e
  obtain ⟨⟨y, ρ1⟩, h1, h2⟩ := e
  refine ha G σ H ρ O rl y ρ1 h1 _ fun H1 O1 p1 => ?_
  cases y with
  | true => rw [if_pos rfl] at h2 ⊢; exact hb G σ H1 ρ1 O1 p1.rel x ρ' h2 _ fun H2 O2 p2 => q H2 O2 (p1.trans p2)
  | false => dsimp only at h2; rw [if_neg Bool.false_ne_true] at h2 ⊢; cases h2; exact q H1 O1 p1
theorem tv_or {t u : TT} {a b : BF} (ha : TV K A t a) (hb : TV K A u b) : TV K A (tOr t u) (bOr a b) := fun G σ H ρ O rl x ρ' e Q q => by
  simp only [bOr, Option.bind_eq_bind, Option.bind_eq_some_iff] at e
  obtain ⟨⟨y, ρ1⟩, h1, h2⟩ := e
  refine ha G σ H ρ O rl y ρ1 h1 _ fun H1 O1 p1 => ?_
  cases y with
  | true => rw [if_pos rfl] at h2 ⊢; cases h2; exact q H1 O1 p1
  | false => dsimp only at h2; rw [if_neg Bool.false_ne_true] at h2 ⊢; exact hb G σ H1 ρ1 O1 p1.rel x ρ' h2 _ fun H2 O2 p2 => q H2 O2 (p1.trans p2)
theorem tv_not {t : TT} {a : BF} (ha : TV K A t a) : TV K A (tNot t) (bNot a) := fun G σ H ρ O rl x ρ' e Q q => by
  simp only [bNot, Option.bind_eq_bind, Option.bind_eq_some_iff] at e
  obtain ⟨⟨y, ρ1⟩, h1, h2⟩ := e
  cases h2
  exact ha G σ H ρ O rl y ρ1 h1 _ fun H1 O1 p1 => q H1 O1 p1
theorem tv_yes : TV K A tYes bYes := fun G σ H ρ O rl x ρ' e Q q => by
  cases e
  exact q H O (.refl rl)
/-- truth of a value -/
def T.truth : T → Option Bool
  | .non => some false
  | .bl b => some b
  | .int i => some (i != 0)
  | .str x => if x.length ≤ sizeLine then some ((x.length : Int) != 0) else none
  | .lst xs => some (!xs.isEmpty)
  | .tup xs => some (!xs.isEmpty)
  | _ => none
def bT (e : EF) : BF := fun ρ => do
  let (o, ρ1) ← e ρ
  let t ← o.tree ρ1
  let b ← t.truth
  pure (b, ρ1)
theorem RpL.emp {vs : List V} {ts : List T} (h : RpL K A H vs ts) : vs.isEmpty = ts.isEmpty := by cases h <;> rfl
theorem tv_tru {te : TE} {e : EF} (he : EV K A te e) : TV K A (tTruth K te) (bT e) := fun G σ H ρ O rl b ρ' ee Q q => by
  simp only [bT, Option.bind_eq_bind, Option.bind_eq_some_iff] at ee
  obtain ⟨⟨o, ρ1⟩, h1, t, h2, b', h3, h4⟩ := ee
  cases h4
  refine he G σ H ρ O rl o ρ1 h1 _ fun v H1 O0 p0 s0 => ?_
  obtain ⟨O1, p1, s1⟩ := release (vs := [v]) (os := [o]) rl p0 (.cons s0 .nil)
  have tp : Top K A H1 O1 v t := (match s1 with | .cons s1 _ => s1.top p1.rel (by rw [tree_fz]; exact h2))
  refine ⟨b, ?_, q H1 O1 p1⟩
  cases t <;> simp only [T.truth, Option.some.injEq, reduceCtorEq] at h3
  · rw [tp.non]; exact h3.symm
  · rw [tp.bl]; exact h3.symm
  · rw [tp.int]; exact h3.symm
  · rw [tp.str]
    split at h3
    · rename_i hl; cases h3; exact ⟨hl, rfl⟩
    · cases h3
  · obtain ⟨p, vs, rfl, h, r⟩ := tp.lst; exact .inl ⟨vs, h, by rw [r.emp]; exact h3.symm⟩
  · obtain ⟨p, vs, rfl, h, r⟩ := tp.tup; exact .inr (.inl ⟨vs, h, by rw [r.emp]; exact h3.symm⟩)
/-! ### values by tests -/
def eIf (c : BF) (a b : EF) : EF := fun ρ => do
  let (x, ρ1) ← c ρ
  if x then a ρ1 else b ρ1
theorem ev_if {c : TT} {ta tb : TE} {f : BF} {a b : EF} (hc : TV K A c f) (ha : EV K A ta a) (hb : EV K A tb b) : EV K A (tIf c ta tb) (eIf f a b) := fun G σ H ρ O rl o ρ' e Q q => by
  simp only [eIf, Option.bind_eq_bind, Option.bind_eq_some_iff] at e
  obtain ⟨⟨y, ρ1⟩, h1, h2⟩ := e
  refine hc G σ H ρ O rl y ρ1 h1 _ fun H1 O1 p1 => ?_
  cases y with
  | true => rw [if_pos rfl] at h2 ⊢; exact ha G σ H1 ρ1 O1 p1.rel o ρ' h2 _ fun v H2 O2 p2 r2 => q v H2 O2 (p1.trans p2) (r2.back p1.lv)
  | false => dsimp only at h2; rw [if_neg Bool.false_ne_true] at h2 ⊢; exact hb G σ H1 ρ1 O1 p1.rel o ρ' h2 _ fun v H2 O2 p2 r2 => q v H2 O2 (p1.trans p2) (r2.back p1.lv)
def eAnd (a b : EF) : EF := fun ρ => do
  let (x, ρ1) ← bE a ρ
  if x then b ρ1 else pure (.val (.bl false), ρ1)
def eOr (a b : EF) : EF := fun ρ => do
  let (x, ρ1) ← bE a ρ
  if x then pure (.val (.bl true), ρ1) else b ρ1
def eNot (a : EF) : EF := fun ρ => do
  let (x, ρ1) ← bE a ρ
  pure (.val (.bl (!x)), ρ1)
theorem ev_and {ta tb : TE} {a b : EF} (ha : EV K A ta a) (hb : EV K A tb b) : EV K A (tAndV ta tb) (eAnd a b) := fun G σ H ρ O rl o ρ' e Q q => by
  simp only [eAnd, Option.bind_eq_bind, Option.bind_eq_some_iff] at e
  obtain ⟨⟨y, ρ1⟩, h1, h2⟩ := e
  refine tv_b ha G σ H ρ O rl y ρ1 h1 _ fun H1 O1 p1 => ?_
  cases y with
  | true => rw [if_pos rfl] at h2 ⊢; exact hb G σ H1 ρ1 O1 p1.rel o ρ' h2 _ fun v H2 O2 p2 r2 => q v H2 O2 (p1.trans p2) (r2.back p1.lv)
  | false => dsimp only at h2; rw [if_neg Bool.false_ne_true] at h2 ⊢; cases h2; exact q _ H1 O1 p1 (Rp.bl _)
theorem ev_or {ta tb : TE} {a b : EF} (ha : EV K A ta a) (hb : EV K A tb b) : EV K A (tOrV ta tb) (eOr a b) := fun G σ H ρ O rl o ρ' e Q q => by
  simp only [eOr, Option.bind_eq_bind, Option.bind_eq_some_iff] at e
  obtain ⟨⟨y, ρ1⟩, h1, h2⟩ := e
  refine tv_b ha G σ H ρ O rl y ρ1 h1 _ fun H1 O1 p1 => ?_
  cases y with
  | true => rw [if_pos rfl] at h2 ⊢; cases h2; exact q _ H1 O1 p1 (Rp.bl _)
  | false => dsimp only at h2; rw [if_neg Bool.false_ne_true] at h2 ⊢; exact hb G σ H1 ρ1 O1 p1.rel o ρ' h2 _ fun v H2 O2 p2 r2 => q v H2 O2 (p1.trans p2) (r2.back p1.lv)
theorem ev_not {ta : TE} {a : EF} (ha : EV K A ta a) : EV K A (tNotV ta) (eNot a) := fun G σ H ρ O rl o ρ' e Q q => by
  simp only [eNot, Option.bind_eq_bind, Option.bind_eq_some_iff] at e
  obtain ⟨⟨y, ρ1⟩, h1, h2⟩ := e
  cases h2
  exact tv_b ha G σ H ρ O rl y ρ1 h1 _ fun H1 O1 p1 => q _ H1 O1 p1 (Rp.bl _)
/-! ### displays -/
/-- what of the arguments is new and held by nobody stays so -/
def ocm : List Opd → Rho → Option (List (Bool × T) × Rho)
  | [], ρ => some ([], ρ)
  | .own t :: r, ρ => do
    let (xs, ρ2) ← ocm r ρ
    pure ((true, t) :: xs, ρ2)
  | .ot _ :: _, _ => none
  | o :: r, ρ => do
    let (t, ρ1) ← share o ρ
    let (xs, ρ2) ← ocm r ρ1
    pure ((false, t) :: xs, ρ2)
def eTup (a : AF) : EF := fun ρ => do
  let (os, ρ1) ← a ρ
  let (ts, ρ2) ← shareL os ρ1
  if ts.length ≤ sizeLine then pure (.val (.tup ts), ρ2) else none
def eLst (a : AF) : EF := fun ρ => do
  let (os, ρ1) ← a ρ
  let (ts, ρ2) ← shareL os ρ1
  if ts.length ≤ sizeLine then pure (.own (.lst ts), ρ2) else none
theorem ev_tup {tl : TA} {a : AF} (ha : AV K A tl a) : EV K A (tTup tl) (eTup a) := fun G σ H ρ O rl o ρ' e Q q => by
  simp only [eTup, Option.bind_eq_bind, Option.bind_eq_some_iff] at e
  obtain ⟨⟨os, ρ1⟩, h1, ⟨ts, ρ2⟩, h2, h3⟩ := e
  refine ha G σ H ρ O rl os ρ1 h1 _ fun vs H1 O0 p0 s0 nd => ?_
  obtain ⟨O1, p1, s1⟩ := release rl p0 s0
  obtain ⟨O2, p2, r2⟩ := shareL_ok p1.rel s1 (by rw [shareL_fz]; exact h2)
  dsimp only at h3
  split at h3
  · rename_i hl
    cases h3
    refine ⟨by rw [r2.len]; exact hl, fun p hp => ?_⟩
    have sm : Same H1 (upd H1 p (.tup vs)) := same_new hp
    obtain ⟨O3, p3, r3⟩ := NewR.post (x := .val (.tup ts)) p2.rel sm (show Rp K A (hide (upd H1 p (.tup vs)) O2) (.ref p) (.tup ts) from
      .tup (.inl (.inl (hide_of (p2.rel.fresh hp).1 upd_same))) (r2.mono (Le.of (hide_newv hp))))
    exact q _ _ O3 ((p1.trans p2).trans p3) (r3.back (p1.trans p2).lv)
  · cases h3
theorem ev_lst {tl : TA} {a : AF} (ha : AV K A tl a) : EV K A (tLst tl) (eLst a) := fun G σ H ρ O rl o ρ' e Q q => by
  simp only [eLst, Option.bind_eq_bind, Option.bind_eq_some_iff] at e
  obtain ⟨⟨os, ρ1⟩, h1, ⟨ts, ρ2⟩, h2, h3⟩ := e
  refine ha G σ H ρ O rl os ρ1 h1 _ fun vs H1 O0 p0 s0 nd => ?_
  obtain ⟨O1, p1, s1⟩ := release rl p0 s0
  obtain ⟨O2, p2, r2⟩ := shareL_ok p1.rel s1 (by rw [shareL_fz]; exact h2)
  dsimp only at h3
  split at h3
  · rename_i hl
    cases h3
    refine ⟨by rw [r2.len]; exact hl, fun p hp => ?_⟩
    have sm : Same H1 (upd H1 p (.lst vs)) := same_new hp
    obtain ⟨O3, p3, r3⟩ := NewR.post (x := .own (.lst ts)) p2.rel sm ⟨p, rfl, hp, vs, upd_same, r2.mono (Le.of (hide_new hp))⟩
    exact q _ _ O3 ((p1.trans p2).trans p3) (r3.back (p1.trans p2).lv)
  · cases h3
end
end QT

set_option Elab.async false
set_option linter.all false
set_option maxRecDepth 100000
set_option maxHeartbeats 4000000
namespace QT
open PySem PySem.Spec PyProof.Rows L2 QB
section
variable {K : PySem.W.Frag} {A : Nat → Addr} {G : Fx} {σ : L2.St} {H H' H2 : Hp} {ρ ρ' ρ2 : Rho} {O O' O2 : Oset} {i : Nat} {p : Addr} {t t' : T} {v : V} {x : Opd}
theorem ocm_ok {Hs : Hp} : ∀ {vs : List V} {os : List Opd} {xs : List (Bool × T)} {ρ ρ' : Rho} {O : Oset}, Rel K A G σ H ρ O → Paired (Rl K A σ Hs H ρ O) vs os → ocm os ρ = some (xs, ρ') → ∃ O', Post K A G σ H ρ O H ρ' O' ∧ Paired (Cm K A σ Hs H ρ' O') vs xs ∧ cmA vs xs = owA vs os
  | _, _, _, _, _, O, r, .nil, e => by cases e; exact ⟨O, .refl r, .nil, rfl⟩
  | v :: vs, .own t :: os, _, ρ, _, O, r, .cons ⟨p, e1, a⟩ b, e => by
    subst e1
    simp only [ocm, Option.bind_eq_bind, Option.bind_eq_some_iff] at e
    obtain ⟨⟨xs, ρ2⟩, h2, h3⟩ := e
    cases h3
    obtain ⟨O2, p2, x2, n2⟩ := ocm_ok r b h2
    exact ⟨O2, p2, .cons ⟨p, rfl, a.up p2⟩ x2, by simp only [cmA, owA, n2]⟩
  | v :: vs, .ot _ :: os, _, ρ, _, O, r, .cons a b, e => by cases e
  | v :: vs, .val t :: os, _, ρ, _, O, r, .cons a b, e => by
    simp only [ocm, Option.bind_eq_bind, Option.bind_eq_some_iff] at e
    obtain ⟨⟨t1, ρ1⟩, h1, ⟨xs, ρ2⟩, h2, h3⟩ := e
    cases h3
    obtain ⟨O1, p1, x1⟩ := share_ok (x := .val t) r a h1
    obtain ⟨O2, p2, x2, n2⟩ := ocm_ok p1.rel (paired_map (fun _ _ z => Rl.up z p1) b) h2
    refine ⟨O2, p1.trans p2, .cons (show Rp K A _ _ _ from x1.mono (Le.of p2.le)) x2, ?_⟩
    have e1 : cmA (v :: vs) ((false, t1) :: xs) = cmA vs xs := by cases v <;> rfl
    have e2 : owA (v :: vs) (.val t :: os) = owA vs os := by cases v <;> rfl
    rw [e1, e2, n2]
  | v :: vs, .slot t :: os, _, ρ, _, O, r, .cons a b, e => by
    simp only [ocm, Option.bind_eq_bind, Option.bind_eq_some_iff] at e
    obtain ⟨⟨t1, ρ1⟩, h1, ⟨xs, ρ2⟩, h2, h3⟩ := e
    cases h3
    obtain ⟨O1, p1, x1⟩ := share_ok (x := .slot t) r a h1
    obtain ⟨O2, p2, x2, n2⟩ := ocm_ok p1.rel (paired_map (fun _ _ z => Rl.up z p1) b) h2
    refine ⟨O2, p1.trans p2, .cons (show Rp K A _ _ _ from x1.mono (Le.of p2.le)) x2, ?_⟩
    have e1 : cmA (v :: vs) ((false, t1) :: xs) = cmA vs xs := by cases v <;> rfl
    have e2 : owA (v :: vs) (.slot t :: os) = owA vs os := by cases v <;> rfl
    rw [e1, e2, n2]
/-- a tuple of new things that may be changed later -/
def eOT (a : AF) : EF := fun ρ => do
  let (os, ρ1) ← a ρ
  let (xs, ρ2) ← ocm os ρ1
  if xs.length ≤ sizeLine then pure (.ot xs, ρ2) else none
theorem paired_len {α β : Type} {R : α → β → Prop} : ∀ {xs : List α} {ys : List β}, Paired R xs ys → xs.length = ys.length
  | _, _, .nil => rfl
  | _, _, .cons _ b => by simp [paired_len b]
theorem ev_ot {tl : TA} {a : AF} (ha : AV K A tl a) : EV K A (tTup tl) (eOT a) := fun G σ H ρ O rl o ρ' e Q q => by
  simp only [eOT, Option.bind_eq_bind, Option.bind_eq_some_iff] at e
  obtain ⟨⟨os, ρ1⟩, h1, ⟨xs, ρ2⟩, h2, h3⟩ := e
  refine ha G σ H ρ O rl os ρ1 h1 _ fun vs H1 O1 p1 s1 nd => ?_
  obtain ⟨O2, p2, r2, n2⟩ := ocm_ok p1.rel s1 h2
  dsimp only at h3
  split at h3
  · rename_i hl
    cases h3
    refine ⟨by rw [paired_len r2]; exact hl, fun p hp => ?_⟩
    have p3 : Post K A G σ H1 ρ' O2 (upd H1 p (.tup vs)) ρ' O2 := .same p2.rel (same_new hp)
    refine q _ _ O2 ((p1.trans p2).trans p3) ⟨p, vs, rfl, nn_back (p1.trans p2).lv hp, hide_of (p2.rel.fresh hp).1 upd_same, paired_map (fun _ _ z => Cm.up z p3) r2, by rw [n2]; exact nd⟩
  · cases h3
/-! ### statements -/
inductive Out where
  | fail | nx (ρ : Rho) | rt (o : Opd) (ρ : Rho) | bk (ρ : Rho) | ct (ρ : Rho)
abbrev SF := Rho → Out
structure Stp (K : PySem.W.Frag) (A : Nat → Addr) (G : Fx) (H : Hp) (O : Oset) (σ' : L2.St) (H' : Hp) (ρ' : Rho) (O' : Oset) : Prop where
  rel : Rel K A G σ' H' ρ' O'
  le : Same (hide H O) (hide H' O')
  lv : ∀ a, H a ≠ none → H' a ≠ none
/-- what is returned -/
def Own2 (K : PySem.W.Frag) (A : Nat → Addr) (Hs H : Hp) (O : Oset) (p : Addr) (t : T) : Prop := Hs p = none ∧ O p ∧ Own1 K A H (hide H O) p t
def Cr (K : PySem.W.Frag) (A : Nat → Addr) (Hs H : Hp) (O : Oset) : V → Bool × T → Prop
  | v, (false, t) => Rp K A (hide H O) v t
  | v, (true, t) => ∃ p, v = .ref p ∧ Own2 K A Hs H O p t
def RetR (K : PySem.W.Frag) (A : Nat → Addr) (Hs H : Hp) (O : Oset) (v : V) : Opd → Prop
  | .val t => Rp K A (hide H O) v t
  | .slot _ => False
  | .own t => ∃ p, v = .ref p ∧ Own2 K A Hs H O p t
  | .ot xs => ∃ p vs, v = .ref p ∧ Hs p = none ∧ hide H O p = some (.tup vs) ∧ Paired (Cr K A Hs H O) vs xs ∧ (cmA vs xs).Nodup
def EndsOK (K : PySem.W.Frag) (A : Nat → Addr) (D : Ends) (G : Fx) (H : Hp) (O : Oset) : Out → Prop
  | .fail => False
  | .nx ρ' => ∀ σ' H' O', Stp K A G H O σ' H' ρ' O' → D.nx σ' H'
  | .bk ρ' => ∀ σ' H' O', Stp K A G H O σ' H' ρ' O' → D.bk σ' H'
  | .ct ρ' => ∀ σ' H' O', Stp K A G H O σ' H' ρ' O' → D.ct σ' H'
  | .rt x ρ' => ∀ v σ' H' O', Stp K A G H O σ' H' ρ' O' → RetR K A G.H0 H' O' v x → D.rt v H'
def SV (K : PySem.W.Frag) (A : Nat → Addr) (ts : TS) (F : SF) : Prop := ∀ (G : Fx) (σ : L2.St) (H : Hp) (ρ : Rho) (O : Oset) (D : Ends), Rel K A G σ H ρ O → EndsOK K A D G H O (F ρ) → ts D σ H
theorem Stp.refl (r : Rel K A G σ H ρ O) : Stp K A G H O σ H ρ O := ⟨r, Same.refl _, fun _ e => e⟩
theorem Stp.pre {H1 : Hp} {O1 : Oset} {σ' : L2.St} (le : Same (hide H O) (hide H1 O1)) (lv : ∀ a, H a ≠ none → H1 a ≠ none) (b : Stp K A G H1 O1 σ' H2 ρ2 O2) : Stp K A G H O σ' H2 ρ2 O2 := ⟨b.rel, le.trans b.le, fun a e => b.lv a (lv a e)⟩
theorem EndsOK.up {D : Ends} {u : Out} {H1 : Hp} {O1 : Oset} (h : EndsOK K A D G H O u) (le : Same (hide H O) (hide H1 O1)) (lv : ∀ a, H a ≠ none → H1 a ≠ none) : EndsOK K A D G H1 O1 u := by
  cases u with
  | fail => exact h
  | nx ρ => exact fun σ' H' O' s => h σ' H' O' (s.pre le lv)
  | bk ρ => exact fun σ' H' O' s => h σ' H' O' (s.pre le lv)
  | ct ρ => exact fun σ' H' O' s => h σ' H' O' (s.pre le lv)
  | rt x ρ => exact fun v σ' H' O' s => h v σ' H' O' (s.pre le lv)
def sNext : SF := fun ρ => .nx ρ
def sBreak : SF := fun ρ => .bk ρ
def sCont : SF := fun ρ => .ct ρ
theorem sv_next : SV K A tNext sNext := fun G σ H ρ O D r e => e σ H O (.refl r)
theorem sv_break : SV K A tBreak sBreak := fun G σ H ρ O D r e => e σ H O (.refl r)
theorem sv_cont : SV K A tCont sCont := fun G σ H ρ O D r e => e σ H O (.refl r)
def sSeq (a b : SF) : SF := fun ρ => match a ρ with
  | .nx ρ1 => b ρ1
  | o => o
theorem sv_seq {t u : TS} {a b : SF} (ha : SV K A t a) (hb : SV K A u b) : SV K A (tSeq t u) (sSeq a b) := fun G σ H ρ O D r e => by
  refine ha G σ H ρ O _ r ?_
  unfold sSeq at e
  cases h : a ρ with
  | fail => rw [h] at e; exact e
  | nx ρ1 => rw [h] at e; exact fun σ' H' O' s => hb G σ' H' ρ1 O' D s.rel (e.up s.le s.lv)
  | bk ρ1 => rw [h] at e; exact e
  | ct ρ1 => rw [h] at e; exact e
  | rt x ρ1 => rw [h] at e; exact e
def sIf (c : BF) (a b : SF) : SF := fun ρ => match c ρ with
  | some (true, ρ1) => a ρ1
  | some (false, ρ1) => b ρ1
  | none => .fail
theorem sv_if {c : TT} {t u : TS} {f : BF} {a b : SF} (hc : TV K A c f) (ha : SV K A t a) (hb : SV K A u b) : SV K A (tIfS c t u) (sIf f a b) := fun G σ H ρ O D r e => by
  unfold sIf at e
  split at e
  · rename_i ρ1 h; exact hc G σ H ρ O r _ _ h _ fun H1 O1 p1 => by rw [if_pos rfl]; exact ha G σ H1 ρ1 O1 D p1.rel (e.up p1.le p1.lv)
  · rename_i ρ1 h; exact hc G σ H ρ O r _ _ h _ fun H1 O1 p1 => by rw [if_neg Bool.false_ne_true]; exact hb G σ H1 ρ1 O1 D p1.rel (e.up p1.le p1.lv)
  · exact e.elim
def sDrop (f : EF) : SF := fun ρ => match f ρ with
  | some (_, ρ1) => .nx ρ1
  | none => .fail
theorem sv_drop {te : TE} {f : EF} (he : EV K A te f) : SV K A (tDrop te) (sDrop f) := fun G σ H ρ O D r e => by
  unfold sDrop at e
  split at e
  · rename_i o ρ1 h; exact he G σ H ρ O r _ _ h _ fun v H1 O1 p1 _ => e σ H1 O1 ⟨p1.rel, p1.le, p1.lv⟩
  · exact e.elim
/-- a value goes into slot i -/
def put1 (i : Nat) (o : Opd) (ρ : Rho) : Option Rho := match o with
  | .own t => some (ρ.set i (.own t))
  | o => (share o ρ).map fun (t, ρ1) => ρ1.set i (.val t)
def sAsg (i : Nat) (f : EF) : SF := fun ρ => match f ρ with
  | some (o, ρ1) => (match put1 i o ρ1 with
    | some ρ2 => .nx ρ2
    | none => .fail)
  | none => .fail
theorem sv_asg {te : TE} {f : EF} (he : EV K A te f) : SV K A (tAsg te (gName i)) (sAsg i f) := fun G σ H ρ O D r e => by
  unfold sAsg at e
  split at e
  · rename_i o ρ1 h
    refine he G σ H ρ O r _ _ h _ fun v H1 O1 p1 s1 => ?_
    show D.nx (σ.set i (some v)) H1
    have key : o = o.fz ∨ True → ∀ t ρ2, share o ρ1 = some (t, ρ2) → (∃ ρ3, ρ3 = ρ2.set i (.val t) ∧ EndsOK K A D G H O (.nx ρ3)) → D.nx (σ.set i (some v)) H1 := fun _ t ρ2 hs ⟨ρ3, e3, hE⟩ => by
      obtain ⟨O2, p2, s2⟩ := release (vs := [v]) (os := [o]) r p1 (.cons s1 .nil)
      cases s2 with
      | cons s2 _ =>
        obtain ⟨O3, p3, x3⟩ := share_ok p2.rel s2 (by rw [share_fz]; exact hs)
        have p4 := p2.trans p3
        subst e3
        exact hE _ _ O3 ⟨p4.rel.put x3, p4.le, p4.lv⟩
    cases o with
    | own t =>
      obtain ⟨p, rfl, tm⟩ := s1
      exact e _ H1 O1 ⟨p1.rel.putOwn tm.hid (r.fresh tm.new).2.1 tm.un tm.own, p1.le, p1.lv⟩
    | val t =>
      exact key (.inr trivial) t ρ1 rfl ⟨_, rfl, e⟩
    | ot xs =>
      exact key (.inr trivial) _ ρ1 rfl ⟨_, rfl, e⟩
    | slot j =>
      cases hs : share (.slot j) ρ1 with
      | none => simp only [put1, hs, Option.map_none] at e; exact e.elim
      | some z =>
        obtain ⟨t, ρ2⟩ := z
        simp only [put1, hs, Option.map_some] at e
        exact key (.inr trivial) t ρ2 hs ⟨_, rfl, e⟩
  · exact e.elim
/-- return -/
def ret1 (o : Opd) (ρ : Rho) : Out := match o with
  | .slot i => (match ρ[i]? with
    | some (.val t) => .rt (.val t) ρ
    | some (.own t) => .rt (.own t) ρ
    | _ => .fail)
  | o => .rt o ρ
def sRet (f : EF) : SF := fun ρ => match f ρ with
  | some (o, ρ1) => ret1 o ρ1
  | none => .fail
theorem Tmp.ret {Hs : Hp} (h : Tmp K A σ H H' ρ' O' p t) (lv : ∀ a, Hs a ≠ none → H a ≠ none) : Own2 K A Hs H' O' p t := ⟨nn_back lv h.new, h.hid, h.own⟩
theorem sv_ret {te : TE} {f : EF} (he : EV K A te f) : SV K A (tRet te) (sRet f) := fun G σ H ρ O D r e => by
  unfold sRet at e
  split at e
  · rename_i o ρ1 h
    refine he G σ H ρ O r _ _ h _ fun v H1 O1 p1 s1 => ?_
    have st : Stp K A G H O σ H1 ρ1 O1 := ⟨p1.rel, p1.le, p1.lv⟩
    cases o with
    | val t => exact e v σ H1 O1 st s1
    | own t =>
      obtain ⟨p, rfl, tm⟩ := s1
      exact e _ σ H1 O1 st ⟨p, rfl, tm.ret r.live⟩
    | ot xs =>
      obtain ⟨p, vs, rfl, hn, hp, hc, nd⟩ := s1
      refine e _ σ H1 O1 st ⟨p, vs, rfl, nn_back r.live hn, hp, paired_map (fun a b z => ?_) hc, nd⟩
      obtain ⟨b, t⟩ := b
      cases b with
      | false => exact z
      | true => obtain ⟨q, eq, z⟩ := z; exact ⟨q, eq, z.ret r.live⟩
    | slot j =>
      have s1 : σ[j]? = some (some v) := s1
      unfold ret1 at e
      dsimp only at e
      split at e
      · rename_i t hs
        obtain ⟨w, h1, h2⟩ := p1.rel.val j t hs
        rw [s1] at h1; cases h1
        exact e v σ H1 O1 st h2
      · rename_i t hs
        obtain ⟨q, h1, h2, h3, h4⟩ := p1.rel.own j t hs
        rw [s1] at h1; cases h1
        exact e _ σ H1 O1 st ⟨q, rfl, p1.rel.new q h2 h3, h2, h4⟩
      · exact e.elim
  · exact e.elim
def sRetN : SF := fun ρ => .rt (.val .non) ρ
theorem sv_retN : SV K A tRetN sRetN := fun G σ H ρ O D r e => e .non σ H O (.refl r) .non
end
end QT

set_option Elab.async false
set_option linter.all false
set_option maxRecDepth 100000
set_option maxHeartbeats 4000000
namespace QT
open PySem PySem.Spec PyProof.Rows L2 QB
section
variable {K : PySem.W.Frag} {A : Nat → Addr} {G : Fx} {σ σ' : L2.St} {H H' H2 : Hp} {ρ ρ' ρ2 : Rho} {O O' O2 : Oset} {i : Nat} {p : Addr} {t t' : T} {v : V} {x : Opd}
/-! ### targets of values -/
def GV (K : PySem.W.Frag) (A : Nat → Addr) (is : List Nat) (g : TG) (s : T → Rho → Option Rho) : Prop := ∀ (G : Fx) (σ : L2.St) (H : Hp) (ρ : Rho) (O : Oset) (v : V) (t : T) (ρ' : Rho), Rel K A G σ H ρ O → Rp K A (hide H O) v t → s t ρ = some ρ' → ∀ Q : L2.St → Hp → Prop, (∀ σ', Rel K A G σ' H ρ' O → (∀ j, hold ρ' j → hold ρ j ∧ σ'[j]? = σ[j]?) → (∀ j, j ∉ is → σ'[j]? = σ[j]?) → σ'.length = σ.length → Q σ' H) → g v σ H Q
def GVs (K : PySem.W.Frag) (A : Nat → Addr) (is : List Nat) (g : TGs) (s : List T → Rho → Option Rho) : Prop := ∀ (G : Fx) (σ : L2.St) (H : Hp) (ρ : Rho) (O : Oset) (vs : List V) (ts : List T) (ρ' : Rho), Rel K A G σ H ρ O → RpL K A (hide H O) vs ts → s ts ρ = some ρ' → ∀ Q : L2.St → Hp → Prop, (∀ σ', Rel K A G σ' H ρ' O → (∀ j, hold ρ' j → hold ρ j ∧ σ'[j]? = σ[j]?) → (∀ j, j ∉ is → σ'[j]? = σ[j]?) → σ'.length = σ.length → Q σ' H) → g vs σ H Q
def pN (i : Nat) (t : T) (ρ : Rho) : Option Rho := some (ρ.set i (.val t))
def pT (n : Nat) (s : List T → Rho → Option Rho) : T → Rho → Option Rho
  | .tup ts, ρ => if ts.length = n then s ts ρ else none
  | _, _ => none
def pNil : List T → Rho → Option Rho
  | [], ρ => some ρ
  | _, _ => none
def pCons (a : T → Rho → Option Rho) (b : List T → Rho → Option Rho) : List T → Rho → Option Rho
  | t :: r, ρ => (a t ρ).bind fun ρ1 => b r ρ1
  | [], _ => none
theorem gv_name : GV K A [i] (gName i) (pN i) := fun G σ H ρ O v t ρ' r h e Q q => by
  cases e
  refine q _ (r.put h) (fun j hj => ?_) (fun j hj => set_ne (by simpa using hj)) (by rw [List.length_set])
  rcases hold_set hj with ⟨_, _, hx | hx⟩ | ⟨n, hx⟩
  · cases hx
  · cases hx
  · exact ⟨hx, set_ne n⟩
theorem gv_nil : GVs K A [] gNil pNil := fun G σ H ρ O vs ts ρ' r h e Q q => by
  cases h with
  | nil => cases e; exact ⟨rfl, q _ r (fun j h => ⟨h, rfl⟩) (fun _ _ => rfl) rfl⟩
  | cons _ _ => cases e
theorem gv_cons {g : TG} {u : TGs} {a : T → Rho → Option Rho} {b : List T → Rho → Option Rho} {i1 i2 : List Nat} (hg : GV K A i1 g a) (hu : GVs K A i2 u b) : GVs K A (i1 ++ i2) (gCons g u) (pCons a b) := fun G σ H ρ O vs ts ρ' r h e Q q => by
  cases h with
  | nil => cases e
  | cons h1 h2 =>
    simp only [pCons, Option.bind_eq_some_iff] at e
    obtain ⟨ρ1, e1, e2⟩ := e
    refine ⟨_, _, rfl, hg G σ H ρ O _ _ ρ1 r h1 e1 _ fun σ1 r1 k1 n1 l1 => ?_⟩
    exact hu G σ1 H ρ1 O _ _ ρ' r1 h2 e2 _ fun σ2 r2 k2 n2 l2 => q σ2 r2 (fun j hj => ⟨(k1 j (k2 j hj).1).1, (k2 j hj).2.trans (k1 j (k2 j hj).1).2⟩) (fun j hj => (n2 j fun x => hj (List.mem_append.mpr (.inr x))).trans (n1 j fun x => hj (List.mem_append.mpr (.inl x)))) (l2.trans l1)
theorem gv_tup {n : Nat} {u : TGs} {b : List T → Rho → Option Rho} {is : List Nat} (hu : GVs K A is u b) : GV K A is (gTup K n u) (pT n b) := fun G σ H ρ O v t ρ' r h e Q q => by
  cases h with
  | tup h1 h2 =>
    simp only [pT] at e
    split at e
    · rename_i hn
      exact ⟨_, _, rfl, hide_le.sqT h1, by rw [h2.len]; exact hn, hu G σ H ρ O _ _ ρ' r h2 e Q q⟩
    · cases e
  | _ => cases e
/-! ### what a for walks -/
structure IterOK (K : PySem.W.Frag) (A : Nat → Addr) (J : It) (ts : List T) (Iv : Hp → Oset → Prop) : Prop where
  up : ∀ H O H' O', Iv H O → Same (hide H O) (hide H' O') → Iv H' O'
  go : ∀ H O i t, Iv H O → (∀ p, O p → H p ≠ none) → ts[i]? = some t → J.go i H ∧ ∀ x H', J.yld i H x H' → Same H H' ∧ Rp K A (hide H' O) x t
  stop : ∀ H O, Iv H O → J.stop ts.length H
abbrev IF := Rho → Option (List T × Rho)
def IV (K : PySem.W.Frag) (A : Nat → Addr) (wi : TI) (f : IF) : Prop := ∀ (G : Fx) (σ : L2.St) (H : Hp) (ρ : Rho) (O : Oset), Rel K A G σ H ρ O → ∀ ts ρ', f ρ = some (ts, ρ') → ∀ R : It → Hp → Prop, (∀ J H' O' Iv, Post K A G σ H ρ O H' ρ' O' → IterOK K A J ts Iv → Iv H' O' → R J H') → wi σ H R
/-- the value is let go, and read -/
def opened (f : EF) : Rho → Option (T × Rho) := fun ρ => do
  let (o, ρ1) ← f ρ
  share o ρ1
theorem opened_ok {te : TE} {f : EF} (he : EV K A te f) (r : Rel K A G σ H ρ O) (e : opened f ρ = some (t, ρ')) (Q : VK) (q : ∀ v H' O', Post K A G σ H ρ O H' ρ' O' → Rp K A (hide H' O') v t → Q v H') : te σ H Q := by
  simp only [opened, Option.bind_eq_bind, Option.bind_eq_some_iff] at e
  obtain ⟨⟨o, ρ1⟩, h1, h2⟩ := e
  refine he G σ H ρ O r o ρ1 h1 _ fun v H1 O1 p1 s1 => ?_
  obtain ⟨O2, p2, s2⟩ := release (vs := [v]) (os := [o]) r p1 (.cons s1 .nil)
  cases s2 with
  | cons s2 _ =>
    obtain ⟨O3, p3, x3⟩ := share_ok p2.rel s2 (by rw [share_fz]; exact h2)
    exact q v H1 O3 (p2.trans p3) x3
def iL (f : EF) : IF := fun ρ => do
  let (t, ρ1) ← opened f ρ
  match t with
  | .lst ts => pure (ts, ρ1)
  | _ => none
def iT (f : EF) : IF := fun ρ => do
  let (t, ρ1) ← opened f ρ
  match t with
  | .tup ts => pure (ts, ρ1)
  | _ => none
theorem iv_lst {te : TE} {f : EF} (he : EV K A te f) : IV K A (iList K te) (iL f) := fun G σ H ρ O r ts ρ' e R q => by
  simp only [iL, Option.bind_eq_bind, Option.bind_eq_some_iff] at e
  obtain ⟨⟨t, ρ1⟩, h1, h2⟩ := e
  split at h2
  · rename_i us h3
    dsimp only at h3
    subst h3
    cases h2
    refine opened_ok he r h1 _ fun v H1 O1 p1 x1 => ?_
    cases x1 with
    | lst h r1 =>
      rename_i a vs
      refine ⟨a, rfl, ⟨vs, hide_le.sqL h⟩, q _ H1 O1 (fun H O => SqL K (hide H O) a vs ∧ RpL K A (hide H O) vs ts) p1 ⟨fun H O H' O' h l => ⟨(Le.of l).sqL h.1, h.2.mono (Le.of l)⟩, fun H O i t h d hi => ?_, fun H O h => ⟨vs, hide_le.sqL h.1, by rw [h.2.len]; exact Nat.le_refl _⟩⟩ ⟨h, r1⟩⟩
      obtain ⟨w, hw, rw⟩ := h.2.get hi
      refine ⟨⟨vs, w, hide_le.sqL h.1, hw⟩, fun x H' y => ?_⟩
      obtain ⟨rfl, y⟩ := y
      have := y vs (hide_le.sqL h.1)
      rw [hw] at this; cases this
      exact ⟨Same.refl _, rw⟩
  · cases h2
theorem iv_tup {te : TE} {f : EF} (he : EV K A te f) : IV K A (iTup K te) (iT f) := fun G σ H ρ O r ts ρ' e R q => by
  simp only [iT, Option.bind_eq_bind, Option.bind_eq_some_iff] at e
  obtain ⟨⟨t, ρ1⟩, h1, h2⟩ := e
  split at h2
  · rename_i us h3
    dsimp only at h3
    subst h3
    cases h2
    refine opened_ok he r h1 _ fun v H1 O1 p1 x1 => ?_
    cases x1 with
    | tup h r1 =>
      rename_i a vs
      refine ⟨a, rfl, ⟨vs, hide_le.sqT h⟩, q _ H1 O1 (fun H O => SqT K (hide H O) a vs ∧ RpL K A (hide H O) vs ts) p1 ⟨fun H O H' O' h l => ⟨(Le.of l).sqT h.1, h.2.mono (Le.of l)⟩, fun H O i t h d hi => ?_, fun H O h => ⟨vs, hide_le.sqT h.1, by rw [h.2.len]; exact Nat.le_refl _⟩⟩ ⟨h, r1⟩⟩
      obtain ⟨w, hw, rw⟩ := h.2.get hi
      refine ⟨⟨vs, w, hide_le.sqT h.1, hw⟩, fun x H' y => ?_⟩
      obtain ⟨rfl, y⟩ := y
      have := y vs (hide_le.sqT h.1)
      rw [hw] at this; cases this
      exact ⟨Same.refl _, rw⟩
  · cases h2
/-- lo, lo + 1, .. -/
def rngT (lo : Int) (n : Nat) : List T := (List.range n).map fun i : Nat => T.int (lo + (i : Int))
theorem rng_iter {lo : Int} {n : Nat} : IterOK K A (Itr lo n) (rngT lo n) (fun _ _ => True) := by
  have hl : (rngT lo n).length = n := by simp [rngT]
  refine ⟨fun _ _ _ _ _ _ => trivial, fun H O i t _ _ hi => ?_, fun H O _ => by rw [hl]; exact Nat.le_refl _⟩
  have h1 : i < n := by have := (List.getElem?_eq_some_iff.mp hi).1; rwa [hl] at this
  refine ⟨h1, fun x H' y => ?_⟩
  obtain ⟨rfl, rfl⟩ := y
  simp [rngT, h1] at hi
  subst hi
  exact ⟨Same.refl _, .int _⟩
def iR1 (a : AF) : IF := fun ρ => do
  let (os, ρ1) ← a ρ
  let ts ← trees ρ1 os
  match ts with
  | [.int j] => if -(2 ^ 62) ≤ j ∧ j < 2 ^ 62 then pure (rngT 0 j.toNat, ρ1) else none
  | _ => none
def iR2 (a : AF) : IF := fun ρ => do
  let (os, ρ1) ← a ρ
  let ts ← trees ρ1 os
  match ts with
  | [.int i, .int j] => if -(2 ^ 62) ≤ i ∧ i < 2 ^ 62 ∧ -(2 ^ 62) ≤ j ∧ j < 2 ^ 62 then pure (rngT i (j - i).toNat, ρ1) else none
  | _ => none
theorem iv_r1 {ta : TA} {a : AF} (ha : AV K A ta a) : IV K A (iRng1 ta) (iR1 a) := fun G σ H ρ O r ts ρ' e R q => by
  simp only [iR1, Option.bind_eq_bind, Option.bind_eq_some_iff] at e
  obtain ⟨⟨os, ρ1⟩, h1, us, h2, h3⟩ := e
  refine ha G σ H ρ O r os ρ1 h1 _ fun vs H1 O1 p1 s1 nd => ?_
  obtain ⟨O2, p2, s2⟩ := release r p1 s1
  have tp := tops_of p2.rel s2 (by rw [trees_fz]; exact h2)
  split at h3
  · rename_i j
    split at h3
    · rename_i hj
      cases h3
      match vs, tp with
      | [v], .cons a .nil => rw [a.int]; exact ⟨j, rfl, hj.1, hj.2, q _ H1 O2 _ p2 rng_iter trivial⟩
    · cases h3
  · cases h3
theorem iv_r2 {ta : TA} {a : AF} (ha : AV K A ta a) : IV K A (iRng2 ta) (iR2 a) := fun G σ H ρ O r ts ρ' e R q => by
  simp only [iR2, Option.bind_eq_bind, Option.bind_eq_some_iff] at e
  obtain ⟨⟨os, ρ1⟩, h1, us, h2, h3⟩ := e
  refine ha G σ H ρ O r os ρ1 h1 _ fun vs H1 O1 p1 s1 nd => ?_
  obtain ⟨O2, p2, s2⟩ := release r p1 s1
  have tp := tops_of p2.rel s2 (by rw [trees_fz]; exact h2)
  split at h3
  · rename_i i j
    split at h3
    · rename_i hj
      cases h3
      match vs, tp with
      | [v, w], .cons a (.cons b .nil) => rw [a.int, b.int]; exact ⟨i, j, rfl, hj, q _ H1 O2 _ p2 rng_iter trivial⟩
    · cases h3
  · cases h3
/-! ### for -/
def loopF (s : T → Rho → Option Rho) (b : SF) : List T → Rho → Out
  | [], ρ => .nx ρ
  | t :: r, ρ => match s t ρ with
    | none => .fail
    | some ρ1 => match b ρ1 with
      | .nx ρ2 => loopF s b r ρ2
      | .ct ρ2 => loopF s b r ρ2
      | .bk ρ2 => .nx ρ2
      | o => o
def sFor (f : IF) (s : T → Rho → Option Rho) (b : SF) : SF := fun ρ => match f ρ with
  | some (ts, ρ1) => loopF s b ts ρ1
  | none => .fail
theorem sv_for {wi : TI} {g : TG} {tb : TS} {f : IF} {s : T → Rho → Option Rho} {b : SF} (hi : IV K A wi f) {is : List Nat} (hg : GV K A is g s) (hb : SV K A tb b) : SV K A (tFor wi g tb) (sFor f s b) := fun G σ H ρ O D r e => by
  unfold sFor at e
  split at e
  · rename_i ts ρ1 h
    refine hi G σ H ρ O r ts ρ1 h _ fun J H1 O1 Iv p1 it iv => ?_
    refine ⟨fun i m σ H => m = ts.length - i ∧ i ≤ ts.length ∧ ∃ ρ O, Rel K A G σ H ρ O ∧ Iv H O ∧ EndsOK K A D G H O (loopF s b (ts.drop i) ρ), ⟨ts.length, by simp, Nat.zero_le _, ρ1, O1, p1.rel, iv, e.up p1.le p1.lv⟩, ?_⟩
    rintro i m σ2 H2 ⟨rfl, hi2, ρ2, O2, r2, iv2, e2⟩
    by_cases hlt : i < ts.length
    · have hx : ts[i]? = some ts[i] := by simp [hlt]
      have hd : ts.drop i = ts[i] :: ts.drop (i + 1) := (List.drop_eq_getElem_cons hlt)
      obtain ⟨g1, g2⟩ := it.go H2 O2 i _ iv2 r2.dom hx
      refine .inr ⟨g1, fun σ' H' => ∃ ρ O, Rel K A G σ' H' ρ O ∧ Iv H' O ∧ EndsOK K A D G H' O (loopF s b (ts.drop (i + 1)) ρ), fun σ' H' hN => ⟨ts.length - (i + 1), by omega, rfl, hlt, hN⟩, fun x H' y => ?_⟩
      obtain ⟨sm, rx⟩ := g2 x H' y
      rw [hd] at e2
      simp only [loopF] at e2
      split at e2
      · exact e2.elim
      · rename_i ρ3 hs
        refine hg G σ2 H' ρ2 O2 x _ ρ3 (r2.same sm) rx hs _ fun σ3 r3 k3 n3 l3 => ?_
        have l0 : Same (hide H2 O2) (hide H' O2) := hide_same sm
        have v0 := lv_same sm
        refine hb G σ3 H' ρ3 O2 _ r3 ?_
        cases hbo : b ρ3 with
        | fail => rw [hbo] at e2; exact e2.elim
        | nx ρ4 => rw [hbo] at e2; exact fun σ' H4 O4 st => ⟨ρ4, O4, st.rel, it.up _ _ _ _ iv2 (l0.trans st.le), e2.up (l0.trans st.le) fun a h => st.lv a (v0 a h)⟩
        | ct ρ4 => rw [hbo] at e2; exact fun σ' H4 O4 st => ⟨ρ4, O4, st.rel, it.up _ _ _ _ iv2 (l0.trans st.le), e2.up (l0.trans st.le) fun a h => st.lv a (v0 a h)⟩
        | bk ρ4 => rw [hbo] at e2; exact fun σ' H4 O4 st => e2 σ' H4 O4 (st.pre l0 v0)
        | rt x ρ4 => rw [hbo] at e2; exact fun w σ' H4 O4 st => e2 w σ' H4 O4 (st.pre l0 v0)
    · have ei : i = ts.length := by omega
      subst ei
      refine .inl ⟨it.stop H2 O2 iv2, ?_⟩
      rw [List.drop_length] at e2
      exact e2 σ2 H2 O2 (.refl r2)
  · exact e.elim
/-! ### while -/
def whileF (c : BF) (b : SF) : Nat → Rho → Out
  | 0, _ => .fail
  | n + 1, ρ => match c ρ with
    | none => .fail
    | some (false, ρ1) => .nx ρ1
    | some (true, ρ1) => match b ρ1 with
      | .nx ρ2 => whileF c b n ρ2
      | .ct ρ2 => whileF c b n ρ2
      | .bk ρ2 => .nx ρ2
      | o => o
def sWhile (fuel : Rho → Nat) (c : BF) (b : SF) : SF := fun ρ => whileF c b (fuel ρ) ρ
theorem sv_while {c : TT} {tb : TS} {f : BF} {b : SF} {fuel : Rho → Nat} (hc : TV K A c f) (hb : SV K A tb b) : SV K A (tWhile c tb) (sWhile fuel f b) := fun G σ H ρ O D r e => by
  refine ⟨fun m σ H => ∃ ρ O, Rel K A G σ H ρ O ∧ EndsOK K A D G H O (whileF f b m ρ), ⟨fuel ρ, ρ, O, r, e⟩, ?_⟩
  rintro m σ2 H2 ⟨ρ2, O2, r2, e2⟩
  cases m with
  | zero => exact e2.elim
  | succ m =>
    simp only [whileF] at e2
    split at e2
    · exact e2.elim
    · rename_i ρ3 h
      refine hc G σ2 H2 ρ2 O2 r2 _ _ h _ fun H3 O3 p3 => ?_
      rw [if_neg Bool.false_ne_true]
      exact e2 σ2 H3 O3 ⟨p3.rel, p3.le, p3.lv⟩
    · rename_i ρ3 h
      refine hc G σ2 H2 ρ2 O2 r2 _ _ h _ fun H3 O3 p3 => ?_
      rw [if_pos rfl]
      refine ⟨fun σ' H' => ∃ ρ O, Rel K A G σ' H' ρ O ∧ EndsOK K A D G H' O (whileF f b m ρ), fun σ' H' hN => ⟨m, Nat.lt_succ_self m, hN⟩, ?_⟩
      refine hb G σ2 H3 ρ3 O3 _ p3.rel ?_
      cases hbo : b ρ3 with
      | fail => rw [hbo] at e2; exact e2.elim
      | nx ρ4 => rw [hbo] at e2; exact fun σ' H4 O4 st => ⟨ρ4, O4, st.rel, e2.up (p3.le.trans st.le) fun a h => st.lv a (p3.lv a h)⟩
      | ct ρ4 => rw [hbo] at e2; exact fun σ' H4 O4 st => ⟨ρ4, O4, st.rel, e2.up (p3.le.trans st.le) fun a h => st.lv a (p3.lv a h)⟩
      | bk ρ4 => rw [hbo] at e2; exact fun σ' H4 O4 st => e2 σ' H4 O4 (st.pre p3.le p3.lv)
      | rt x ρ4 => rw [hbo] at e2; exact fun w σ' H4 O4 st => e2 w σ' H4 O4 (st.pre p3.le p3.lv)
end
end QT

set_option Elab.async false
set_option linter.all false
set_option maxRecDepth 100000
set_option maxHeartbeats 4000000
namespace QT
open PySem PySem.Spec PyProof.Rows L2 QB
section
variable {K : PySem.W.Frag} {A : Nat → Addr} {G : Fx} {σ σ' : L2.St} {H H' H2 : Hp} {ρ ρ' ρ2 : Rho} {O O' O2 : Oset} {i : Nat} {p : Addr} {t t' : T} {v : V} {x : Opd}
/-! ### slots forgotten -/
def wipeR (ρ : Rho) : List Nat → Rho
  | [] => ρ
  | v :: vs => (wipeR ρ vs).set v .no
theorem wipeR_get {s : Sl} {j : Nat} : ∀ {vs : List Nat}, (wipeR ρ vs)[j]? = some s → (j ∈ vs ∧ s = .no) ∨ (j ∉ vs ∧ ρ[j]? = some s)
  | [], h => .inr ⟨by simp, h⟩
  | v :: vs, h => by
    rcases set_get h with ⟨rfl, rfl⟩ | ⟨n, h⟩
    · exact .inl ⟨by simp, rfl⟩
    · rcases wipeR_get h with ⟨h1, h2⟩ | ⟨h1, h2⟩
      · exact .inl ⟨by simp [h1], h2⟩
      · exact .inr ⟨by simp [n, h1], h2⟩
theorem wipeR_len : ∀ vs : List Nat, (wipeR ρ vs).length = ρ.length
  | [] => rfl
  | v :: vs => by unfold wipeR; rw [List.length_set, wipeR_len vs]
theorem wipe_out {j : Nat} : ∀ {vs : List Nat}, j ∉ vs → (wipe σ vs)[j]? = σ[j]?
  | [], _ => rfl
  | v :: vs, h => by
    unfold wipe
    rw [set_ne (fun e => h (by simp [e]))]
    exact wipe_out (fun e => h (by simp [e]))
theorem hold_wipe {vs : List Nat} {j : Nat} (h : hold (wipeR ρ vs) j) : j ∉ vs ∧ hold ρ j := by
  obtain ⟨t, h | h⟩ := h
  · rcases wipeR_get h with ⟨_, e⟩ | ⟨h1, h2⟩
    · cases e
    · exact ⟨h1, t, .inl h2⟩
  · rcases wipeR_get h with ⟨_, e⟩ | ⟨h1, h2⟩
    · cases e
    · exact ⟨h1, t, .inr h2⟩
def wiped (ρ : Rho) (vs : List Nat) : Prop := ∀ j, hold ρ j → j ∉ vs
/-- the slots that ρ knows stand in both -/
theorem Rel.other (r : Rel K A G σ H ρ O) (hl : σ'.length = σ.length) (h : ∀ (j : Nat) (s : Sl), ρ[j]? = some s → s ≠ Sl.no → σ'[j]? = σ[j]?) : Rel K A G σ' H ρ O := by
  have hh : ∀ j, hold ρ j → σ'[j]? = σ[j]? := fun j ⟨t, e⟩ => by
    rcases e with e | e
    · exact h j _ e (by simp)
    · exact h j _ e (by simp)
  refine ⟨hl.trans r.len, fun j u e => ?_, fun j u e => ?_, fun j u e => ?_, fun j k q h1 h2 e1 e2 => ?_, r.dom, r.sub, r.isub, r.fr, r.new, r.live⟩
  · rw [h j _ e (by simp)]; exact r.val j u e
  · rw [h j _ e (by simp)]; exact r.own j u e
  · rw [h j _ e (by simp)]; exact r.io j u e
  · rw [hh j h1] at e1; rw [hh k h2] at e2; exact r.inj j k q h1 h2 e1 e2
theorem Rel.wipeS (r : Rel K A G σ H ρ O) : ∀ vs : List Nat, Rel K A G σ H (wipeR ρ vs) O
  | [] => r
  | v :: vs => (r.wipeS vs).kill
theorem Rel.wipe (r : Rel K A G σ H ρ O) (vs : List Nat) : Rel K A G (wipe σ vs) H (wipeR ρ vs) O :=
  (r.wipeS vs).other (wipe_length σ vs) fun j s e n => by
    rcases wipeR_get e with ⟨_, e⟩ | ⟨h, _⟩
    · exact absurd e n
    · exact wipe_out h
/-- what nobody holds is changed -/
theorem Rel.tmut {o : HO} (r : Rel K A G σ H ρ O) (hO : O p) (un : unheld σ ρ p) (n0 : ¬ G.O0 p) : Rel K A G σ (upd H p o) ρ O := by
  have eh := hide_upd (H := H) (o := o) hO
  have ne : ∀ j q, hold ρ j → σ[j]? = some (some (V.ref q)) → q ≠ p := fun j q hj e x => by subst x; exact un j hj e
  refine ⟨r.len, fun j u e => ?_, fun j u e => ?_, fun j u e => ?_, r.inj, fun q e => lv_upd lv_refl q (r.dom q e), r.sub, r.isub, fun q e n => ?_, r.new, fun a e => lv_upd lv_refl a (r.live a e)⟩
  · rw [eh]; exact r.val j u e
  · rw [eh]; obtain ⟨q, h1, h2, h3, h4⟩ := r.own j u e; exact ⟨q, h1, h2, h3, h4.mono (upd_ne (ne j q ⟨u, .inl e⟩ h1)) (Le.of (Same.refl _))⟩
  · rw [eh]; obtain ⟨q, h1, h2, h3, h4⟩ := r.io j u e; exact ⟨q, h1, h2, h3, h4.mono (upd_ne (ne j q ⟨u, .inr e⟩ h1)) (Le.of (Same.refl _))⟩
  · have nq : q ≠ p := fun x => by subst x; exact n0 e
    rw [upd_ne nq]; exact r.fr q e n
theorem wipe_eq {σ2 : L2.St} : ∀ {vs : List Nat}, (∀ j, j ∉ vs → σ2[j]? = σ[j]?) → σ2.length = σ.length → L2.wipe σ2 vs = L2.wipe σ vs := fun {vs} h hl => by
  apply List.ext_getElem?
  intro j
  by_cases hj : j ∈ vs
  · have key : ∀ (τ : L2.St) (ws : List Nat), j ∈ ws → (L2.wipe τ ws)[j]? = if j < τ.length then some none else none := fun τ ws => by
      induction ws with
      | nil => intro h; cases h
      | cons w ws ih =>
        intro hm
        unfold L2.wipe
        by_cases e : w = j
        · subst e
          rw [List.getElem?_set, if_pos rfl, wipe_length]
        · rw [set_ne (fun x => e x.symm)]
          exact ih ((List.mem_cons.mp hm).resolve_left fun x => e x.symm)
    rw [key _ _ hj, key _ _ hj, hl]
  · rw [wipe_out hj, wipe_out hj]; exact h j hj
/-! ### comprehensions -/
def compF (s : T → Rho → Option Rho) (tt : BF) (el : EF) (vs : List Nat) : List T → Rho → Option (List T × Rho)
  | [], ρ => some ([], ρ)
  | t :: r, ρ => (s t ρ).bind fun ρ1 => (tt ρ1).bind fun (b, ρ2) =>
    if b then (opened el ρ2).bind fun (u, ρ3) => (compF s tt el vs r (wipeR ρ3 vs)).bind fun (us, ρ4) => some (u :: us, ρ4)
    else compF s tt el vs r (wipeR ρ2 vs)
def eLc (it : IF) (s : T → Rho → Option Rho) (tt : BF) (el : EF) (vs : List Nat) : EF := fun ρ => do
  let (ts, ρ1) ← it ρ
  if ts.length < sizeLine then
    let (us, ρ2) ← compF s tt el vs ts (wipeR ρ1 vs)
    pure (.own (.lst us), ρ2)
  else none
/-- an iterator that also reads what stands at Ka, hidden and held by nobody -/
structure IterK (K : PySem.W.Frag) (A : Nat → Addr) (J : It) (ts : List T) (Iv : Hp → Oset → Prop) (Ka : Oset) : Prop where
  up : ∀ H O H' O', Iv H O → Same (hide H O) (hide H' O') → (∀ p, Ka p → O' p ∧ H' p = H p) → Iv H' O'
  go : ∀ H O i t, Iv H O → (∀ p, O p → H p ≠ none) → ts[i]? = some t → J.go i H ∧ ∀ x H', J.yld i H x H' → Same H H' ∧ Rp K A (hide H' O) x t
  stop : ∀ H O, Iv H O → J.stop ts.length H
theorem lc_at {g : TG} {tt : TT} {te : TE} {vs is : List Nat} {s : T → Rho → Option Rho} {bt : BF} {el : EF} (hg : GV K A is g s) (ht : TV K A tt bt) (he : EV K A te el) (hv : ∀ j ∈ is, j ∈ vs)
    {J : It} {ts us : List T} {Iv : Hp → Oset → Prop} {Ka : Oset} {H1 : Hp} {ρ1 ρe : Rho} {O1 : Oset} {Q : VK} (r1 : Rel K A G σ H1 ρ1 O1) (ok : IterK K A J ts Iv Ka) (iv : Iv H1 O1) (hK : ∀ p, Ka p → O1 p ∧ unheld σ ρ1 p) (hsz : ts.length < sizeLine)
    (h3 : compF s bt el vs ts (wipeR ρ1 vs) = some (us, ρe)) (q : ∀ v H' O', Post K A G σ H1 ρ1 O1 H' ρe O' → Rl K A σ H1 H' ρe O' v (.own (.lst us)) → Q v H') : LcW J g tt te vs σ H1 Q := by
    intro D hD
    obtain ⟨nO, n0, _⟩ := r1.fresh hD
    have pD : Post K A G σ H1 ρ1 O1 (upd H1 D (.lst [])) ρ1 (O1.add D) := .sameAdd r1 (same_new hD) hD (by rw [upd_same]; simp)
    have unD : unheld σ ρ1 D := r1.unh hD
    have wr : ∀ {ρ2 : Rho} (j : Nat) (s : Sl), (wipeR ρ2 vs)[j]? = some s → s ≠ Sl.no → j ∉ vs := fun j s e n => by
      rcases wipeR_get e with ⟨_, e⟩ | ⟨h, _⟩
      · exact absurd e n
      · exact h
    -- the state of a turn
    let In : Nat → Hp → Rho → Oset → Prop := fun i H2 ρ2 O2 =>
      Rel K A G (L2.wipe σ vs) H2 ρ2 O2 ∧ Same (hide H1 O1) (hide H2 O2) ∧ (∀ p, O2 p → O1 p ∨ H1 p = none) ∧ (∀ p, O1 p → unheld σ ρ1 p → O2 p ∧ H2 p = H1 p) ∧ (∀ j, hold ρ2 j → hold ρ1 j ∧ j ∉ vs) ∧ (∀ a, H1 a ≠ none → H2 a ≠ none) ∧ Iv H2 O2 ∧ O2 D ∧ (∀ (j : Nat) (s : Sl), ρ2[j]? = some s → s ≠ Sl.no → j ∉ vs)
    have out : ∀ {ρ2 : Rho} {p : Addr}, (∀ j, hold ρ2 j → hold ρ1 j ∧ j ∉ vs) → unheld σ ρ1 p → unheld (L2.wipe σ vs) ρ2 p := fun hs un j hj e => by
      obtain ⟨a, b⟩ := hs j hj
      rw [wipe_out b] at e
      exact un j a e
    refine ⟨fun i m H2 => m = ts.length - i ∧ i ≤ ts.length ∧ ∃ ρ2 O2 acc ds rest, In i H2 ρ2 O2 ∧ H2 D = some (.lst acc) ∧ RpL K A (hide H2 O2) acc ds ∧ acc.length ≤ i ∧ compF s bt el vs (ts.drop i) ρ2 = some (rest, ρe) ∧ ds ++ rest = us, ⟨ts.length, by simp, Nat.zero_le _, wipeR ρ1 vs, O1.add D, [], [], us, ⟨pD.rel.wipe vs, pD.le, pD.sub, pD.keep, fun j hj => ⟨(hold_wipe hj).2, (hold_wipe hj).1⟩, pD.lv, ok.up _ _ _ _ iv pD.le (fun p hp => pD.keep p (hK p hp).1 (hK p hp).2), .inl rfl, wr⟩, upd_same, .nil, Nat.le_refl _, h3, rfl⟩, ?_⟩
    rintro i m H2 ⟨rfl, hi2, ρ2, O2, acc, ds, rest, ⟨r2, le2, sub2, keep2, hs2, lv2, iv2, oD, wd2⟩, hD2, ra, la, hc, hr⟩
    have un2 : unheld (L2.wipe σ vs) ρ2 D := out hs2 unD
    by_cases hlt : i < ts.length
    · have hx : ts[i]? = some ts[i] := by simp [hlt]
      have hd : ts.drop i = ts[i] :: ts.drop (i + 1) := (List.drop_eq_getElem_cons hlt)
      obtain ⟨g1, g2⟩ := ok.go H2 O2 i _ iv2 r2.dom hx
      rw [hd] at hc
      simp only [compF, Option.bind_eq_some_iff] at hc
      obtain ⟨ρ3, hs3, ⟨b, ρ4⟩, ht4, hc⟩ := hc
      refine .inr ⟨g1, fun H5 => ∃ ρ2 O2 acc ds rest, In (i + 1) H5 ρ2 O2 ∧ H5 D = some (.lst acc) ∧ RpL K A (hide H5 O2) acc ds ∧ acc.length ≤ i + 1 ∧ compF s bt el vs (ts.drop (i + 1)) ρ2 = some (rest, ρe) ∧ ds ++ rest = us, fun H5 hN => ⟨ts.length - (i + 1), by omega, rfl, hlt, hN⟩, fun x H' y => ?_⟩
      obtain ⟨sm, rx⟩ := g2 x H' y
      refine hg G _ H' ρ2 O2 x _ ρ3 (r2.same sm) rx hs3 _ fun σ3 r3 k3 n3 l3 => ?_
      have hw : L2.wipe σ3 vs = L2.wipe σ vs := by
        refine (wipe_eq (fun j hj => n3 j fun x => hj (hv j x)) l3).trans ?_
        exact wipe_eq (fun j hj => wipe_out hj) (wipe_length σ vs)
      have un3 : ∀ {p : Addr}, unheld (L2.wipe σ vs) ρ2 p → unheld σ3 ρ3 p := fun h j hj e => by
        obtain ⟨a, b⟩ := k3 j hj
        rw [b] at e
        exact h j a e
      have l0 : Same (hide H2 O2) (hide H' O2) := hide_same sm
      refine ⟨hw, ht G σ3 H' ρ3 O2 r3 b ρ4 ht4 _ fun H4 O4 p4 => ?_⟩
      have keepD4 := p4.keep D oD (un3 un2)
      have hD4 : H4 D = some (.lst acc) := keepD4.2.trans (sm _ _ hD2)
      -- one more turn: the state behind
      have next : ∀ (H5 : Hp) (ρ5 : Rho) (O5 : Oset), Post K A G σ3 H' ρ3 O2 H5 ρ5 O5 → ∀ (H6 : Hp), Rel K A G σ3 H6 ρ5 O5 → hide H6 O5 = hide H5 O5 → (∀ p, p ≠ D → H6 p = H5 p) → (∀ a, H5 a ≠ none → H6 a ≠ none) → In (i + 1) H6 (wipeR ρ5 vs) O5 := fun H5 ρ5 O5 p5 H6 r6 e6 n6 v6 => by
        refine ⟨hw ▸ r6.wipe vs, ?_, fun p hp => ?_, fun p hp un => ?_, fun j hj => ?_, fun a h => v6 a (p5.lv a (lv_same sm a (lv2 a h))), ?_, (p5.keep D oD (un3 un2)).1, wr⟩
        · rw [e6]; exact le2.trans (l0.trans p5.le)
        · rcases p5.sub p hp with h | h
          · exact sub2 p h
          · exact .inr (nn_back (fun a h => lv_same sm a (lv2 a h)) h)
        · obtain ⟨a1, a2⟩ := keep2 p hp un
          have u2 : unheld (L2.wipe σ vs) ρ2 p := out hs2 un
          obtain ⟨b1, b2⟩ := p5.keep p a1 (un3 u2)
          have ne : p ≠ D := fun x => nO (x ▸ hp)
          refine ⟨b1, (n6 p ne).trans (b2.trans ?_)⟩
          rw [← a2]
          exact r2.kept sm p a1
        · obtain ⟨a1, a2⟩ := hold_wipe hj
          exact ⟨(hs2 j (k3 j (p5.hs j a2)).1).1, a1⟩
        · have : Same (hide H2 O2) (hide H6 O5) := by rw [e6]; exact l0.trans p5.le
          refine ok.up _ _ _ _ iv2 this fun p hp => ?_
          obtain ⟨a0, a0'⟩ := hK p hp
          obtain ⟨a1, a2⟩ := keep2 p a0 a0'
          obtain ⟨b1, b2⟩ := p5.keep p a1 (un3 (out hs2 a0'))
          have ne : p ≠ D := fun x => nO (x ▸ a0)
          exact ⟨b1, (n6 p ne).trans (b2.trans (r2.kept sm p a1))⟩
      cases b with
      | true =>
        rw [if_pos rfl] at hc ⊢
        simp only [Option.bind_eq_some_iff] at hc
        obtain ⟨⟨u, ρ5⟩, ho5, ⟨us5, ρ6⟩, hc6, hc7⟩ := hc
        cases hc7
        refine opened_ok he p4.rel ho5 _ fun y H5 O5 p5 ry => ?_
        have p45 := p4.trans p5
        have keepD5 := p45.keep D oD (un3 un2)
        have hD5 : H5 D = some (.lst acc) := keepD5.2.trans (sm _ _ hD2)
        have un5 : unheld σ3 ρ5 D := (un3 un2).up p45.hs
        refine ⟨acc, hD5, Nat.lt_of_le_of_lt (Nat.le_trans la hi2) hsz, wipeR ρ5 vs, O5, acc ++ [y], ds ++ [u], us5, ?_, upd_same, ?_, by simp; omega, hc6, by rw [List.append_assoc]; exact hr⟩
        · exact next H5 ρ5 O5 p45 _ (p45.rel.tmut keepD5.1 un5 n0) (hide_upd keepD5.1) (fun p h => upd_ne h) (lv_upd lv_refl)
        · rw [hide_upd keepD5.1]
          exact (ra.mono (Le.of (l0.trans p45.le))).snoc ry
      | false =>
        dsimp only at hc
        rw [if_neg Bool.false_ne_true] at hc ⊢
        exact ⟨wipeR ρ4 vs, O4, acc, ds, rest, next H4 ρ4 O4 p4 H4 p4.rel rfl (fun _ _ => rfl) (fun _ h => h), hD4, ra.mono (Le.of (l0.trans p4.le)), by omega, hc, hr⟩
    · have ei : i = ts.length := by omega
      subst ei
      refine .inl ⟨ok.stop H2 O2 iv2, ?_⟩
      rw [List.drop_length] at hc
      simp only [compF, Option.some.injEq, Prod.mk.injEq] at hc
      obtain ⟨rfl, rfl⟩ := hc
      rw [List.append_nil] at hr
      subst hr
      have pE : Post K A G σ H1 ρ1 O1 H2 ρ2 O2 := ⟨r2.other (wipe_length σ vs).symm fun j s e n => (wipe_out (wd2 j s e n)).symm, le2, sub2, keep2, fun j hj => (hs2 j hj).1, lv2⟩
      refine q _ H2 O2 pE ⟨D, rfl, hD, oD, unD.up fun j hj => (hs2 j hj).1, acc, hD2, ra⟩
theorem ev_lc {wi : TI} {g : TG} {tt : TT} {te : TE} {vs is : List Nat} {it : IF} {s : T → Rho → Option Rho} {bt : BF} {el : EF} (hi : IV K A wi it) (hg : GV K A is g s) (ht : TV K A tt bt) (he : EV K A te el) (hv : ∀ j ∈ is, j ∈ vs) : EV K A (tLc wi g tt te vs) (eLc it s bt el vs) := fun G σ H ρ O r o ρf e Q q => by
  simp only [eLc, Option.bind_eq_bind, Option.bind_eq_some_iff] at e
  obtain ⟨⟨ts, ρ1⟩, h1, h2⟩ := e
  dsimp only at h2
  split at h2
  · rename_i hsz
    simp only [Option.bind_eq_some_iff] at h2
    obtain ⟨⟨us, ρe⟩, h3, h4⟩ := h2
    simp only [Option.some.injEq, Prod.mk.injEq, Option.pure_def] at h4
    obtain ⟨rfl, h4⟩ := h4
    subst h4
    refine hi G σ H ρ O r ts ρ1 h1 _ fun J H1 O1 Iv p1 ok iv => ?_
    exact lc_at hg ht he hv p1.rel (Ka := fun _ => False) ⟨fun H O H' O' a b _ => ok.up H O H' O' a b, ok.go, ok.stop⟩ iv (fun p hp => hp.elim) hsz h3 fun v H' O' p2 r2 => q v H' O' (p1.trans p2) (r2.back p1.lv)
  · cases h2
end
end QT

set_option Elab.async false
set_option linter.all false
set_option maxRecDepth 100000
set_option maxHeartbeats 4000000
namespace QT
open PySem PySem.Spec PyProof.Rows L2 QB
/-! ### promises of defs -/
def ioA (vs : List V) (as : List Sl) : Oset := fun p => ∃ (i : Nat) (t : T), as[i]? = some (Sl.io t) ∧ vs[i]? = some (V.ref p)
structure Args (K : PySem.W.Frag) (A : Nat → Addr) (vs : List V) (H : Hp) (as : List Sl) (O : Oset) : Prop where
  len : vs.length = as.length
  val : ∀ (i : Nat) (t : T), as[i]? = some (Sl.val t) → ∃ v, vs[i]? = some v ∧ Rp K A (hide H O) v t
  io : ∀ (i : Nat) (t : T), as[i]? = some (Sl.io t) → ∃ p, vs[i]? = some (V.ref p) ∧ O p ∧ Own1 K A H (hide H O) p t
  only : ∀ (i : Nat) (t : T), as[i]? ≠ some (Sl.own t)
  inj : ∀ (i j : Nat) (t u : T) (p : Addr), as[i]? = some (Sl.io t) → as[j]? = some (Sl.io u) → vs[i]? = some (V.ref p) → vs[j]? = some (V.ref p) → i = j
  dom : ∀ p, O p → H p ≠ none
structure BackX (K : PySem.W.Frag) (A : Nat → Addr) (vs : List V) (H : Hp) (as : List Sl) (O : Oset) (v : V) (H' : Hp) (o : Opd) (as' : List Sl) (Ox : Oset) : Prop where
  up : ∀ p, O p → Ox p
  sub : ∀ p, Ox p → O p ∨ H p = none
  dom : ∀ p, Ox p → H' p ≠ none
  le : Same (hide H O) (hide H' Ox)
  kp : ∀ p, O p → ¬ ioA vs as p → H' p = H p
  lv : ∀ a, H a ≠ none → H' a ≠ none
  io : ∀ (i : Nat) (t : T), as'[i]? = some (Sl.io t) → ∃ p, vs[i]? = some (V.ref p) ∧ Own1 K A H' (hide H' Ox) p t
  res : RetR K A H H' Ox v o
abbrev FF := List Sl → Option (Opd × List Sl)
def spF (K : PySem.W.Frag) (A : Nat → Addr) (F : FF) : Sp := fun vs H Q _ => ∃ as O o as', Args K A vs H as O ∧ F as = some (o, as') ∧ ∀ v H' Ox, BackX K A vs H as O v H' o as' Ox → Q v H'
def runF (k n : Nat) (B : SF) : FF := fun as => if as.length = k then (match B (as ++ List.replicate (n - k) .no) with
  | .rt o ρ => some (o, ρ)
  | .nx ρ => some (.val .non, ρ)
  | _ => none) else none
theorem spF_len {K : PySem.W.Frag} {A : Nat → Addr} {k n : Nat} {B : SF} {vs : List V} {H : Hp} {Q : VK} {E : XK} (h : spF K A (runF k n B) vs H Q E) : vs.length = k := by
  obtain ⟨as, O, o, as', ha, hF, _⟩ := h
  unfold runF at hF
  split at hF
  · rename_i e; rw [ha.len, e]
  · cases hF
section
variable {K : PySem.W.Frag} {A : Nat → Addr} {G : Fx} {σ σ' : L2.St} {H H' H2 : Hp} {ρ ρ' ρ2 : Rho} {O O' O2 : Oset} {i : Nat} {p : Addr} {t t' : T} {v : V} {x : Opd}
theorem ap_get {α : Type} {l r : List α} {i : Nat} {s : α} (h : (l ++ r)[i]? = some s) : l[i]? = some s ∨ (s ∈ r ∧ l.length ≤ i) := by
  by_cases e : i < l.length
  · rw [List.getElem?_append_left e] at h; exact .inl h
  · rw [List.getElem?_append_right (by omega)] at h
    exact .inr ⟨List.mem_of_getElem? h, by omega⟩
theorem ap_get1 {l r : List Sl} {n : Nat} {s : Sl} (h : (l ++ List.replicate n .no)[i]? = some s) (hs : s ≠ .no) : l[i]? = some s := by
  rcases ap_get h with h | ⟨h, _⟩
  · exact h
  · exact absurd (List.eq_of_mem_replicate h) hs
theorem start_get {N : List Str} {vs : List V} {w : V} : (L2.start N vs)[i]? = some (some w) ↔ vs[i]? = some w := by
  unfold L2.start
  constructor
  · intro h
    rcases ap_get h with h | ⟨h, _⟩
    · rw [List.getElem?_map] at h
      cases e : vs[i]? with
      | none => rw [e] at h; cases h
      | some u => rw [e] at h; cases h; rfl
    · cases List.eq_of_mem_replicate h
  · intro h
    have lt : i < vs.length := (List.getElem?_eq_some_iff.mp h).1
    rw [List.getElem?_append_left (by rw [List.length_map]; exact lt), List.getElem?_map, h]; rfl
/-- a body's reading, and its promise -/
theorem fn_run {N : List Str} {ts : TS} {B : SF} {vs : List V} {Q : VK} {E : XK} {k : Nat} (hB : SV K A ts B) (h : spF K A (runF k N.length B) vs H Q E) : ts { nx := fun _ H' => Q .non H', rt := Q } (L2.start N vs) H := by
  obtain ⟨as, O, o, as', ha, hF, q⟩ := h
  unfold runF at hF
  split at hF
  case isFalse => cases hF
  rename_i hk
  subst hk
  let G : Fx := ⟨H, O, ioA vs as, L2.start N vs⟩
  have isub : ∀ p, ioA vs as p → O p := fun p ⟨i, t, h1, h2⟩ => by
    obtain ⟨q', h3, h4, _⟩ := ha.io i t h1
    rw [h2] at h3; cases h3; exact h4
  have r : Rel K A G (L2.start N vs) H (as ++ List.replicate (N.length - as.length) .no) O := by
    refine ⟨?_, fun i t e => ?_, fun i t e => ?_, fun i t e => ?_, fun i j p h1 h2 e1 e2 => ?_, ha.dom, fun p e => e, isub, fun p _ _ => rfl, fun p e n => absurd e n, fun a e => e⟩
    · simp only [L2.start, List.length_append, List.length_map, List.length_replicate, ha.len]
    · obtain ⟨v, h1, h2⟩ := ha.val i t (ap_get1 (r := []) e (by simp))
      exact ⟨v, start_get.mpr h1, h2⟩
    · exact absurd (ap_get1 (r := []) e (by simp)) (ha.only i t)
    · have e' := ap_get1 (r := []) e (by simp)
      obtain ⟨p, h1, h2, h3⟩ := ha.io i t e'
      exact ⟨p, start_get.mpr h1, ⟨i, t, e', h1⟩, start_get.mpr h1, h3⟩
    · have f : ∀ j, hold (as ++ List.replicate (N.length - as.length) .no) j → ∃ t, as[j]? = some (Sl.io t) := fun j ⟨t, hj⟩ => by
        rcases hj with hj | hj
        · exact absurd (ap_get1 (r := []) hj (by simp)) (ha.only j t)
        · exact ⟨t, ap_get1 (r := []) hj (by simp)⟩
      obtain ⟨t1, a1⟩ := f i h1
      obtain ⟨t2, a2⟩ := f j h2
      exact ha.inj i j t1 t2 p a1 a2 (start_get.mp e1) (start_get.mp e2)
  have fin : ∀ (σ' : L2.St) (H' : Hp) (ρ' : Rho) (O' : Oset) (v : V) (o : Opd), Stp K A G H O σ' H' ρ' O' → RetR K A H H' O' v o → BackX K A vs H as O v H' o ρ' O' := fun σ' H' ρ' O' v o st rr =>
    ⟨st.rel.sub, fun p hp => by
      by_cases e : O p
      · exact .inl e
      · exact .inr (st.rel.new p hp e), st.rel.dom, st.le, fun p hp n => st.rel.fr p hp n, st.lv, fun i t e => by
      obtain ⟨p, h1, h2, h3, h4⟩ := st.rel.io i t e
      exact ⟨p, start_get.mp h3, h4⟩, rr⟩
  refine hB G _ H _ O _ r ?_
  cases hb : B (as ++ List.replicate (N.length - as.length) .no) with
  | fail => rw [hb] at hF; cases hF
  | bk ρ1 => rw [hb] at hF; cases hF
  | ct ρ1 => rw [hb] at hF; cases hF
  | nx ρ1 =>
    rw [hb] at hF; cases hF
    exact fun σ' H' O' st => q _ _ O' (fin σ' H' _ O' .non (.val .non) st .non)
  | rt x ρ1 =>
    rw [hb] at hF; cases hF
    exact fun v σ' H' O' st rr => q _ _ O' (fin σ' H' _ O' v _ st rr)
theorem RetR.rl {y : Opd} {Ox : Oset} (r : Rel K A G σ H ρ O) (hs : ∀ j, hold ρ' j → hold ρ j) (h : RetR K A H H' Ox v y) : Rl K A σ H H' ρ' Ox v y := by
  cases y with
  | val t => exact h
  | slot i => exact h.elim
  | own t => obtain ⟨p, e, h1, h2, h3⟩ := h; exact ⟨p, e, h1, h2, (r.unh h1).up hs, h3⟩
  | ot xs =>
    obtain ⟨p, vs, e, hn, hp, hc, nd⟩ := h
    refine ⟨p, vs, e, hn, hp, paired_map (fun a b z => ?_) hc, nd⟩
    obtain ⟨b, u⟩ := b
    cases b with
    | false => exact z
    | true => obtain ⟨q, eq, h1, h2, h3⟩ := z; exact ⟨q, eq, h1, h2, (r.unh h1).up hs, h3⟩
/-- behind a call to which nothing was lent -/
theorem Rel.called {Ox : Oset} (r : Rel K A G σ H ρ O) (up : ∀ p, O p → Ox p) (sub : ∀ p, Ox p → O p ∨ H p = none) (dom : ∀ p, Ox p → H' p ≠ none) (le : Same (hide H O) (hide H' Ox)) (kp : ∀ p, O p → H' p = H p) (lv : ∀ a, H a ≠ none → H' a ≠ none) : Rel K A G σ H' ρ Ox := by
  refine ⟨r.len, fun j u e => ?_, fun j u e => ?_, fun j u e => ?_, r.inj, dom, fun p e => up p (r.sub p e), r.isub, fun p e n => (kp p (r.sub p e)).trans (r.fr p e n), fun p e n => ?_, fun a e => lv a (r.live a e)⟩
  · obtain ⟨w, h1, h2⟩ := r.val j u e; exact ⟨w, h1, h2.mono (Le.of le)⟩
  · obtain ⟨q, h1, h2, h3, h4⟩ := r.own j u e; exact ⟨q, h1, up q h2, h3, h4.mono (kp q h2) (Le.of le)⟩
  · obtain ⟨q, h1, h2, h3, h4⟩ := r.io j u e; exact ⟨q, h1, h2, h3, h4.mono (kp q (r.sub q (r.isub q h2))) (Le.of le)⟩
  · rcases sub p e with h | h
    · exact r.new p h n
    · exact (r.fresh h).2.2
/-- .. to which slot i was lent -/
theorem Rel.lent {Ox : Oset} {s : Sl} (r : Rel K A G σ H ρ O) (hs : ρ[i]? = some s) (hh : s = .own t ∨ s = .io t) (hi : σ[i]? = some (some (V.ref p))) (up : ∀ p, O p → Ox p) (sub : ∀ p, Ox p → O p ∨ H p = none) (dom : ∀ p, Ox p → H' p ≠ none) (le : Same (hide H O) (hide H' Ox)) (kp : ∀ q, O q → q ≠ p → H' q = H q) (lv : ∀ a, H a ≠ none → H' a ≠ none) (hw : Own1 K A H' (hide H' Ox) p t') : Rel K A G σ H' (ρ.set i (s.with t')) Ox := by
  have hol : hold ρ i := ⟨t, by rcases hh with rfl | rfl; exact .inl hs; exact .inr hs⟩
  have hol' : ∀ j, hold (ρ.set i (s.with t')) j → hold ρ j := fun j h => by
    rcases hold_set h with ⟨rfl, _⟩ | ⟨_, h⟩
    · exact hol
    · exact h
  have ne : ∀ j q, j ≠ i → hold ρ j → σ[j]? = some (some (V.ref q)) → q ≠ p := fun j q n hj e x => by subst x; exact n (r.inj j i q hj hol e hi)
  refine ⟨by rw [List.length_set]; exact r.len, fun j u e => ?_, fun j u e => ?_, fun j u e => ?_, fun j k q h1 h2 => r.inj j k q (hol' j h1) (hol' k h2), dom, fun p e => up p (r.sub p e), r.isub, fun q e n => ?_, fun p e n => ?_, fun a e => lv a (r.live a e)⟩
  · rcases set_get e with ⟨rfl, e'⟩ | ⟨_, e⟩
    · rcases hh with rfl | rfl <;> cases e'
    · obtain ⟨w, h1, h2⟩ := r.val j u e; exact ⟨w, h1, h2.mono (Le.of le)⟩
  · rcases set_get e with ⟨rfl, e'⟩ | ⟨n, e⟩
    · rcases hh with rfl | rfl <;> cases e'
      obtain ⟨q, h1, h2, h3, _⟩ := r.own j t hs
      rw [hi] at h1; cases h1
      exact ⟨p, hi, up p h2, h3, hw⟩
    · obtain ⟨q, h1, h2, h3, h4⟩ := r.own j u e
      exact ⟨q, h1, up q h2, h3, h4.mono (kp q h2 (ne j q n ⟨u, .inl e⟩ h1)) (Le.of le)⟩
  · rcases set_get e with ⟨rfl, e'⟩ | ⟨n, e⟩
    · rcases hh with rfl | rfl <;> cases e'
      obtain ⟨q, h1, h2, h3, _⟩ := r.io j t hs
      rw [hi] at h1; cases h1
      exact ⟨p, hi, h2, h3, hw⟩
    · obtain ⟨q, h1, h2, h3, h4⟩ := r.io j u e
      exact ⟨q, h1, h2, h3, h4.mono (kp q (r.sub q (r.isub q h2)) (ne j q n ⟨u, .inr e⟩ h1)) (Le.of le)⟩
  · have nq : q ≠ p := fun x => by
      subst x
      rcases hh with rfl | rfl
      · obtain ⟨q', h1, _, h3, _⟩ := r.own i t hs
        rw [hi] at h1; cases h1
        exact h3 e
      · obtain ⟨q', h1, h2, _⟩ := r.io i t hs
        rw [hi] at h1; cases h1
        exact n h2
    exact (kp q (r.sub q e) nq).trans (r.fr q e n)
  · rcases sub p e with h | h
    · exact r.new p h n
    · exact (r.fresh h).2.2
theorem vals_get {vs : List V} {ts : List T} (h : RpL K A H vs ts) : ∀ (i : Nat) (t : T), (ts.map Sl.val)[i]? = some (Sl.val t) → ∃ v, vs[i]? = some v ∧ Rp K A H v t := fun i t e => by
  rw [List.getElem?_map] at e
  cases h2 : ts[i]? with
  | none => rw [h2] at e; cases e
  | some u => rw [h2] at e; cases e; exact h.get h2
theorem no_io {ts : List T} {t : T} : (ts.map Sl.val)[i]? ≠ some (Sl.io t) := fun e => by
  rw [List.getElem?_map] at e
  cases h2 : ts[i]? with
  | none => rw [h2] at e; cases e
  | some u => rw [h2] at e; cases e
theorem no_own {ts : List T} {t : T} : (ts.map Sl.val)[i]? ≠ some (Sl.own t) := fun e => by
  rw [List.getElem?_map] at e
  cases h2 : ts[i]? with
  | none => rw [h2] at e; cases e
  | some u => rw [h2] at e; cases e
theorem args_vals {vs : List V} {ts : List T} (h : RpL K A (hide H O) vs ts) (d : ∀ p, O p → H p ≠ none) : Args K A vs H (ts.map Sl.val) O :=
  ⟨by rw [List.length_map]; exact h.len, vals_get h, fun i t e => absurd e no_io, fun i t => no_own, fun i j t u p e => absurd e no_io, d⟩
theorem args_io {vs : List V} {ts : List T} (h : RpL K A (hide H O) vs ts) (d : ∀ p, O p → H p ≠ none) (hO : O p) (hw : Own1 K A H (hide H O) p t) : Args K A (.ref p :: vs) H (.io t :: ts.map Sl.val) O :=
  ⟨by simp [h.len], fun i u e => (match i, e with | i + 1, e => vals_get h i u e), fun i u e => (match i, e with | 0, e => by cases e; exact ⟨p, rfl, hO, hw⟩ | i + 1, e => absurd e no_io), fun i u e => (match i, e with | i + 1, e => no_own e), fun i j u w q e1 e2 _ _ => (match i, j, e1, e2 with | 0, 0, _, _ => rfl | i + 1, _, e1, _ => absurd e1 no_io | 0, j + 1, _, e2 => absurd e2 no_io), d⟩
theorem ioA_vals {vs : List V} {ts : List T} : ¬ ioA vs (ts.map Sl.val) p := fun ⟨i, t, e, _⟩ => no_io e
theorem ioA_io {vs : List V} {ts : List T} {q : Addr} (h : ioA (.ref p :: vs) (.io t :: ts.map Sl.val) q) : q = p := by
  obtain ⟨i, u, e, h⟩ := h
  match i, e, h with
  | 0, e, h => cases h; rfl
  | i + 1, e, h => exact absurd e no_io
/-- f(e, ..), all values -/
def eCall (F : FF) (a : AF) : EF := fun ρ => do
  let (os, ρ1) ← a ρ
  let (ts, ρ2) ← shareL os ρ1
  let (o, _) ← F (ts.map Sl.val)
  pure (o, ρ2)
theorem ev_call {F : FF} {tl : TA} {a : AF} {E : XK} (ha : AV K A tl a) : EV K A (tCall (spF K A F) [] E tl) (eCall F a) := fun G σ H ρ O r o ρ' e Q q => by
  simp only [eCall, Option.bind_eq_bind, Option.bind_eq_some_iff] at e
  obtain ⟨⟨os, ρ1⟩, h1, ⟨ts, ρ2⟩, h2, ⟨o', as'⟩, h3, h4⟩ := e
  cases h4
  refine ha G σ H ρ O r os ρ1 h1 _ fun vs H1 O0 p0 s0 nd => ?_
  obtain ⟨O1, p1, s1⟩ := release r p0 s0
  obtain ⟨O2, p2, r2⟩ := shareL_ok p1.rel s1 (by rw [shareL_fz]; exact h2)
  have p12 := p1.trans p2
  rw [List.append_nil]
  refine ⟨_, O2, _, _, args_vals r2 p12.rel.dom, h3, fun v H' Ox bk => ?_⟩
  have kp : ∀ p, O2 p → H' p = H1 p := fun p hp => bk.kp p hp ioA_vals
  have p3 : Post K A G σ H1 _ O2 H' _ Ox := ⟨p12.rel.called bk.up bk.sub bk.dom bk.le kp bk.lv, bk.le, bk.sub, fun p hp _ => ⟨bk.up p hp, kp p hp⟩, fun _ h => h, bk.lv⟩
  exact q v H' Ox (p12.trans p3) ((bk.res.rl p12.rel fun _ h => h).back p12.lv)
/-- f(x, e, ..), x a slot that is lent -/
def Sl.held : Sl → Option T
  | .own t => some t
  | .io t => some t
  | _ => none
def eCallIO (F : FF) (i : Nat) (a : AF) : EF := fun ρ => do
  let s0 ← ρ[i]?
  let _ ← s0.held
  let (os, ρ1) ← a ρ
  let (ts, ρ2) ← shareL os ρ1
  let s ← ρ2[i]?
  let t ← s.held
  let (o, as') ← F (Sl.io t :: ts.map Sl.val)
  let s1 ← as'[0]?
  match s1 with
  | Sl.io t' => pure (o, ρ2.set i (s.with t'))
  | _ => none
theorem held_or {s : Sl} (h : s.held = some t) : s = .own t ∨ s = .io t := by
  cases s <;> simp [Sl.held] at h <;> subst h
  · exact .inl rfl
  · exact .inr rfl
theorem ev_callIO {F : FF} {tl : TA} {a : AF} {E : XK} (ha : AV K A tl a) : EV K A (tCall (spF K A F) [] E (tCons (tVar i) tl)) (eCallIO F i a) := fun G σ H ρ O r o ρ' e Q q => by
  simp only [eCallIO, Option.bind_eq_bind, Option.bind_eq_some_iff] at e
  obtain ⟨s0, hs0, t0, ht0, ⟨os, ρ1⟩, h1, ⟨ts, ρ2⟩, h2, s, h3, t, h4, ⟨o', as'⟩, h5, s1, h7, h6⟩ := e
  dsimp only at h3 h5 h6 h7
  have hh := held_or h4
  have hol2 : hold ρ2 i := ⟨t, by rcases hh with rfl | rfl; exact .inl h3; exact .inr h3⟩
  -- the slot's value
  have key : ∀ v, σ[i]? = some (some v) → tl σ H fun vs H1 => spF K A F (v :: vs ++ []) H1 Q E := fun v hv => by
    refine ha G σ H ρ O r os ρ1 h1 _ fun vs H1 O0 p0 s0 nd => ?_
    obtain ⟨O1, p1, s1⟩ := release r p0 s0
    obtain ⟨O2, p2, r2⟩ := shareL_ok p1.rel s1 (by rw [shareL_fz]; exact h2)
    have p12 := p1.trans p2
    rw [List.append_nil]
    obtain ⟨p, t2, hp1, hp2, hp3, hp4⟩ := p12.rel.held hol2
    rw [hv] at hp1; cases hp1
    have et : t2 = t := by rw [h3] at hp4; rcases hh with rfl | rfl <;> rcases hp4 with hp4 | hp4 <;> cases hp4 <;> rfl
    subst et
    refine ⟨_, O2, _, _, args_io r2 p12.rel.dom hp2 hp3, h5, fun w H' Ox bk => ?_⟩
    split at h6
    · rename_i t'
      cases h6
      obtain ⟨q', hq, hw⟩ := bk.io 0 t' h7
      cases hq
      have kp : ∀ q, O2 q → q ≠ p → H' q = H1 q := fun q hq n => bk.kp q hq fun x => n (ioA_io x)
      have hs' : ∀ j, hold (ρ2.set i (s.with t')) j → hold ρ2 j := fun j hj => by
        rcases hold_set hj with ⟨rfl, _⟩ | ⟨_, hj⟩
        · exact hol2
        · exact hj
      have p3 : Post K A G σ H1 ρ2 O2 H' (ρ2.set i (s.with t')) Ox := ⟨p12.rel.lent h3 hh hv bk.up bk.sub bk.dom bk.le kp bk.lv hw, bk.le, bk.sub, fun q hq un => ⟨bk.up q hq, kp q hq fun x => by subst x; exact un i hol2 hv⟩, hs', bk.lv⟩
      exact q w H' Ox (p12.trans p3) ((bk.res.rl p12.rel hs').back p12.lv)
    · cases h6
  obtain ⟨p0, _, hp0, _⟩ := r.held (i := i) ⟨t0, by rcases held_or ht0 with rfl | rfl; exact .inl hs0; exact .inr hs0⟩
  exact ⟨_, hp0, key _ hp0⟩
end
end QT

set_option Elab.async false
set_option linter.all false
set_option maxRecDepth 100000
set_option maxHeartbeats 4000000
namespace QT
open PySem PySem.Spec PyProof.Rows L2 QB
section
variable {K : PySem.W.Frag} {A : Nat → Addr} {G : Fx} {σ σ' : L2.St} {H H' H2 : Hp} {ρ ρ' ρ2 : Rho} {O O' O2 : Oset} {i : Nat} {p : Addr} {t t' : T} {v : V} {x : Opd}
/-! ### C(e, ..) by an __init__ -/
def eMake (c : Nat) (F : FF) (ds : List T) (a : AF) : EF := fun ρ => do
  let (os, ρ1) ← a ρ
  let (ts, ρ2) ← shareL os ρ1
  let (o, as') ← F (Sl.io (.obj c []) :: (ts ++ ds).map Sl.val)
  let s1 ← as'[0]?
  match o, s1 with
  | .val .non, Sl.io t' => pure (.own t', ρ2)
  | _, _ => none
theorem ev_make {c : Nat} {F : FF} {tl : TA} {a : AF} {E : XK} {dvs : List V} {ds : List T} (ha : AV K A tl a) (hd : ∀ H, RpL K A H dvs ds) : EV K A (tMake (A c) (spF K A F) dvs E tl) (eMake c F ds a) := fun G σ H ρ O r o ρ' e Q q => by
  simp only [eMake, Option.bind_eq_bind, Option.bind_eq_some_iff] at e
  obtain ⟨⟨os, ρ1⟩, h1, ⟨ts, ρ2⟩, h2, ⟨o', as'⟩, h3, s1, h4, h5⟩ := e
  dsimp only at h3 h4 h5
  refine ha G σ H ρ O r os ρ1 h1 _ fun vs H1 O0 p0 s0 nd => ?_
  obtain ⟨O1, p1, s1'⟩ := release r p0 s0
  obtain ⟨O2, p2, r2⟩ := shareL_ok p1.rel s1' (by rw [shareL_fz]; exact h2)
  have p12 := p1.trans p2
  intro x dx hx hdx hne
  have sm : Same H1 (upd (upd H1 dx (.own x)) x (.ins (A c) dx [])) := fun b u eb => by
    rw [upd_ne (ne_of_none eb hx), upd_ne (ne_of_none eb hdx)]; exact eb
  have rn : Rel K A G σ (upd (upd H1 dx (.own x)) x (.ins (A c) dx [])) ρ2 (O2.add x) := p12.rel.sameAdd sm hx (by rw [upd_same]; simp)
  split at h5
  · rename_i t'
    cases h5
    refine ⟨_, O2.add x, _, _, args_io (t := .obj c []) ((r2.mono (Le.of (hide_sameAdd sm hx))).app (hd _)) rn.dom (.inl rfl) ⟨dx, [], upd_same, .nil⟩, h3, fun w H' Ox bk => ?_⟩
    have hw : w = .non := by cases bk.res; rfl
    refine ⟨hw, ?_⟩
    obtain ⟨q', hq, hwn⟩ := bk.io 0 t' h4
    cases hq
    have sub : ∀ p, Ox p → O2 p ∨ H1 p = none := fun p hp => by
      rcases bk.sub p hp with (rfl | h) | h
      · exact .inr hx
      · exact .inl h
      · exact .inr (nn_back (lv_same sm) h)
    have kp : ∀ p, O2 p → H' p = H1 p := fun p hp => by
      have ne : p ≠ x := fun z => by subst z; exact p12.rel.dom p hp hx
      rw [bk.kp p (.inr hp) (fun z => ne (ioA_io z))]
      exact p12.rel.kept sm p hp
    have lv : ∀ a, H1 a ≠ none → H' a ≠ none := fun a h => bk.lv a (lv_same sm a h)
    have le : Same (hide H1 O2) (hide H' Ox) := (hide_sameAdd sm hx).trans bk.le
    have p3 : Post K A G σ H1 ρ' O2 H' ρ' Ox := ⟨p12.rel.called (fun p h => bk.up p (.inr h)) sub bk.dom le kp lv, le, sub, fun p hp _ => ⟨bk.up p (.inr hp), kp p hp⟩, fun _ h => h, lv⟩
    exact q _ H' Ox (p12.trans p3) ⟨x, rfl, nn_back p12.lv hx, bk.up x (.inl rfl), p12.rel.unh hx, hwn⟩
  · cases h5
/-! ### fields -/
def rFld (K : PySem.W.Frag) (f : Str) : V → Hp → VK → Prop := fun x H1 Q => ∃ a C dx fs v, x = .ref a ∧ H1 a = some (.ins C dx fs) ∧ Cls K C ∧ NoAttr K C f ∧ fs.lookup f = some v ∧ Q v H1
def fFld (f : Str) : List T → Option Opd
  | [.obj _ fs] => (fs.lookup f).map .val
  | _ => none
theorem b_fld {f : Str} (hc : ∀ c, Cls K (A c) ∧ NoAttr K (A c) f) : B1 K A (rFld K f) (fFld f) := fun H O vs ts o d tp e Q q => by
  match ts, e with
  | [.obj c fs], e =>
    simp only [fFld, Option.map_eq_some_iff] at e
    obtain ⟨u, h1, rfl⟩ := e
    match vs, tp with
    | [v], .cons a .nil =>
      obtain ⟨p, dx, ws, rfl, h2, h3⟩ := a.obj
      obtain ⟨w, h4, h5⟩ := h3.look h1
      exact ⟨p, _, dx, ws, w, rfl, h2, (hc c).1, (hc c).2, h4, q w H (Same.refl _) h5⟩
def eFld (f : Str) (e : EF) : EF := eB (fFld f) (aC e aN)
theorem ev_fld {ta : TE} {e : EF} {f : Str} (he : EV K A ta e) (hc : ∀ c, Cls K (A c) ∧ NoAttr K (A c) f) : EV K A (tFld K ta f) (eFld f e) := ev_un he (b_fld hc)
theorem RpF.putF {f : Str} (hv : Rp K A H v t) : ∀ {vs : List (Str × V)} {ts : List (Str × T)}, RpF K A H vs ts → RpF K A H (L2.putF f v vs) (putT f t ts)
  | _, _, .nil => .cons hv .nil
  | _, _, .cons (k := k) a b => by
    unfold L2.putF putT
    split
    · exact .cons hv b
    · exact .cons a (RpF.putF hv b)
/-- x.f = e, x a slot -/
def sSetF (i : Nat) (f : Str) (e : EF) : SF := fun ρ => match opened e ρ with
  | some (t, ρ1) => (match ρ1[i]? with
    | some s => (match s.held with
      | some (.obj c fs) => if fs.length < 1000 then .nx (ρ1.set i (s.with (.obj c (putT f t fs)))) else .fail
      | _ => .fail)
    | none => .fail)
  | none => .fail
theorem sv_fld {tv : TE} {e : EF} {f : Str} (he : EV K A tv e) (hc : ∀ c, Cls K (A c) ∧ NoAttr K (A c) f) : SV K A (sFld K (tVar i) tv f) (sSetF i f e) := fun G σ H ρ O D r e2 => by
  unfold sSetF at e2
  split at e2
  · rename_i t ρ1 h1
    split at e2
    · rename_i s h2
      split at e2
      · rename_i c fs h3
        split at e2
        · rename_i h4
          have hh := held_or h3
          refine opened_ok he r h1 _ fun v H1 O1 p1 rv => ?_
          obtain ⟨p, t2, hp1, hp2, hp3, hp4⟩ := p1.rel.held (i := i) ⟨_, by rcases hh with rfl | rfl; exact .inl h2; exact .inr h2⟩
          have et : t2 = .obj c fs := by rw [h2] at hp4; rcases hh with rfl | rfl <;> rcases hp4 with hp4 | hp4 <;> cases hp4 <;> rfl
          subst et
          obtain ⟨dx, ws, hw1, hw2⟩ := hp3
          refine ⟨_, hp1, p, _, dx, ws, rfl, hw1, (hc c).1, (hc c).2, by rw [hw2.len]; exact h4, ?_⟩
          have rm := p1.rel.mut (o := .ins (A c) dx (L2.putF f v ws)) (t' := .obj c (putT f t fs)) h2 hh hp1 ⟨dx, _, upd_same, hw2.putF rv⟩
          exact e2 σ _ O1 ⟨rm, by rw [hide_upd hp2]; exact p1.le, lv_upd p1.lv⟩
        · exact e2.elim
      · exact e2.elim
    · exact e2.elim
  · exact e2.elim
/-! ### methods that change a slot's thing -/
def Mv (K : PySem.W.Frag) (A : Nat → Addr) (r : V → List V → Hp → VK → Prop) (g : T → List T → Option (T × T)) : Prop := ∀ (H : Hp) (O : Oset) (p : Addr) (t : T) (vs : List V) (ts : List T) (t' u : T), Own1 K A H (hide H O) p t → RpL K A (hide H O) vs ts → g t ts = some (t', u) → ∀ Q : VK, (∀ v ob, Own1 K A (upd H p ob) (hide H O) p t' → Rp K A (hide H O) v u → Q v (upd H p ob)) → r (.ref p) vs H Q
def tyT (T' : String) : T → Bool
  | .lst _ => T' == "list"
  | .dct _ => T' == "dict"
  | _ => false
def eMut (T' : String) (g : T → List T → Option (T × T)) (i : Nat) (a : AF) : EF := fun ρ => do
  let s0 ← ρ[i]?
  let t0 ← s0.held
  if tyT T' t0 then
    let (os, ρ1) ← a ρ
    let (ts, ρ2) ← shareL os ρ1
    let s ← ρ2[i]?
    let t ← s.held
    let (t', u) ← g t ts
    pure (.val u, ρ2.set i (s.with t'))
  else none
theorem tyT_ok {T' : String} (h : tyT T' t = true) (hw : Own1 K A H H' p t) : tyV K T' (.ref p) H := by
  cases t <;> simp [tyT] at h <;> subst h
  · obtain ⟨vs, hv, _⟩ := hw; exact .inl ⟨rfl, vs, SqL.of hv⟩
  · obtain ⟨vs, hv, _⟩ := hw; exact .inr (.inr (.inl ⟨rfl, .inl ⟨vs, hv⟩⟩))
theorem held_at {s : Sl} (r : Rel K A G σ H ρ O) (hs : ρ[i]? = some s) (ht : s.held = some t) : hold ρ i ∧ ∃ p, σ[i]? = some (some (V.ref p)) ∧ O p ∧ Own1 K A H (hide H O) p t := by
  have hh := held_or ht
  have hol : hold ρ i := ⟨_, by rcases hh with rfl | rfl; exact .inl hs; exact .inr hs⟩
  refine ⟨hol, ?_⟩
  obtain ⟨p, t2, hp1, hp2, hp3, hp4⟩ := r.held hol
  have et : t2 = t := by rw [hs] at hp4; rcases hh with rfl | rfl <;> rcases hp4 with hp4 | hp4 <;> cases hp4 <;> rfl
  subst et
  exact ⟨p, hp1, hp2, hp3⟩
theorem ev_mut {T' : String} {r : V → List V → Hp → VK → Prop} {g : T → List T → Option (T × T)} {tl : TA} {a : AF} (ha : AV K A tl a) (hm : Mv K A r g) : EV K A (tBM K T' r (tVar i) tl) (eMut T' g i a) := fun G σ H ρ O rl o ρ' e Q q => by
  simp only [eMut, Option.bind_eq_bind, Option.bind_eq_some_iff] at e
  obtain ⟨s0, hs0, t0, ht0, e⟩ := e
  split at e
  · rename_i hty
    simp only [Option.bind_eq_some_iff] at e
    obtain ⟨⟨os, ρ1⟩, h1, ⟨ts, ρ2⟩, h2, s, h3, t, h4, ⟨t', u⟩, h5, h6⟩ := e
    dsimp only at h3 h5 h6
    cases h6
    obtain ⟨_, p0, hp0, _, hw0⟩ := held_at rl hs0 ht0
    refine ⟨_, hp0, tyT_ok hty hw0, ha G σ H ρ O rl os ρ1 h1 _ fun vs H1 O0 q0 s0' nd => ?_⟩
    obtain ⟨O1, p1, s1⟩ := release rl q0 s0'
    obtain ⟨O2, p2, r2⟩ := shareL_ok p1.rel s1 (by rw [shareL_fz]; exact h2)
    have p12 := p1.trans p2
    obtain ⟨hol2, p, hp, hO, hw⟩ := held_at p12.rel h3 h4
    rw [hp0] at hp; cases hp
    refine hm H1 O2 p0 t vs ts t' u hw r2 h5 _ fun v ob ho hv => ?_
    have rm := p12.rel.mut (o := ob) h3 (held_or h4) hp0 ho
    have eh := hide_upd (H := H1) (o := ob) hO
    have p3 : Post K A G σ H1 ρ2 O2 (upd H1 p0 ob) (ρ2.set i (s.with t')) O2 := ⟨rm, by rw [eh]; exact Same.refl _, fun _ e => .inl e, fun q' hq un => ⟨hq, upd_ne fun z => un i hol2 (by rw [z]; exact hp0)⟩, fun j hj => by
      rcases hold_set hj with ⟨rfl, _⟩ | ⟨_, hj⟩
      · exact hol2
      · exact hj, lv_upd lv_refl⟩
    exact q v _ O2 (p12.trans p3) (show Rp K A _ _ _ by rw [eh]; exact hv)
  · cases e
theorem ev_mut0 {T' : String} {r : V → List V → Hp → VK → Prop} {g : T → List T → Option (T × T)} (hm : Mv K A r g) : EV K A (tBM0 K T' r (tVar i)) (eMut T' g i aN) := ev_mut av_nil hm
def gAppend : T → List T → Option (T × T)
  | .lst xs, [y] => if xs.length < sizeLine then some (.lst (xs ++ [y]), .non) else none
  | _, _ => none
theorem m_append : Mv K A rAppend gAppend := fun H O p t vs ts t' u hw hr e Q q => by
  match t, ts, e with
  | .lst xs, [y], e =>
    simp only [gAppend] at e
    split at e
    · rename_i hl
      cases e
      obtain ⟨ws, h1, h2⟩ := hw
      match vs, hr with
      | [v], .cons a .nil => exact ⟨p, ws, v, rfl, rfl, h1, by rw [h2.len]; exact hl, q _ _ ⟨_, upd_same, h2.snoc a⟩ .non⟩
    · cases e
def gPop : T → List T → Option (T × T)
  | .lst xs, [] => (xs[xs.length - 1]?).map fun y => (.lst xs.dropLast, y)
  | _, _ => none
theorem RpL.dl : ∀ {vs : List V} {ts : List T}, RpL K A H vs ts → RpL K A H vs.dropLast ts.dropLast := fun {vs ts} h => by
  rw [List.dropLast_eq_take, List.dropLast_eq_take, h.len]
  exact h.take _
theorem m_pop : Mv K A rPop gPop := fun H O p t vs ts t' u hw hr e Q q => by
  match t, ts, e with
  | .lst xs, [], e =>
    simp only [gPop, Option.map_eq_some_iff] at e
    obtain ⟨y, h3, h4⟩ := e
    cases h4
    obtain ⟨ws, h1, h2⟩ := hw
    match vs, hr with
    | [], .nil =>
      obtain ⟨w, h5, h6⟩ := h2.get h3
      rw [← h2.len] at h5
      exact ⟨p, ws, w, rfl, rfl, h1, h5, q _ _ ⟨_, upd_same, h2.dl⟩ h6⟩
def gPopAt : T → List T → Option (T × T)
  | .lst xs, [.int j] => if -(2 ^ 63) ≤ j ∧ j < 2 ^ 63 then (seqIndex? j xs.length).bind fun k => (xs[k]?).map fun y => (.lst (xs.eraseIdx k), y) else none
  | _, _ => none
theorem RpL.erase : ∀ {vs : List V} {ts : List T} (n : Nat), RpL K A H vs ts → RpL K A H (vs.eraseIdx n) (ts.eraseIdx n)
  | _, _, _, .nil => .nil
  | _, _, 0, .cons _ b => b
  | _, _, n + 1, .cons a b => .cons a (RpL.erase n b)
theorem m_popAt : Mv K A rPopAt gPopAt := fun H O p t vs ts t' u hw hr e Q q => by
  match t, ts, e with
  | .lst xs, [.int j], e =>
    simp only [gPopAt] at e
    split at e
    · rename_i hj
      simp only [Option.bind_eq_some_iff, Option.map_eq_some_iff] at e
      obtain ⟨k, h3, y, h4, h5⟩ := e
      cases h5
      obtain ⟨ws, h1, h2⟩ := hw
      match vs, hr with
      | [_], .cons (.int _) .nil =>
        obtain ⟨w, h5, h6⟩ := h2.get h4
        exact ⟨p, ws, j, k, w, rfl, rfl, h1, hj.1, hj.2, by rw [h2.len]; exact h3, h5, q _ _ ⟨_, upd_same, h2.erase k⟩ h6⟩
    · cases e
def gReverse : T → List T → Option (T × T)
  | .lst xs, [] => some (.lst xs.reverse, .non)
  | _, _ => none
theorem m_reverse : Mv K A rReverse gReverse := fun H O p t vs ts t' u hw hr e Q q => by
  match t, ts, e with
  | .lst xs, [], e =>
    cases e
    obtain ⟨ws, h1, h2⟩ := hw
    match vs, hr with
    | [], .nil => exact ⟨p, ws, rfl, rfl, h1, q _ _ ⟨_, upd_same, h2.rev⟩ .non⟩
def gInsert : T → List T → Option (T × T)
  | .lst xs, [.int j, y] => if xs.length < sizeLine ∧ 0 ≤ j ∧ j < 2 ^ 63 then some (.lst (xs.take j.toNat ++ [y] ++ xs.drop j.toNat), .non) else none
  | _, _ => none
theorem m_insert : Mv K A QE.rIns gInsert := fun H O p t vs ts t' u hw hr e Q q => by
  match t, ts, e with
  | .lst xs, [.int j, y], e =>
    simp only [gInsert] at e
    split at e
    · rename_i hj
      cases e
      obtain ⟨ws, h1, h2⟩ := hw
      match vs, hr with
      | [_, w], .cons (.int _) (.cons a .nil) => exact ⟨p, ws, j, w, rfl, rfl, h1, by rw [h2.len]; exact hj.1, hj.2.1, hj.2.2, q _ _ ⟨_, upd_same, ((h2.take _).snoc a).app (h2.drop _)⟩ .non⟩
    · cases e
end
end QT

set_option Elab.async false
set_option linter.all false
set_option maxRecDepth 100000
set_option maxHeartbeats 4000000
namespace QT
open PySem PySem.Spec PyProof.Rows L2 QB
section
variable {K : PySem.W.Frag} {A : Nat → Addr} {G : Fx} {σ σ' : L2.St} {H H' H2 : Hp} {ρ ρ' ρ2 : Rho} {O O' O2 : Oset} {i : Nat} {p : Addr} {t t' : T} {v : V} {x : Opd}
/-! ### several targets -/
def putAll : List Nat → List (Bool × T) → Rho → Option Rho
  | [], [], ρ => some ρ
  | i :: is, (b, t) :: xs, ρ => putAll is xs (ρ.set i (if b then .own t else .val t))
  | _, _, _ => none
def setAll : List Nat → List V → L2.St → L2.St
  | i :: is, v :: vs, σ => setAll is vs (σ.set i (some v))
  | _, _, σ => σ
def gNames : List Nat → TGs
  | [] => gNil
  | i :: is => gCons (gName i) (gNames is)
theorem putAll_ok {Hs : Hp} (n0 : ∀ p, Hs p = none → ¬ G.O0 p) : ∀ {is : List Nat} {vs : List V} {xs : List (Bool × T)} {σ : L2.St} {ρ ρ' : Rho}, Rel K A G σ H ρ O → Paired (Cm K A σ Hs H ρ O) vs xs → (cmA vs xs).Nodup → putAll is xs ρ = some ρ' → Rel K A G (setAll is vs σ) H ρ' O
  | [], _, [], σ, ρ, ρ', r, .nil, _, e => by cases e; exact r
  | [], _, _ :: _, σ, ρ, ρ', r, _, _, e => by cases e
  | _ :: _, _, [], σ, ρ, ρ', r, _, _, e => by cases e
  | i :: is, v :: vs, (true, t) :: xs, σ, ρ, ρ', r, .cons ⟨p, ep, tm⟩ b, nd, e => by
    subst ep
    simp only [cmA, List.nodup_cons] at nd
    simp only [putAll] at e
    show Rel K A G (setAll is vs (σ.set i (some (.ref p)))) H ρ' O
    refine putAll_ok n0 (r.putOwn tm.hid (n0 p tm.new) tm.un tm.own) ?_ nd.2 e
    -- the others
    have go : ∀ {ws : List V} {ys : List (Bool × T)}, Paired (Cm K A σ Hs H ρ O) ws ys → (p ∉ cmA ws ys) → Paired (Cm K A (σ.set i (some (.ref p))) Hs H (ρ.set i (.own t)) O) ws ys := by
      intro ws ys hp
      induction hp with
      | nil => intro _; exact .nil
      | @cons w y ws ys a _ ih =>
        intro hn
        obtain ⟨b, u⟩ := y
        cases b with
        | false =>
          have : cmA (w :: ws) ((false, u) :: ys) = cmA ws ys := by cases w <;> rfl
          rw [this] at hn
          exact .cons a (ih hn)
        | true =>
          obtain ⟨q, eq, tq⟩ := a
          subst eq
          simp only [cmA, List.mem_cons, not_or] at hn
          refine .cons ⟨q, rfl, tq.new, tq.hid, fun j hj ej => ?_, tq.own⟩ (ih hn.2)
          rcases hold_set hj with ⟨rfl, _⟩ | ⟨nj, hj⟩
          · have lt : j < σ.length := by have := (List.getElem?_eq_some_iff.mp ej).1; rwa [List.length_set] at this
            rw [set_eq lt] at ej; cases ej; exact hn.1 rfl
          · rw [set_ne nj] at ej; exact tq.un j hj ej
    exact go b nd.1
  | i :: is, v :: vs, (false, t) :: xs, σ, ρ, ρ', r, .cons a b, nd, e => by
    have ec : cmA (v :: vs) ((false, t) :: xs) = cmA vs xs := by cases v <;> rfl
    rw [ec] at nd
    simp only [putAll] at e
    show Rel K A G (setAll is vs (σ.set i (some v))) H ρ' O
    refine putAll_ok n0 (r.put a) (paired_map (fun w y z => ?_) b) nd e
    obtain ⟨b, u⟩ := y
    cases b with
    | false => exact z
    | true =>
      obtain ⟨q, eq, tq⟩ := z
      refine ⟨q, eq, tq.new, tq.hid, fun j hj ej => ?_, tq.own⟩
      rcases hold_set hj with ⟨_, _, hx | hx⟩ | ⟨nj, hj⟩
      · cases hx
      · cases hx
      · rw [set_ne nj] at ej; exact tq.un j hj ej
theorem putAll_len : ∀ {is : List Nat} {xs : List (Bool × T)} {ρ ρ' : Rho}, putAll is xs ρ = some ρ' → is.length = xs.length
  | [], [], _, _, _ => rfl
  | [], _ :: _, _, _, e => by cases e
  | _ :: _, [], _, _, e => by cases e
  | i :: is, (b, t) :: xs, ρ, ρ', e => by simp only [putAll] at e; simp [putAll_len e]
theorem gNames_run : ∀ {is : List Nat} {vs : List V} {σ : L2.St} {Q : L2.St → Hp → Prop}, is.length = vs.length → Q (setAll is vs σ) H → gNames is vs σ H Q
  | [], [], σ, Q, _, h => ⟨rfl, h⟩
  | i :: is, v :: vs, σ, Q, hl, h => ⟨v, vs, rfl, gNames_run (by simpa using hl) h⟩
  | [], _ :: _, _, _, hl, _ => by simp at hl
  | _ :: _, [], _, _, hl, _ => by simp at hl
/-- i, j = e, f -/
def sPar (is : List Nat) (a : AF) : SF := fun ρ => match a ρ with
  | some (os, ρ1) => (match ocm os ρ1 with
    | some (xs, ρ2) => (match putAll is xs ρ2 with
      | some ρ3 => .nx ρ3
      | none => .fail)
    | none => .fail)
  | none => .fail
theorem sv_par {j : Nat} {ta : TA} {a : AF} (ha : AV K A ta a) : SV K A (tPar i j ta) (sPar [i, j] a) := fun G σ H ρ O D r e => by
  unfold sPar at e
  split at e
  · rename_i os ρ1 h1
    split at e
    · rename_i xs ρ2 h2
      split at e
      · rename_i ρ3 h3
        refine ha G σ H ρ O r os ρ1 h1 _ fun vs H1 O1 p1 s1 nd => ?_
        obtain ⟨O2, p2, s2, n2⟩ := ocm_ok p1.rel s1 h2
        have r3 := putAll_ok (fun p hp => (r.fresh hp).2.1) p2.rel s2 (by rw [n2]; exact nd) h3
        have hl := putAll_len h3
        rw [← paired_len s2] at hl
        match vs, hl with
        | [v, w], _ => exact ⟨v, w, rfl, e _ H1 O2 ⟨r3, (p1.trans p2).le, (p1.trans p2).lv⟩⟩
      · exact e.elim
    · exact e.elim
  · exact e.elim
/-- i, j, .. = e -/
def sAsgT (is : List Nat) (f : EF) : SF := fun ρ => match f ρ with
  | some (.ot xs, ρ1) => (match putAll is xs ρ1 with
    | some ρ3 => .nx ρ3
    | none => .fail)
  | some (o, ρ1) => (match share o ρ1 with
    | some (.tup ts, ρ2) => (match putAll is (ts.map fun t => (false, t)) ρ2 with
      | some ρ3 => .nx ρ3
      | none => .fail)
    | _ => .fail)
  | none => .fail
theorem cm_vals {Hs : Hp} : ∀ {vs : List V} {ts : List T}, RpL K A (hide H O) vs ts → Paired (Cm K A σ Hs H ρ O) vs (ts.map fun t => (false, t)) ∧ cmA vs (ts.map fun t => (false, t)) = []
  | _, _, .nil => ⟨.nil, rfl⟩
  | v :: vs, t :: ts, .cons a b => by
    obtain ⟨h1, h2⟩ := cm_vals b
    refine ⟨.cons a h1, ?_⟩
    have : cmA (v :: vs) ((t :: ts).map fun t => (false, t)) = cmA vs (ts.map fun t => (false, t)) := by cases v <;> rfl
    rw [this, h2]
theorem sv_asgT {is : List Nat} {n : Nat} {te : TE} {f : EF} (he : EV K A te f) (hn : n = is.length) : SV K A (tAsg te (gTup K n (gNames is))) (sAsgT is f) := fun G σ H ρ O D r e => by
  subst hn
  cases h : f ρ with
  | none => simp only [sAsgT, h] at e; exact e.elim
  | some z =>
    obtain ⟨o, ρ1⟩ := z
    refine he G σ H ρ O r _ _ h _ fun v H1 O1 p1 s1 => ?_
    have key : ∀ t ρ2, share o ρ1 = some (t, ρ2) → ∀ ts, t = .tup ts → ∀ ρ3, putAll is (ts.map fun t => (false, t)) ρ2 = some ρ3 → EndsOK K A D G H O (.nx ρ3) → gTup K is.length (gNames is) v σ H1 D.nx := fun t ρ2 hs ts et ρ3 h3 hE => by
      subst et
      obtain ⟨O2, p2, s2⟩ := release (vs := [v]) (os := [o]) r p1 (.cons s1 .nil)
      cases s2 with
      | cons s2 _ =>
        obtain ⟨O3, p3, x3⟩ := share_ok p2.rel s2 (by rw [share_fz]; exact hs)
        have p4 := p2.trans p3
        cases x3 with
        | tup hq hr =>
          rename_i a ws
          obtain ⟨c1, c2⟩ := cm_vals (σ := σ) (ρ := ρ2) (Hs := H) hr
          have r5 := putAll_ok (fun p hp => (r.fresh hp).2.1) p4.rel c1 (by rw [c2]; exact .nil) h3
          have hl := putAll_len h3
          rw [List.length_map, ← hr.len] at hl
          exact ⟨a, ws, rfl, hide_le.sqT hq, hl.symm, gNames_run hl (hE _ _ O3 ⟨r5, p4.le, p4.lv⟩)⟩
    cases o with
    | ot xs =>
      simp only [sAsgT, h] at e
      split at e
      · rename_i ρ3 h3
        obtain ⟨a, vs, rfl, hn, hp, hc, nd⟩ := s1
        have r3 := putAll_ok (fun p hp => (r.fresh hp).2.1) p1.rel hc nd h3
        have hl := putAll_len h3
        rw [← paired_len hc] at hl
        exact ⟨a, vs, rfl, .inl (.inl (hide_some.mp hp).2), hl.symm, gNames_run hl (e _ _ O1 ⟨r3, p1.le, p1.lv⟩)⟩
      · exact e.elim
    | val u =>
      simp only [sAsgT, h] at e
      split at e
      · rename_i ts ρ2 hs
        split at e
        · rename_i ρ3 h3; exact key _ _ hs ts rfl ρ3 h3 e
        · exact e.elim
      · exact e.elim
    | own u =>
      simp only [sAsgT, h] at e
      split at e
      · rename_i ts ρ2 hs
        split at e
        · rename_i ρ3 h3; exact key _ _ hs ts rfl ρ3 h3 e
        · exact e.elim
      · exact e.elim
    | slot u =>
      simp only [sAsgT, h] at e
      split at e
      · rename_i ts ρ2 hs
        split at e
        · rename_i ρ3 h3; exact key _ _ hs ts rfl ρ3 h3 e
        · exact e.elim
      · exact e.elim
end
end QT

set_option Elab.async false
set_option linter.all false
set_option maxRecDepth 100000
set_option maxHeartbeats 4000000
namespace QT
open PySem PySem.Spec PyProof.Rows L2 QB
section
variable {K : PySem.W.Frag} {A : Nat → Addr} {H H' : Hp} {O : Oset} {p : Addr} {t t' : T} {v : V}
/-! ### ints -/
def fI0 (g : Int → Int → T) : List T → Option Opd
  | [.int i, .int j] => some (.val (g i j))
  | _ => none
def fI (C : Int → Int → Prop) [∀ i j, Decidable (C i j)] (g : Int → Int → T) : List T → Option Opd
  | [.int i, .int j] => if C i j then some (.val (g i j)) else none
  | _ => none
def fU (g : Int → T) : List T → Option Opd
  | [.int i] => some (.val (g i))
  | _ => none
theorem b_I0 {gv : Int → Int → V} {gt : Int → Int → T} (h : ∀ i j H, Rp K A H (gv i j) (gt i j)) : B2 K A (rI0 gv) (fI0 gt) := fun H O vs ts o d0 tp e Q q => by
  match ts, e with
  | [.int i, .int j], e =>
    cases e
    match vs, tp with
    | [_, _], .cons a (.cons b .nil) => rw [a.int, b.int]; exact ⟨i, j, rfl, rfl, q _ H (Same.refl _) (h i j _)⟩
theorem b_I {C : Int → Int → Prop} [∀ i j, Decidable (C i j)] {gv : Int → Int → V} {gt : Int → Int → T} (h : ∀ i j H, Rp K A H (gv i j) (gt i j)) : B2 K A (rI C gv) (fI C gt) := fun H O vs ts o d0 tp e Q q => by
  match ts, e with
  | [.int i, .int j], e =>
    simp only [fI] at e
    split at e
    · rename_i hc
      cases e
      match vs, tp with
      | [_, _], .cons a (.cons b .nil) => rw [a.int, b.int]; exact ⟨i, j, rfl, rfl, hc, q _ H (Same.refl _) (h i j _)⟩
    · cases e
theorem b_U {gv : Int → V} {gt : Int → T} (h : ∀ i H, Rp K A H (gv i) (gt i)) : B1 K A (rU gv) (fU gt) := fun H O vs ts o d0 tp e Q q => by
  match ts, e with
  | [.int i], e =>
    cases e
    match vs, tp with
    | [_], .cons a .nil => rw [a.int]; exact ⟨i, rfl, q _ H (Same.refl _) (h i _)⟩
instance (i j : Int) : Decidable (CMul i j) := by unfold CMul; infer_instance
instance (i j : Int) : Decidable (CDivW i j) := by unfold CDivW; infer_instance
instance (i j : Int) : Decidable (CMulW i j) := by unfold CMulW; infer_instance
instance (i j : Int) : Decidable (CPow i j) := by unfold CPow; infer_instance
theorem b_add : B2 K A (rI0 fun i j => .int (i + j)) (fI0 fun i j => .int (i + j)) := b_I0 fun _ _ _ => .int _
theorem b_sub : B2 K A (rI0 fun i j => .int (i - j)) (fI0 fun i j => .int (i - j)) := b_I0 fun _ _ _ => .int _
theorem b_mul : B2 K A (rI CMul fun i j => .int (i * j)) (fI CMul fun i j => .int (i * j)) := b_I fun _ _ _ => .int _
theorem b_mod : B2 K A (rI (fun _ j => 0 < j) fun i j => .int (i % j)) (fI (fun _ j => 0 < j) fun i j => .int (i % j)) := b_I fun _ _ _ => .int _
theorem b_fdiv : B2 K A (rI CDivW fun i j => .int (i / j)) (fI CDivW fun i j => .int (i / j)) := b_I fun _ _ _ => .int _
theorem b_pow : B2 K A (rI CPow fun i j => .int (i ^ j.toNat)) (fI CPow fun i j => .int (i ^ j.toNat)) := b_I fun _ _ _ => .int _
theorem b_lt : B2 K A (rI0 fun i j => .bl (decide (i < j))) (fI0 fun i j => .bl (decide (i < j))) := b_I0 fun _ _ _ => .bl _
theorem b_le : B2 K A (rI0 fun i j => .bl (decide (i ≤ j))) (fI0 fun i j => .bl (decide (i ≤ j))) := b_I0 fun _ _ _ => .bl _
theorem b_gt : B2 K A (rI0 fun i j => .bl (decide (j < i))) (fI0 fun i j => .bl (decide (j < i))) := b_I0 fun _ _ _ => .bl _
theorem b_ge : B2 K A (rI0 fun i j => .bl (decide (j ≤ i))) (fI0 fun i j => .bl (decide (j ≤ i))) := b_I0 fun _ _ _ => .bl _
theorem b_neg : B1 K A (rU fun i => .int (-i)) (fU fun i => .int (-i)) := b_U fun _ _ => .int _
/-! ### flat values -/
def T.fv : T → Option V
  | .non => some .non
  | .bl b => some (.bl b)
  | .int i => some (.int i)
  | .str x => some (.str x)
  | _ => none
theorem Top.fv {w : V} (h : Top K A H O v t) (e : t.fv = some w) : v = w := by
  cases t <;> simp only [T.fv, Option.some.injEq, reduceCtorEq] at e <;> subst e
  · exact h.non
  · exact h.bl
  · exact h.int
  · exact h.str
def fEq (neg : Bool) : List T → Option Opd
  | [a, b] => a.fv.bind fun x => b.fv.bind fun y => if scal x y then some (.val (.bl (if neg then !decide (x = y) else decide (x = y)))) else none
  | _ => none
theorem b_eq : B2 K A rEq (fEq false) := fun H O vs ts o d0 tp e Q q => by
  match ts, e with
  | [a, b], e =>
    simp only [fEq, Option.bind_eq_some_iff] at e
    obtain ⟨x, h1, y, h2, h3⟩ := e
    split at h3
    · rename_i hs
      cases h3
      match vs, tp with
      | [_, _], .cons c (.cons d .nil) => rw [c.fv h1, d.fv h2]; exact ⟨hs, q _ H (Same.refl _) (show Rp _ _ _ _ _ from .bl _)⟩
    · cases h3
theorem b_ne : B2 K A rNe (fEq true) := fun H O vs ts o d0 tp e Q q => by
  match ts, e with
  | [a, b], e =>
    simp only [fEq, Option.bind_eq_some_iff] at e
    obtain ⟨x, h1, y, h2, h3⟩ := e
    split at h3
    · rename_i hs
      cases h3
      match vs, tp with
      | [_, _], .cons c (.cons d .nil) => rw [c.fv h1, d.fv h2]; exact ⟨hs, q _ H (Same.refl _) (show Rp _ _ _ _ _ from .bl _)⟩
    · cases h3
/-- is None -/
def T.isN : T → Bool
  | .non => true
  | _ => false
def fIsN (neg : Bool) : List T → Option Opd
  | [a, .non] => some (.val (.bl (if neg then !a.isN else a.isN)))
  | _ => none
theorem top_non (h : Top K A H O v t) : decide (v = .non) = t.isN := by
  rcases h with h | ⟨p, rfl, h⟩
  · cases h <;> simp [T.isN]
  · cases t <;> first | exact h.elim | simp [T.isN]
theorem b_isN : B2 K A (fun x y H Q => y = .non ∧ Q (.bl (decide (x = .non))) H) (fIsN false) := fun H O vs ts o d0 tp e Q q => by
  match ts, e with
  | [a, .non], e =>
    cases e
    match vs, tp with
    | [v, _], .cons c (.cons d .nil) => exact ⟨d.non, q _ H (Same.refl _) (show Rp _ _ _ _ _ by rw [top_non c]; exact .bl _)⟩
theorem b_notN : B2 K A (fun x y H Q => y = .non ∧ Q (.bl (!decide (x = .non))) H) (fIsN true) := fun H O vs ts o d0 tp e Q q => by
  match ts, e with
  | [a, .non], e =>
    cases e
    match vs, tp with
    | [v, _], .cons c (.cons d .nil) => exact ⟨d.non, q _ H (Same.refl _) (show Rp _ _ _ _ _ by rw [top_non c]; exact .bl _)⟩
/-! ### lists, tuples, texts -/
theorem RpL.atI {vs : List V} {ts : List T} {i : Int} (h : RpL K A H vs ts) (e : atI ts i = some t) : ∃ v, L2.atI vs i = some v ∧ Rp K A H v t := by
  unfold L2.atI at e ⊢
  rw [h.len]
  cases hn : ixN ts.length i with
  | none => rw [hn] at e; cases e
  | some j => rw [hn] at e; exact h.get e
def fIx : List T → Option Opd
  | [.lst xs, .int i] => (atI xs i).map .val
  | [.tup xs, .int i] => (atI xs i).map .val
  | [.str z, .int i] => if z.length ≤ sizeLine then (atI z.cps.toList i).map fun c => .val (.str ⟨#[c]⟩) else none
  | _ => none
def fIxL : List T → Option Opd
  | [.lst xs, .int i] => (atI xs i).map .val
  | _ => none
def fIxT : List T → Option Opd
  | [.tup xs, .int i] => (atI xs i).map .val
  | _ => none
def fIxS : List T → Option Opd
  | [.str z, .int i] => if z.length ≤ sizeLine then (atI z.cps.toList i).map fun c => .val (.str ⟨#[c]⟩) else none
  | _ => none
theorem b_ixL : B2 K A (rIxL K) fIxL := fun H O vs ts o d0 tp e Q q => by
  match ts, e with
  | [.lst xs, .int i], e =>
    simp only [fIxL, Option.map_eq_some_iff] at e
    obtain ⟨u, h1, rfl⟩ := e
    match vs, tp with
    | [_, _], .cons a (.cons b .nil) =>
      obtain ⟨p, ws, rfl, h2, h3⟩ := a.lst
      obtain ⟨w, h4, h5⟩ := h3.atI h1
      rw [b.int]
      exact ⟨p, ws, i, w, rfl, rfl, h2, h4, q _ H (Same.refl _) h5⟩
theorem b_ixT : B2 K A (rIxT K) fIxT := fun H O vs ts o d0 tp e Q q => by
  match ts, e with
  | [.tup xs, .int i], e =>
    simp only [fIxT, Option.map_eq_some_iff] at e
    obtain ⟨u, h1, rfl⟩ := e
    match vs, tp with
    | [_, _], .cons a (.cons b .nil) =>
      obtain ⟨p, ws, rfl, h2, h3⟩ := a.tup
      obtain ⟨w, h4, h5⟩ := h3.atI h1
      rw [b.int]
      exact ⟨p, ws, i, w, rfl, rfl, h2, h4, q _ H (Same.refl _) h5⟩
theorem b_ixS : B2 K A rIxS fIxS := fun H O vs ts o d0 tp e Q q => by
  match ts, e with
  | [.str z, .int i], e =>
    simp only [fIxS] at e
    split at e
    · rename_i hz
      simp only [Option.map_eq_some_iff] at e
      obtain ⟨c, h1, rfl⟩ := e
      match vs, tp with
      | [_, _], .cons a (.cons b .nil) => rw [a.str, b.int]; exact ⟨z, i, c, rfl, rfl, hz, h1, q _ H (Same.refl _) (show Rp _ _ _ _ _ from .str _)⟩
    · cases e
theorem b_ix : B2 K A (rIx K) fIx := fun H O vs ts o d0 tp e Q q => by
  match ts, e with
  | [.lst xs, .int i], e => exact l2or .inl (b_ixL H O vs _ o d0 tp e Q q)
  | [.tup xs, .int i], e => exact l2or (fun h => .inr (.inl h)) (b_ixT H O vs _ o d0 tp e Q q)
  | [.str xs, .int i], e => exact l2or (fun h => .inr (.inr h)) (b_ixS H O vs _ o d0 tp e Q q)
where
  l2or {r r' : R2} {vs : List V} {H : Hp} {Q : VK} (h : ∀ {x y}, r x y H Q → r' x y H Q) (a : l2 r vs H Q) : l2 r' vs H Q := by
    match vs, a with
    | [x, y], a => exact h a
def fLen : List T → Option Opd
  | [.lst xs] => some (.val (.int xs.length))
  | [.tup xs] => some (.val (.int xs.length))
  | _ => none
theorem b_len : Bv K A (QB.rLen K) fLen := fun H O vs ts o d0 tp e Q q => by
  match ts, e with
  | [.lst xs], e =>
    cases e
    match vs, tp with
    | [_], .cons a .nil =>
      obtain ⟨p, ws, rfl, h2, h3⟩ := a.lst
      exact ⟨p, ws, rfl, .inl h2, q _ H (Same.refl _) (show Rp _ _ _ _ _ by rw [h3.len]; exact .int _)⟩
  | [.tup xs], e =>
    cases e
    match vs, tp with
    | [_], .cons a .nil =>
      obtain ⟨p, ws, rfl, h2, h3⟩ := a.tup
      exact ⟨p, ws, rfl, .inr h2, q _ H (Same.refl _) (show Rp _ _ _ _ _ by rw [h3.len]; exact .int _)⟩
def fLenS : List T → Option Opd
  | [.str z] => if z.length ≤ sizeLine then some (.val (.int z.length)) else none
  | _ => none
theorem b_lenS : Bv K A (fun xs H Q => ∃ z, xs = [.str z] ∧ z.length ≤ sizeLine ∧ Q (.int z.length) H) fLenS := fun H O vs ts o d0 tp e Q q => by
  match ts, e with
  | [.str z], e =>
    simp only [fLenS] at e
    split at e
    · rename_i hz
      cases e
      match vs, tp with
      | [_], .cons a .nil => rw [a.str]; exact ⟨z, rfl, hz, q _ H (Same.refl _) (show Rp _ _ _ _ _ from .int _)⟩
    · cases e
def fLst : List T → Option Opd
  | [.lst xs] => some (.own (.lst xs))
  | [.tup xs] => some (.own (.lst xs))
  | _ => none
theorem newL {ws : List V} {xs : List T} {Q : VK} (h3 : RpL K A (hide H O) ws xs) (q : ∀ v H', Same H H' → NewR K A H O H' v (.own (.lst xs)) → Q v H') : ∀ l, H l = none → Q (.ref l) (upd H l (.lst ws)) := fun l hl =>
  q _ _ (same_new hl) ⟨l, rfl, hl, ws, upd_same, h3.mono (Le.of (hide_new hl))⟩
theorem newT {ws : List V} {xs : List T} {Q : VK} (d : ∀ p, O p → H p ≠ none) (h3 : RpL K A (hide H O) ws xs) (q : ∀ v H', Same H H' → NewR K A H O H' v (.val (.tup xs)) → Q v H') : ∀ l, H l = none → Q (.ref l) (upd H l (.tup ws)) := fun l hl =>
  q _ _ (same_new hl) (show Rp K A _ _ _ from .tup (.inl (.inl (hide_of (fun e => d l e hl) upd_same))) (h3.mono (Le.of (hide_newv hl))))
theorem b_lst : Bv K A (rLst K) fLst := fun H O vs ts o d0 tp e Q q => by
  match ts, e with
  | [.lst xs], e =>
    cases e
    match vs, tp with
    | [_], .cons a .nil =>
      obtain ⟨p, ws, rfl, h2, h3⟩ := a.lst
      exact ⟨p, ws, rfl, .inl h2, newL h3 q⟩
  | [.tup xs], e =>
    cases e
    match vs, tp with
    | [_], .cons a .nil =>
      obtain ⟨p, ws, rfl, h2, h3⟩ := a.tup
      exact ⟨p, ws, rfl, .inr h2, newL h3 q⟩
end
end QT

set_option Elab.async false
set_option linter.all false
set_option maxRecDepth 100000
set_option maxHeartbeats 4000000
namespace QT
open PySem PySem.Spec PyProof.Rows L2 QB
section
variable {K : PySem.W.Frag} {A : Nat → Addr} {G : Fx} {σ : L2.St} {ρ ρ' : Rho} {H H' : Hp} {O : Oset} {p : Addr} {t t' : T} {v : V}
def fTupl : List T → Option Opd
  | [.lst xs] => some (.val (.tup xs))
  | [.tup xs] => some (.val (.tup xs))
  | _ => none
theorem b_tupl : Bv K A (rTupl K) fTupl := fun H O vs ts o d0 tp e Q q => by
  match ts, e with
  | [.lst xs], e =>
    cases e
    match vs, tp with
    | [_], .cons a .nil =>
      obtain ⟨p, ws, rfl, h2, h3⟩ := a.lst
      exact ⟨p, ws, rfl, .inl ⟨h2, newT d0 h3 q⟩⟩
  | [.tup xs], e =>
    cases e
    match vs, tp with
    | [w], .cons a .nil =>
      have hr : Rp K A (hide H O) w (.tup xs) := a.resolve_right fun ⟨_, _, h⟩ => h.elim
      obtain ⟨p, ws, rfl, h2, h3⟩ := a.tup
      exact ⟨p, ws, rfl, .inr ⟨h2, q _ H (Same.refl _) hr⟩⟩
def fInt : List T → Option Opd
  | [.int i] => some (.val (.int i))
  | [.bl k] => some (.val (.int (if k then 1 else 0)))
  | _ => none
theorem b_int : Bv K A rInt fInt := fun H O vs ts o d0 tp e Q q => by
  match ts, e with
  | [.int i], e =>
    cases e
    match vs, tp with
    | [_], .cons a .nil => rw [a.int]; exact .inl ⟨i, rfl, q _ H (Same.refl _) (show Rp _ _ _ _ _ from .int _)⟩
  | [.bl i], e =>
    cases e
    match vs, tp with
    | [_], .cons a .nil => rw [a.bl]; exact .inr ⟨i, rfl, q _ H (Same.refl _) (show Rp _ _ _ _ _ from .int _)⟩
def fAbs : List T → Option Opd
  | [.int i] => some (.val (.int (if i < 0 then -i else i)))
  | _ => none
theorem b_abs : Bv K A rAbs fAbs := fun H O vs ts o d0 tp e Q q => by
  match ts, e with
  | [.int i], e =>
    cases e
    match vs, tp with
    | [_], .cons a .nil => rw [a.int]; exact ⟨i, rfl, q _ H (Same.refl _) (show Rp _ _ _ _ _ from .int _)⟩
def fMax : List T → Option Opd
  | [.int i, .int j] => some (.val (.int (if j > i then j else i)))
  | _ => none
theorem b_max : Bv K A QB.rMax fMax := fun H O vs ts o d0 tp e Q q => by
  match ts, e with
  | [.int i, .int j], e =>
    cases e
    match vs, tp with
    | [_, _], .cons a (.cons b .nil) => rw [a.int, b.int]; exact ⟨i, j, rfl, q _ H (Same.refl _) (show Rp _ _ _ _ _ from .int _)⟩
def fMin : List T → Option Opd
  | [.int i, .int j] => some (.val (.int (if j < i then j else i)))
  | _ => none
theorem b_min : Bv K A QB.rMin fMin := fun H O vs ts o d0 tp e Q q => by
  match ts, e with
  | [.int i, .int j], e =>
    cases e
    match vs, tp with
    | [_, _], .cons a (.cons b .nil) => rw [a.int, b.int]; exact ⟨i, j, rfl, q _ H (Same.refl _) (show Rp _ _ _ _ _ from .int _)⟩
def fAddS : List T → Option Opd
  | [.str a, .str b] => if a.length + b.length ≤ sizeLine then some (.val (.str (a ++ b))) else none
  | _ => none
theorem b_addS : B2 K A rAddStr fAddS := fun H O vs ts o d0 tp e Q q => by
  match ts, e with
  | [.str i, .str j], e =>
    simp only [fAddS] at e
    split at e
    · rename_i hl
      cases e
      match vs, tp with
      | [_, _], .cons a (.cons b .nil) => rw [a.str, b.str]; exact ⟨i, j, rfl, rfl, hl, q _ H (Same.refl _) (show Rp _ _ _ _ _ from .str _)⟩
    · cases e
/-! ### in -/
def fvs : List T → Option (List V)
  | [] => some []
  | t :: r => t.fv.bind fun v => (fvs r).bind fun vs => some (v :: vs)
theorem Rp.fv {w : V} (h : Rp K A H v t) (e : t.fv = some w) : v = w ∧ flatV v = true := by
  cases t <;> simp only [T.fv, Option.some.injEq, reduceCtorEq] at e <;> subst e <;> cases h <;> exact ⟨rfl, rfl⟩
theorem RpL.fvs : ∀ {vs ws : List V} {ts : List T}, RpL K A H vs ts → QT.fvs ts = some ws → vs = ws ∧ vs.all flatV = true
  | _, _, _, .nil, e => by cases e; exact ⟨rfl, rfl⟩
  | _, _, _, .cons a b, e => by
    simp only [QT.fvs, Option.bind_eq_some_iff] at e
    obtain ⟨w, h1, ws, h2, h3⟩ := e
    cases h3
    obtain ⟨e1, f1⟩ := a.fv h1
    obtain ⟨e2, f2⟩ := RpL.fvs b h2
    exact ⟨by rw [e1, e2], by simp [f1, f2]⟩
def T.items : T → Option (List T)
  | .lst xs => some xs
  | .tup xs => some xs
  | _ => none
def fIn (neg : Bool) : List T → Option Opd
  | [x, s] => x.fv.bind fun w => s.items.bind fun xs => (fvs xs).bind fun ws => some (.val (.bl (if neg then !inV w ws else inV w ws)))
  | _ => none
theorem Top.fv2 {w : V} (h : Top K A H O v t) (e : t.fv = some w) : v = w ∧ flatV v = true := by
  have := h.fv e
  subst this
  refine ⟨rfl, ?_⟩
  cases t <;> simp only [T.fv, Option.some.injEq, reduceCtorEq] at e <;> subst e <;> rfl
theorem b_in {neg : Bool} : B2 K A (rIn K neg) (fIn neg) := fun H O vs ts o d0 tp e Q q => by
  match ts, e with
  | [a, b], e =>
    simp only [fIn, Option.bind_eq_some_iff] at e
    obtain ⟨w, h1, xs, h2, ws, h3, h4⟩ := e
    cases h4
    match vs, tp with
    | [x, y], .cons c (.cons d .nil) =>
      obtain ⟨e1, f1⟩ := c.fv2 h1
      subst e1
      cases b <;> simp only [T.items, Option.some.injEq, reduceCtorEq] at h2 <;> subst h2
      · obtain ⟨p, us, rfl, h5, h6⟩ := d.lst
        obtain ⟨e2, f2⟩ := h6.fvs h3
        subst e2
        exact ⟨p, us, rfl, .inl h5, f1, f2, q _ H (Same.refl _) (show Rp _ _ _ _ _ from .bl _)⟩
      · obtain ⟨p, us, rfl, h5, h6⟩ := d.tup
        obtain ⟨e2, f2⟩ := h6.fvs h3
        subst e2
        exact ⟨p, us, rfl, .inr h5, f1, f2, q _ H (Same.refl _) (show Rp _ _ _ _ _ from .bl _)⟩
/-! ### data: ==, repr -/
mutual
def T.dat : T → Option PyData
  | .non => some .none
  | .bl b => some (.bool b)
  | .int i => some (.int i)
  | .str x => some (.str x)
  | .lst xs => (datL xs).map .list
  | .tup xs => (datL xs).map .tuple
  | _ => none
def datL : List T → Option (List PyData)
  | [] => some []
  | t :: r => t.dat.bind fun d => (datL r).bind fun ds => some (d :: ds)
end
mutual
theorem Rp.dp : ∀ {v : V} {t : T} {d : PyData}, Rp K A H v t → t.dat = some d → Dp K H v d
  | _, _, _, .non, e => by cases e; exact .non
  | _, _, _, .bl b, e => by cases e; exact .bl b
  | _, _, _, .int b, e => by cases e; exact .int b
  | _, _, _, .str b, e => by cases e; exact .str b
  | _, _, _, .cls b, e => by cases e
  | _, _, _, .ty b, e => by cases e
  | _, _, _, .lst h r, e => by
    simp only [T.dat, Option.map_eq_some_iff] at e
    obtain ⟨ds, h1, rfl⟩ := e
    exact .lst h (RpL.dp r h1)
  | _, _, _, .tup h r, e => by
    simp only [T.dat, Option.map_eq_some_iff] at e
    obtain ⟨ds, h1, rfl⟩ := e
    exact .tup h (RpL.dp r h1)
  | _, _, _, .dct h r, e => by cases e
  | _, _, _, .obj h r, e => by cases e
theorem RpL.dp : ∀ {vs : List V} {ts : List T} {ds : List PyData}, RpL K A H vs ts → datL ts = some ds → DpAll K H vs ds
  | _, _, _, .nil, e => by cases e; exact .nil
  | _, _, _, .cons a b, e => by
    simp only [datL, Option.bind_eq_some_iff] at e
    obtain ⟨d, h1, ds, h2, h3⟩ := e
    cases h3
    exact .cons (Rp.dp a h1) (RpL.dp b h2)
end
theorem Top.dp {d : PyData} (h : Top K A H O v t) (e : t.dat = some d) : Dp K H v d := by
  rcases h with h | ⟨p, rfl, h⟩
  · exact (h.mono hide_le).dp e
  · cases t <;> first | exact h.elim | (simp only [T.dat, reduceCtorEq] at e; done) | skip
    simp only [T.dat, Option.map_eq_some_iff] at e
    obtain ⟨ds, h1, rfl⟩ := e
    obtain ⟨ws, h2, h3⟩ := h
    exact .lst (SqL.of h2) ((h3.mono hide_le).dp h1)
def fEqD (neg : Bool) : List T → Option Opd
  | [a, b] => a.dat.bind fun d => b.dat.bind fun e => if SeqAt.shaped d = true ∧ SeqAt.shaped e = true then some (.val (.bl (if neg then !PyData.eqv d e else PyData.eqv d e))) else none
  | _ => none
theorem b_eqD : B2 K A (rEqD K) (fEqD false) := fun H O vs ts o d0 tp e Q q => by
  match ts, e with
  | [a, b], e =>
    simp only [fEqD, Option.bind_eq_some_iff] at e
    obtain ⟨d, h1, e', h2, h3⟩ := e
    split at h3
    · rename_i hs
      cases h3
      match vs, tp with
      | [_, _], .cons x (.cons y .nil) => exact ⟨d, e', x.dp h1, y.dp h2, hs.1, hs.2, q _ H (Same.refl _) (show Rp _ _ _ _ _ from .bl _)⟩
    · cases h3
theorem b_neD : B2 K A (rNeD K) (fEqD true) := fun H O vs ts o d0 tp e Q q => by
  match ts, e with
  | [a, b], e =>
    simp only [fEqD, Option.bind_eq_some_iff] at e
    obtain ⟨d, h1, e', h2, h3⟩ := e
    split at h3
    · rename_i hs
      cases h3
      match vs, tp with
      | [_, _], .cons x (.cons y .nil) => exact ⟨d, e', x.dp h1, y.dp h2, hs.1, hs.2, q _ H (Same.refl _) (show Rp _ _ _ _ _ from .bl _)⟩
    · cases h3
def fRepr : List T → Option Opd
  | [a] => (match a with | .lst _ => a.dat | .tup _ => a.dat | _ => none).bind fun d => if d.showable = true ∧ d.hasDict = false ∧ d.depth ≤ 63 ∧ d.shown.length ≤ sizeLine then some (.val (.str d.shown)) else none
  | _ => none
theorem b_repr : Bv K A (QG.rRepr K) fRepr := fun H O vs ts o d0 tp e Q q => by
  match ts, e with
  | [a], e =>
    simp only [fRepr, Option.bind_eq_some_iff] at e
    obtain ⟨d, h1, h3⟩ := e
    split at h3
    · rename_i hs
      cases h3
      match vs, tp with
      | [v], .cons x .nil =>
        obtain ⟨p, rfl, hd⟩ : ∃ p, v = .ref p ∧ Dp K H v d := by
          cases a <;> simp only [reduceCtorEq] at h1
          · obtain ⟨p, _, e1, _⟩ := x.lst; exact ⟨p, e1, x.dp h1⟩
          · obtain ⟨p, _, e1, _⟩ := x.tup; exact ⟨p, e1, x.dp h1⟩
        exact ⟨p, d, rfl, hd, hs.1, hs.2.1, hs.2.2.1, hs.2.2.2, q _ H (Same.refl _) (show Rp _ _ _ _ _ from .str _)⟩
    · cases h3
/-! ### slices -/
abbrev OF := Rho → Option (Option Int × Rho)
def OV (K : PySem.W.Frag) (A : Nat → Addr) (to : TO) (f : OF) : Prop := ∀ (G : Fx) (σ : L2.St) (H : Hp) (ρ : Rho) (O : Oset), Rel K A G σ H ρ O → ∀ x ρ', f ρ = some (x, ρ') → ∀ Q : Option Int → Hp → Prop, (∀ H' O', Post K A G σ H ρ O H' ρ' O' → Q x H') → to σ H Q
def oNo : OF := fun ρ => some (none, ρ)
def oSome (e : EF) : OF := fun ρ => do
  let (o, ρ1) ← e ρ
  let t ← o.tree ρ1
  match t with
  | .int i => pure (some i, ρ1)
  | _ => none
theorem ov_no : OV K A tNoPart oNo := fun G σ H ρ O r x ρ' e Q q => by
  cases e; exact q H O (.refl r)
theorem ov_some {te : TE} {e : EF} (he : EV K A te e) : OV K A (tPart te) (oSome e) := fun G σ H ρ O rl b ρ' ee Q q => by
  simp only [oSome, Option.bind_eq_bind, Option.bind_eq_some_iff] at ee
  obtain ⟨⟨o, ρ1⟩, h1, t, h2, h3⟩ := ee
  refine he G σ H ρ O rl o ρ1 h1 _ fun v H1 O0 p0 s0 => ?_
  obtain ⟨O1, p1, s1⟩ := release (vs := [v]) (os := [o]) rl p0 (.cons s0 .nil)
  have tp : Top K A H1 O1 v t := (match s1 with | .cons s1 _ => s1.top p1.rel (by rw [tree_fz]; exact h2))
  split at h3
  · cases h3
    exact ⟨_, tp.int, q H1 O1 p1⟩
  · cases h3
def Sv (K : PySem.W.Frag) (A : Nat → Addr) (r : V → Option Int → Option Int → Hp → VK → Prop) (f : T → Option Int → Option Int → Option Opd) : Prop := ∀ (H : Hp) (O : Oset) (v : V) (t : T) (l h : Option Int) (o : Opd), (∀ p, O p → H p ≠ none) → Top K A H O v t → f t l h = some o → ∀ Q : VK, (∀ v H', Same H H' → NewR K A H O H' v o → Q v H') → r v l h H Q
def eSl (f : T → Option Int → Option Int → Option Opd) (e : EF) (l h : OF) : EF := fun ρ => do
  let (o, ρ1) ← e ρ
  let (x, ρ2) ← l ρ1
  let (y, ρ3) ← h ρ2
  let t ← o.tree ρ3
  let u ← f t x y
  pure (u, ρ3)
theorem ev_sl {r : V → Option Int → Option Int → Hp → VK → Prop} {f : T → Option Int → Option Int → Option Opd} {te : TE} {e : EF} {t1 t2 : TO} {l h : OF} (he : EV K A te e) (hl : OV K A t1 l) (hh : OV K A t2 h) (hs : Sv K A r f) : EV K A (tSl r te t1 t2) (eSl f e l h) := fun G σ H ρ O rl o ρ' ee Q q => by
  simp only [eSl, Option.bind_eq_bind, Option.bind_eq_some_iff] at ee
  obtain ⟨⟨o1, ρ1⟩, h1, ⟨x, ρ2⟩, h2, ⟨y, ρ3⟩, h3, t, h4, u, h5, h6⟩ := ee
  cases h6
  refine he G σ H ρ O rl o1 ρ1 h1 _ fun v H1 O1 p1 s1 => ?_
  refine hl G σ H1 ρ1 O1 p1.rel x ρ2 h2 _ fun H2 O2 p2 => ?_
  refine hh G σ H2 ρ2 O2 p2.rel y ρ3 h3 _ fun H3 O3 p3 => ?_
  have p13 := (p1.trans p2).trans p3
  obtain ⟨O4, p4, s4⟩ := release (vs := [v]) (os := [o1]) rl p13 (.cons ((s1.up p2).up p3) .nil)
  have tp : Top K A H3 O4 v t := (match s4 with | .cons s4 _ => s4.top p4.rel (by rw [tree_fz]; exact h4))
  refine hs H3 O4 v t x y o p4.rel.dom tp h5 _ fun w H4 s5 n5 => ?_
  obtain ⟨O5, p5, r5⟩ := n5.post p4.rel s5
  exact q w H4 O5 (p4.trans p5) (r5.back p4.lv)
def cutT (xs : List T) (lo hi : Option Int) : List T := (xs.drop (HT.sIx xs.length 0 lo)).take (HT.sIx xs.length xs.length hi - HT.sIx xs.length 0 lo)
theorem RpL.cut {vs : List V} {ts : List T} (h : RpL K A H vs ts) (lo hi : Option Int) : RpL K A H (cutV vs lo hi) (cutT ts lo hi) := by
  unfold cutV cutT
  rw [h.len]
  exact (h.drop _).take _
def fSlL : T → Option Int → Option Int → Option Opd
  | .lst xs, lo, hi => some (.own (.lst (cutT xs lo hi)))
  | _, _, _ => none
theorem b_slL : Sv K A (rSlL K) fSlL := fun H O v t l h o d0 tp e Q q => by
  cases t <;> simp only [fSlL, reduceCtorEq] at e
  cases e
  obtain ⟨p, ws, rfl, h2, h3⟩ := tp.lst
  exact ⟨p, ws, rfl, h2, newL (h3.cut l h) q⟩
/-- xs[::-1] -/
def rRevL (K : PySem.W.Frag) : V → Hp → VK → Prop := fun x H1 Q => ∃ a xs, x = .ref a ∧ SqL K H1 a xs ∧ ∀ p, H1 p = none → Q (.ref p) (upd H1 p (.lst xs.reverse))
def fRevL : List T → Option Opd
  | [.lst xs] => some (.own (.lst xs.reverse))
  | _ => none
theorem b_revL : B1 K A (rRevL K) fRevL := fun H O vs ts o d0 tp e Q q => by
  match ts, e with
  | [.lst xs], e =>
    cases e
    match vs, tp with
    | [_], .cons a .nil =>
      obtain ⟨p, ws, rfl, h2, h3⟩ := a.lst
      exact ⟨p, ws, rfl, h2, newL h3.rev q⟩
theorem ev_revL {te : TE} {e : EF} (he : EV K A te e) : EV K A (tRevL K te) (eB fRevL (aC e aN)) := ev_un he b_revL
/-! ### join -/
def strL : List T → Option (List Str)
  | [] => some []
  | .str x :: r => (strL r).bind fun xs => some (x :: xs)
  | _ => none
theorem strL_eq : ∀ {ts : List T} {xs : List Str}, strL ts = some xs → ts = xs.map T.str
  | [], _, e => by cases e; rfl
  | .str x :: r, _, e => by
    simp only [strL, Option.bind_eq_some_iff] at e
    obtain ⟨xs, h1, h2⟩ := e
    cases h2
    simp [strL_eq h1]
  | .non :: _, _, e => by cases e
  | .bl _ :: _, _, e => by cases e
  | .int _ :: _, _, e => by cases e
  | .lst _ :: _, _, e => by cases e
  | .tup _ :: _, _, e => by cases e
  | .dct _ :: _, _, e => by cases e
  | .obj _ _ :: _, _, e => by cases e
  | .cls _ :: _, _, e => by cases e
  | .ty _ :: _, _, e => by cases e
def fJoin (a : Str) (t : T) : Option Opd := t.items.bind fun ts => (strL ts).bind fun ys => if (ys.map (·.length)).sum + ys.length * a.length ≤ 16777216 then some (.val (.str (Txt.join a ys))) else none
/-- 'a'.join(e) -/
def eJoin (a : Str) (e : EF) : EF := fun ρ => do
  let (o, ρ1) ← e ρ
  let t ← o.tree ρ1
  let u ← fJoin a t
  pure (u, ρ1)
theorem ev_strJ {a : Str} {te : TE} {e : EF} (he : EV K A te e) : EV K A (QE.tStrJ K (tC (.str a)) te) (eJoin a e) := fun G σ H ρ O rl o ρ' ee Q q => by
  simp only [eJoin, Option.bind_eq_bind, Option.bind_eq_some_iff] at ee
  obtain ⟨⟨o1, ρ1⟩, h1, t, h2, u, h3, h4⟩ := ee
  cases h4
  refine ⟨⟨a, rfl⟩, he G σ H ρ O rl o1 ρ1 h1 _ fun v H1 O0 p0 s0 => ?_⟩
  obtain ⟨O1, p1, s1⟩ := release (vs := [v]) (os := [o1]) rl p0 (.cons s0 .nil)
  have tp : Top K A H1 O1 v t := (match s1 with | .cons s1 _ => s1.top p1.rel (by rw [tree_fz]; exact h2))
  simp only [fJoin, Option.bind_eq_some_iff] at h3
  obtain ⟨ts, h5, ys, h6, h7⟩ := h3
  split at h7
  · rename_i hz
    cases h7
    have e6 := strL_eq h6
    subst e6
    cases t <;> simp only [T.items, Option.some.injEq, reduceCtorEq] at h5 <;> subst h5
    · obtain ⟨p, ws, rfl, hq, hr⟩ := tp.lst
      have := hr.strs
      subst this
      exact ⟨a, p, ys, rfl, rfl, .inl hq, hz, q _ H1 O1 p1 (show Rp _ _ _ _ _ from .str _)⟩
    · obtain ⟨p, ws, rfl, hq, hr⟩ := tp.tup
      have := hr.strs
      subst this
      exact ⟨a, p, ys, rfl, rfl, .inr hq, hz, q _ H1 O1 p1 (show Rp _ _ _ _ _ from .str _)⟩
  · cases h7
end
end QT

set_option Elab.async false
set_option linter.all false
set_option maxRecDepth 100000
set_option maxHeartbeats 4000000
namespace QT
open PySem PySem.Spec PyProof.Rows L2 QB
section
variable {K : PySem.W.Frag} {A : Nat → Addr} {G : Fx} {σ : L2.St} {ρ ρ' : Rho} {H H' : Hp} {O : Oset} {p : Addr} {t t' : T} {v : V}
/-! ### isinstance -/
def T.tyN : T → Option String
  | .non => some "NoneType"
  | .bl _ => some "bool"
  | .int _ => some "int"
  | .str _ => some "str"
  | .lst _ => some "list"
  | .tup _ => some "tuple"
  | .dct _ => some "dict"
  | _ => none
theorem Top.tyX {n : String} (h : Top K A H O v t) (e : t.tyN = some n) : TyX K H v (.type n) := by
  cases t <;> simp only [T.tyN, Option.some.injEq, reduceCtorEq] at e <;> subst e
  · rw [h.non]; exact .base .non
  · rw [h.bl]; exact .base (.bl _)
  · rw [h.int]; exact .base (.int _)
  · rw [h.str]; exact .base (.str _)
  · obtain ⟨p, ws, rfl, (h | ⟨o, h⟩) | ⟨o, its, n, h, c, _⟩, _⟩ := h.lst
    · exact .base (.lst h)
    · exact .base (.frz h)
    · exact .kList h c
  · obtain ⟨p, ws, rfl, (h | ⟨o, h⟩) | ⟨o, its, n, h, c, _⟩, _⟩ := h.tup
    · exact .base (.tup h)
    · exact .fTuple h
    · exact .kTuple h c
  · obtain ⟨p, ws, rfl, h | ⟨o, h⟩, _⟩ := h.dct
    · exact .base (.dK h)
    · exact .fDict h
/-- what is known of the own classes: sub c d: c is d or below it; for each built-in type no -/
structure Kits (K : PySem.W.Frag) (A : Nat → Addr) (sub : Nat → Nat → Bool) : Prop where
  ic : ∀ c, C8.InsC K (A c)
  kit : ∀ c d, PySem.W.kitOne K (.ref (A c)) (.ref (A d)) = some (sub c d)
def fIsi (sub : Nat → Nat → Bool) : List T → Option Opd
  | [.obj c _, .cls d] => some (.val (.bl (sub c d)))
  | [a, .ty n] => a.tyN.bind fun m => (kitB m n).bind fun b => some (.val (.bl b))
  | _ => none
theorem top_cls {d : Nat} (h : Top K A H O v (.cls d)) : v = .ref (A d) := by
  rcases h with h | ⟨p, rfl, h⟩
  · cases h; rfl
  · exact h.elim
theorem top_ty {n : String} (h : Top K A H O v (.ty n)) : v = .ty n := by
  rcases h with h | ⟨p, rfl, h⟩
  · cases h; rfl
  · exact h.elim
theorem b_isi {sub : Nat → Nat → Bool} (k : Kits K A sub) : Bv K A (rIsi K) (fIsi sub) := fun H O vs ts o d0 tp e Q q => by
  match ts, e with
  | [.obj c fs, .cls d], e =>
    cases e
    match vs, tp with
    | [_, _], .cons a (.cons b .nil) =>
      obtain ⟨p, dx, ws, rfl, h1, _⟩ := a.obj
      rw [top_cls b]
      have ic := k.ic c
      exact ⟨_, _, _, _, sub c d, rfl, .own _, .base (.ins h1 ic.cl ic.ha ic.hn ic.htk ic.hm), k.kit c d, q _ H (Same.refl _) (show Rp _ _ _ _ _ from .bl _)⟩
  | [a, .ty n], e =>
    have e' : (a.tyN.bind fun m => (kitB m n).bind fun b => some (Opd.val (.bl b))) = some o := by cases a <;> exact e
    simp only [Option.bind_eq_some_iff] at e'
    obtain ⟨m, h1, b, h2, h3⟩ := e'
    cases h3
    match vs, tp with
    | [_, _], .cons x (.cons y .nil) =>
      rw [top_ty y]
      exact ⟨_, _, _, _, b, rfl, .ty n, x.tyX h1, kit_ty h2, q _ H (Same.refl _) (show Rp _ _ _ _ _ from .bl _)⟩
theorem ev_cls {c : Nat} : EV K A (tC (.ref (A c))) (eC (.cls c)) := ev_c fun _ => .cls c
theorem ev_ty {n : String} : EV K A (tC (.ty n)) (eC (.ty n)) := ev_c fun _ => .ty n
/-! ### f-strings -/
def fFmt : List T → Option Opd
  | [.str y] => if y.length ≤ sizeLine then some (.val (.str y)) else none
  | [.int i] => if i.natAbs.log2 < 1920 then some (.val (.str (toString i))) else none
  | _ => none
def rFmt : V → Hp → VK → Prop := fun x H1 Q => (∃ y : Str, x = .str y ∧ y.length ≤ sizeLine ∧ Q (.str y) H1) ∨ ∃ i : Int, x = .int i ∧ i.natAbs.log2 < 1920 ∧ Q (.str (toString i)) H1
theorem b_fmt : B1 K A rFmt fFmt := fun H O vs ts o d0 tp e Q q => by
  match ts, e with
  | [.str y], e =>
    simp only [fFmt] at e
    split at e
    · rename_i hl
      cases e
      match vs, tp with
      | [_], .cons a .nil => rw [a.str]; exact .inl ⟨y, rfl, hl, q _ H (Same.refl _) (show Rp _ _ _ _ _ from .str _)⟩
    · cases e
  | [.int y], e =>
    simp only [fFmt] at e
    split at e
    · rename_i hl
      cases e
      match vs, tp with
      | [_], .cons a .nil => rw [a.int]; exact .inr ⟨y, rfl, hl, q _ H (Same.refl _) (show Rp _ _ _ _ _ from .str _)⟩
    · cases e
def eFmt (e : EF) : EF := eB fFmt (aC e aN)
theorem ev_fmt {te : TE} {e : EF} (he : EV K A te e) : EV K A (tFmt te) (eFmt e) := ev_un he b_fmt
def fStrI : List T → Option Opd
  | [.int i] => if i.natAbs.log2 < 1920 then some (.val (.str (toString i))) else none
  | _ => none
theorem b_strI : Bv K A QC.rStrI fStrI := fun H O vs ts o d0 tp e Q q => by
  match ts, e with
  | [.int y], e =>
    simp only [fStrI] at e
    split at e
    · rename_i hl
      cases e
      match vs, tp with
      | [_], .cons a .nil => rw [a.int]; exact ⟨y, rfl, hl, q _ H (Same.refl _) (show Rp _ _ _ _ _ from .str _)⟩
    · cases e
/-- the parts of an f-string -/
inductive JV (K : PySem.W.Frag) (A : Nat → Addr) : List TE → List EF → Prop
  | nil : JV K A [] []
  | cons {t : TE} {e : EF} {ts : List TE} {es : List EF} : EV K A t e → JV K A ts es → JV K A (t :: ts) (e :: es)
def joinF : List EF → Str → Rho → Option (Str × Rho)
  | [], acc, ρ => some (acc, ρ)
  | e :: es, acc, ρ => (e ρ).bind fun (o, ρ1) => (o.tree ρ1).bind fun t => match t with
    | .str y => if (acc ++ y).length ≤ sizeLine then joinF es (acc ++ y) ρ1 else none
    | _ => none
def eJs (es : List EF) : EF := fun ρ => (joinF es Str.empty ρ).bind fun (z, ρ1) => some (.val (.str z), ρ1)
theorem jv_run : ∀ {ts : List TE} {es : List EF}, JV K A ts es → ∀ {acc z : Str} {G : Fx} {σ : L2.St} {H : Hp} {ρ ρ' : Rho} {O : Oset}, Rel K A G σ H ρ O → joinF es acc ρ = some (z, ρ') → ∀ Q : Str → Hp → Prop, (∀ H' O', Post K A G σ H ρ O H' ρ' O' → Q z H') → tJs ts acc σ H Q
  | _, _, .nil, acc, z, G, σ, H, ρ, ρ', O, r, e, Q, q => by cases e; exact q H O (.refl r)
  | _, _, .cons he hs, acc, z, G, σ, H, ρ, ρ', O, r, e, Q, q => by
    simp only [joinF, Option.bind_eq_some_iff] at e
    obtain ⟨⟨o, ρ1⟩, h1, t, h2, h3⟩ := e
    refine he G σ H ρ O r o ρ1 h1 _ fun v H1 O0 p0 s0 => ?_
    obtain ⟨O1, p1, s1⟩ := release (vs := [v]) (os := [o]) r p0 (.cons s0 .nil)
    have tp : Top K A H1 O1 v t := (match s1 with | .cons s1 _ => s1.top p1.rel (by rw [tree_fz]; exact h2))
    split at h3
    · split at h3
      · rename_i y hl
        exact ⟨y, tp.str, hl, jv_run hs p1.rel h3 Q fun H2 O2 p2 => q H2 O2 (p1.trans p2)⟩
      · cases h3
    · cases h3
theorem ev_js {ts : List TE} {es : List EF} (h : JV K A ts es) : EV K A (QC.tJoin ts) (eJs es) := fun G σ H ρ O r o ρ' e Q q => by
  simp only [eJs, Option.bind_eq_some_iff] at e
  obtain ⟨⟨z, ρ1⟩, h1, h2⟩ := e
  cases h2
  exact jv_run h r h1 _ fun H' O' p' => q _ H' O' p' (show Rp _ _ _ _ _ from .str _)
/-! ### dicts -/
def eDNew : EF := fun ρ => some (.own (.dct []), ρ)
theorem ev_dnew : EV K A tDNewK eDNew := fun G σ H ρ O r o ρ' e Q q => by
  cases e
  intro p hp
  obtain ⟨O3, p3, r3⟩ := NewR.post (x := .own (.dct [])) r (same_new (o := .dK []) hp) ⟨p, rfl, hp, [], upd_same, .nil⟩
  exact q _ _ O3 p3 r3
def fDcp : List T → Option Opd
  | [.dct ks] => some (.own (.dct ks))
  | _ => none
theorem b_dcp : Bv K A QE.rDcp fDcp := fun H O vs ts o d0 tp e Q q => by
  match ts, e with
  | [.dct ks], e =>
    cases e
    match vs, tp with
    | [_], .cons a .nil =>
      obtain ⟨p, ws, rfl, h2, h3⟩ := a.dct
      exact ⟨p, ws, rfl, h2, fun l hl => q _ _ (same_new hl) ⟨l, rfl, hl, ws, upd_same, h3.mono (Le.of (hide_new hl))⟩⟩
def T.key : T → Option Key
  | .int i => some (.inl i)
  | .str x => some (.inr x)
  | _ => none
theorem Top.key {k : Key} (h : Top K A H O v t) (e : t.key = some k) : v = kV k := by
  cases t <;> simp only [T.key, Option.some.injEq, reduceCtorEq] at e <;> subst e
  · exact h.int
  · exact h.str
theorem Rp.key {k : Key} (h : Rp K A H v t) (e : t.key = some k) : v = kV k := by
  cases t <;> simp only [T.key, Option.some.injEq, reduceCtorEq] at e <;> subst e <;> cases h <;> rfl
def valT (kvs : List (Key × T)) (k : Key) : Option T := (kvs.find? fun kv => decide (kv.1 = k)).map (·.2)
def putKT (kvs : List (Key × T)) (k : Key) (v : T) : List (Key × T) :=
  if (kvs.any fun kv => decide (kv.1 = k)) = true then kvs.map (fun kv => if kv.1 = k then (kv.1, v) else kv) else kvs ++ [(k, v)]
theorem RpK.val {k : Key} : ∀ {vs : List (Key × V)} {ts : List (Key × T)}, RpK K A H vs ts → (∀ t, valT ts k = some t → ∃ v, valV vs k = some v ∧ Rp K A H v t) ∧ (valT ts k = none → valV vs k = none)
  | _, _, .nil => ⟨fun t e => (by cases e), fun _ => rfl⟩
  | _, _, .cons (k := k') a b => by
    obtain ⟨h1, h2⟩ := RpK.val (k := k) b
    unfold valT valV at h1 h2 ⊢
    simp only [List.find?_cons]
    by_cases e : k' = k
    · simp only [e, decide_true, Option.map_some, Option.some.injEq]
      exact ⟨fun t et => ⟨_, rfl, et ▸ a⟩, fun z => by simp at z⟩
    · simp only [e, decide_false]
      exact ⟨h1, h2⟩
theorem RpK.any {k : Key} : ∀ {vs : List (Key × V)} {ts : List (Key × T)}, RpK K A H vs ts → (vs.any fun kv => decide (kv.1 = k)) = ts.any fun kv => decide (kv.1 = k)
  | _, _, .nil => rfl
  | _, _, .cons a b => by simp only [List.any_cons, RpK.any b]
theorem RpK.put {k : Key} (hv : Rp K A H v t) {vs : List (Key × V)} {ts : List (Key × T)} (h : RpK K A H vs ts) : RpK K A H (putK vs k v) (putKT ts k t) := by
  unfold putK putKT
  rw [h.any]
  split
  · rename_i hany
    clear hany
    induction vs generalizing ts with
    | nil => cases h; exact .nil
    | cons x r ih =>
      cases h with
      | cons a b =>
        simp only [List.map_cons]
        split
        · exact .cons hv (ih b)
        · exact .cons a (ih b)
  · have app : ∀ {vs : List (Key × V)} {ts : List (Key × T)}, RpK K A H vs ts → RpK K A H (vs ++ [(k, v)]) (ts ++ [(k, t)]) := by
      intro vs
      induction vs with
      | nil => intro ts h; cases h; exact .cons hv .nil
      | cons x r ih => intro ts h; cases h with | cons a b => exact .cons a (ih b)
    exact app h
theorem RpK.len : ∀ {vs : List (Key × V)} {ts : List (Key × T)}, RpK K A H vs ts → vs.length = ts.length
  | _, _, .nil => rfl
  | _, _, .cons _ b => by simp [RpK.len b]
/-- d[k] -/
def rDGet : R2 := fun x y H2 Q => ∃ a v, x = .ref a ∧ DGet H2 a y (some v) ∧ Q v H2
def fDGet : List T → Option Opd
  | [.dct ks, k] => k.key.bind fun k => (valT ks k).map .val
  | _ => none
theorem b_dget : B2 K A rDGet fDGet := fun H O vs ts o d0 tp e Q q => by
  match ts, e with
  | [.dct ks, k], e =>
    simp only [fDGet, Option.bind_eq_some_iff, Option.map_eq_some_iff] at e
    obtain ⟨k', h1, u, h2, rfl⟩ := e
    match vs, tp with
    | [_, _], .cons a (.cons b .nil) =>
      obtain ⟨p, ws, rfl, h3, h4⟩ := a.dct
      rw [b.key h1]
      obtain ⟨w, h5, h6⟩ := (h4.val (k := k')).1 u h2
      exact ⟨p, w, rfl, .inl ⟨ws, k', h3, rfl, h5.symm⟩, q _ H (Same.refl _) h6⟩
theorem ev_dget {td ty : TE} {d y : EF} (hd : EV K A td d) (hy : EV K A ty y) : EV K A (tDGet td ty) (eB fDGet (aC d (aC y aN))) := ev_op (r := rDGet) hd hy b_dget
/-- k in d -/
def rDIn (neg : Bool) : R2 := fun y x H2 Q => ∃ a o, x = .ref a ∧ DGet H2 a y o ∧ Q (.bl (if neg then !o.isSome else o.isSome)) H2
def fDIn (neg : Bool) : List T → Option Opd
  | [k, .dct ks] => k.key.bind fun k => some (.val (.bl (if neg then !(valT ks k).isSome else (valT ks k).isSome)))
  | _ => none
theorem RpK.isS {k : Key} {vs : List (Key × V)} {ts : List (Key × T)} (h : RpK K A H vs ts) : (valV vs k).isSome = (valT ts k).isSome := by
  cases e : valT ts k with
  | none => rw [((h.val (k := k)).2 e)]; rfl
  | some u => obtain ⟨w, h1, _⟩ := (h.val (k := k)).1 u e; rw [h1]; rfl
theorem b_din {neg : Bool} : B2 K A (rDIn neg) (fDIn neg) := fun H O vs ts o d0 tp e Q q => by
  match ts, e with
  | [k, .dct ks], e =>
    simp only [fDIn, Option.bind_eq_some_iff] at e
    obtain ⟨k', h1, h2⟩ := e
    cases h2
    match vs, tp with
    | [_, _], .cons b (.cons a .nil) =>
      obtain ⟨p, ws, rfl, h3, h4⟩ := a.dct
      rw [b.key h1]
      refine ⟨p, valV ws k', rfl, .inl ⟨ws, k', h3, rfl, rfl⟩, q _ H (Same.refl _) ?_⟩
      rw [h4.isS]
      exact (show Rp _ _ _ _ _ from .bl _)
theorem ev_din {td ty : TE} {d y : EF} (hy : EV K A ty y) (hd : EV K A td d) : EV K A (tDIn ty td) (eB (fDIn false) (aC y (aC d aN))) := ev_op (r := rDIn false) hy hd b_din
theorem ev_dnin {td ty : TE} {d y : EF} (hy : EV K A ty y) (hd : EV K A td d) : EV K A (tDNotIn ty td) (eB (fDIn true) (aC y (aC d aN))) := ev_op (r := rDIn true) hy hd b_din
/-- x[k] = e, x a slot that holds a dict -/
def sDPutF (i : Nat) (y e : EF) : SF := fun ρ => match opened e ρ with
  | some (t, ρ1) => (match y ρ1 with
    | some (o, ρ2) => (match (o.tree ρ2).bind T.key, ρ2[i]? with
      | some k, some s => (match s.held with
        | some (.dct ks) => if ks.length < sizeLine then .nx (ρ2.set i (s.with (.dct (putKT ks k t)))) else .fail
        | _ => .fail)
      | _, _ => .fail)
    | none => .fail)
  | none => .fail
/-! ### enumerate -/
def enumT (ts : List T) : List T := (List.range ts.length).map fun i => .tup [.int (i : Nat), ts.getD i .non]
def iEn (f : EF) : IF := fun ρ => do
  let (t, ρ1) ← opened f ρ
  match t with
  | .lst ts => pure (enumT ts, ρ1)
  | _ => none
theorem iv_enum {te : TE} {f : EF} (he : EV K A te f) : IV K A (iEnum K (tCons te tNil)) (iEn f) := fun G σ H ρ O r ts ρ' e R q => by
  simp only [iEn, Option.bind_eq_bind, Option.bind_eq_some_iff] at e
  obtain ⟨⟨t, ρ1⟩, h1, h2⟩ := e
  split at h2
  · rename_i us h3
    dsimp only at h3
    subst h3
    cases h2
    refine opened_ok he r h1 _ fun v H1 O1 p1 x1 => ?_
    cases x1 with
    | lst h r1 =>
      rename_i a vs
      have hl : (enumT us).length = us.length := by simp [enumT]
      refine ⟨a, vs, rfl, hide_le.sqL h, q _ H1 O1 (fun H O => SqL K (hide H O) a vs ∧ RpL K A (hide H O) vs us) p1 ⟨fun H O H' O' h l => ⟨(Le.of l).sqL h.1, h.2.mono (Le.of l)⟩, fun H O i t h d hi => ?_, fun H O h => ⟨vs, hide_le.sqL h.1, by rw [h.2.len, hl]; exact Nat.le_refl _⟩⟩ ⟨h, r1⟩⟩
      have hi' : i < us.length := by have := (List.getElem?_eq_some_iff.mp hi).1; rwa [hl] at this
      obtain ⟨w, hw, rw⟩ := h.2.get (t := us[i]) (List.getElem?_eq_getElem hi')
      have et : t = .tup [.int (i : Nat), us[i]] := by
        simp [enumT, hi'] at hi
        exact hi.symm
      subst et
      refine ⟨⟨vs, w, hide_le.sqL h.1, hw⟩, fun x H' y => ?_⟩
      obtain ⟨T', x', rfl, hT, rfl, hx⟩ := y
      have := hx vs (hide_le.sqL h.1)
      rw [hw] at this; cases this
      refine ⟨same_new hT, .tup (.inl (.inl (hide_of (fun e => d T' e hT) upd_same))) (.cons (.int _) (.cons (rw.mono (Le.of (hide_newv hT))) .nil))⟩
  · cases h2
/-! ### o.m() by the object's class -/
def eDyn (m : Str) (F : Nat → FF) (e : EF) : EF := fun ρ => do
  let (t, ρ1) ← opened e ρ
  match t with
  | .obj c fs => match fs.lookup m with
    | none => (F c [.val t]).bind fun (o, _) => some (o, ρ1)
    | some _ => none
  | _ => none
theorem ev_dyn {m : Str} {F : Nat → FF} {Pc : Nat → Prop} {ta : TE} {e : EF} (he : EV K A ta e) (hF : ∀ c as r, F c as = some r → Pc c) : EV K A (QC.tDyn0 (ι := { c : Nat // Pc c }) (fun c => A c.1) m (fun c => spF K A (F c.1)) ta) (eDyn m F e) := fun G σ H ρ O r o ρ' ee Q q => by
  simp only [eDyn, Option.bind_eq_bind, Option.bind_eq_some_iff] at ee
  obtain ⟨⟨t, ρ1⟩, h1, h2⟩ := ee
  dsimp only at h2
  split at h2
  · rename_i c fs
    split at h2
    · rename_i hl
      simp only [Option.bind_eq_some_iff] at h2
      obtain ⟨⟨o', as'⟩, h3, h4⟩ := h2
      cases h4
      refine opened_ok he r h1 _ fun v H1 O1 p1 x1 => ?_
      have x1' := x1
      cases x1 with
      | obj h2 h3' =>
        rename_i p dx ws
        refine ⟨⟨c, hF _ _ _ h3⟩, p, dx, ws, rfl, (hide_some.mp h2).2, h3'.none hl, [Sl.val (.obj c fs)], O1, _, _, args_vals (ts := [.obj c fs]) (.cons x1' .nil) p1.rel.dom, h3, fun w H' Ox bk => ?_⟩
        have kp : ∀ p, O1 p → H' p = H1 p := fun p hp => bk.kp p hp (ioA_vals (ts := [.obj c fs]))
        have p3 : Post K A G σ H1 _ O1 H' _ Ox := ⟨p1.rel.called bk.up bk.sub bk.dom bk.le kp bk.lv, bk.le, bk.sub, fun p hp _ => ⟨bk.up p hp, kp p hp⟩, fun _ h => h, bk.lv⟩
        exact q w H' Ox (p1.trans p3) ((bk.res.rl p1.rel fun _ h => h).back p1.lv)
    · cases h2
  · cases h2
/-! ### x += e, ints -/
def sAug (i : Nat) (f : Int → Int → Int) (e : EF) : SF := fun ρ => match ρ[i]? with
  | some (.val (.int x)) => (match (e ρ).bind fun (o, ρ1) => (o.tree ρ1).map fun t => (t, ρ1) with
    | some (.int y, ρ1) => .nx (ρ1.set i (.val (.int (f x y))))
    | _ => .fail)
  | _ => .fail
theorem sv_aug {i : Nat} {f : Int → Int → Int} {te : TE} {e : EF} (he : EV K A te e) : SV K A (tAug i te (ipI f)) (sAug i f e) := fun G σ H ρ O D r h => by
  unfold sAug at h
  split at h
  · rename_i x hx
    split at h
    · rename_i y ρ1 hy
      simp only [Option.bind_eq_some_iff, Option.map_eq_some_iff] at hy
      obtain ⟨⟨o, ρ2⟩, h1, t, h2, h3⟩ := hy
      simp only [Prod.mk.injEq] at h3
      obtain ⟨rfl, rfl⟩ := h3
      obtain ⟨v, hv, rv⟩ := r.val i _ hx
      cases rv
      refine ⟨_, hv, he G σ H ρ O r o _ h1 _ fun v H1 O0 p0 s0 => ?_⟩
      obtain ⟨O1, p1, s1⟩ := release (vs := [v]) (os := [o]) r p0 (.cons s0 .nil)
      have tp : Top K A H1 O1 v (.int y) := (match s1 with | .cons s1 _ => s1.top p1.rel (by rw [tree_fz]; exact h2))
      rw [tp.int]
      exact ⟨x, y, rfl, rfl, h _ H1 O1 ⟨p1.rel.put (.int _), p1.le, p1.lv⟩⟩
    · exact h.elim
  · exact h.elim
/-! ### short forms -/
def e1 (f : List T → Option Opd) (a : EF) : EF := eB f (aC a aN)
def e2 (f : List T → Option Opd) (a b : EF) : EF := eB f (aC a (aC b aN))
def fAdd : List T → Option Opd := fI0 fun i j => .int (i + j)
def fSub : List T → Option Opd := fI0 fun i j => .int (i - j)
def fMul : List T → Option Opd := fI CMul fun i j => .int (i * j)
def fMod : List T → Option Opd := fI (fun _ j => 0 < j) fun i j => .int (i % j)
def fFdiv : List T → Option Opd := fI CDivW fun i j => .int (i / j)
def fPow : List T → Option Opd := fI CPow fun i j => .int (i ^ j.toNat)
def fLt : List T → Option Opd := fI0 fun i j => .bl (decide (i < j))
def fLe : List T → Option Opd := fI0 fun i j => .bl (decide (i ≤ j))
def fGt : List T → Option Opd := fI0 fun i j => .bl (decide (j < i))
def fGe : List T → Option Opd := fI0 fun i j => .bl (decide (j ≤ i))
def fNeg : List T → Option Opd := fU fun i => .int (-i)
end
end QT

set_option Elab.async false
set_option linter.all false
set_option maxRecDepth 100000
set_option maxHeartbeats 4000000
namespace QT
open PySem PySem.Spec PyProof.Rows L2 QB
section
variable {K : PySem.W.Frag} {A : Nat → Addr} {G : Fx} {σ : L2.St} {ρ ρ' : Rho} {H H' : Hp} {O : Oset} {p : Addr} {t t' : T} {v : V} {i : Nat}
/-! ### x[j] = e, x a slot -/
def readI (e : EF) : Rho → Option (T × Rho) := fun ρ => (e ρ).bind fun (o, ρ1) => (o.tree ρ1).map fun t => (t, ρ1)
theorem readI_ok {te : TE} {e : EF} (he : EV K A te e) (r : Rel K A G σ H ρ O) (h : readI e ρ = some (t, ρ')) (Q : VK) (q : ∀ v H' O', Post K A G σ H ρ O H' ρ' O' → Top K A H' O' v t → Q v H') : te σ H Q := by
  simp only [readI, Option.bind_eq_some_iff, Option.map_eq_some_iff] at h
  obtain ⟨⟨o, ρ2⟩, h1, u, h2, h3⟩ := h
  simp only [Prod.mk.injEq] at h3
  obtain ⟨rfl, rfl⟩ := h3
  refine he G σ H ρ O r o _ h1 _ fun v H1 O0 p0 s0 => ?_
  obtain ⟨O1, p1, s1⟩ := release (vs := [v]) (os := [o]) r p0 (.cons s0 .nil)
  exact q v H1 O1 p1 (match s1 with | .cons s1 _ => s1.top p1.rel (by rw [tree_fz]; exact h2))
def sSetL (i : Nat) (j e : EF) : SF := fun ρ => match opened e ρ with
  | some (t, ρ1) => (match ρ1[i]?.bind Sl.held, readI j ρ1 with
    | some _, some (.int k, ρ2) => (match ρ2[i]? with
      | some s => (match s.held with
        | some (.lst xs) => (match ixN xs.length k with
          | some n => .nx (ρ2.set i (s.with (.lst (xs.set n t))))
          | none => .fail)
        | _ => .fail)
      | none => .fail)
    | _, _ => .fail)
  | none => .fail
theorem slot_some (r : Rel K A G σ H ρ O) {s : Sl} (hs : ρ[i]? = some s) (ht : s.held = some t) : ∃ p, σ[i]? = some (some (V.ref p)) := by
  obtain ⟨_, p, h, _⟩ := held_at r hs ht
  exact ⟨p, h⟩
theorem sv_setL {te tj : TE} {e j : EF} (he : EV K A te e) (hj : EV K A tj j) : SV K A (tAsg te (gSub (tVar i) tj rSetL)) (sSetL i j e) := fun G σ H ρ O D r h => by
  unfold sSetL at h
  split at h
  · rename_i t ρ1 h1
    split at h
    · rename_i t0 k ρ2 h0 h2
      split at h
      · rename_i s h3
        split at h
        · rename_i xs h4
          split at h
          · rename_i n h5
            refine opened_ok he r h1 _ fun v H1 O1 p1 rv => ?_
            -- the slot's value does not change
            have key : ∀ w, σ[i]? = some (some w) → gSub (tVar i) tj rSetL v σ H1 D.nx := fun w hw => by
              refine ⟨w, hw, readI_ok hj p1.rel h2 _ fun u H2 O2 p2 tp => ?_⟩
              obtain ⟨hol, p, hp, hO, hx⟩ := held_at p2.rel h3 h4
              rw [hw] at hp; cases hp
              obtain ⟨ws, hw1, hw2⟩ := hx
              rw [tp.int]
              refine ⟨p, ws, k, n, rfl, rfl, hw1, by rw [hw2.len]; exact h5, ?_⟩
              have rm := p2.rel.mut (o := .lst (ws.set n v)) (t' := .lst (xs.set n t)) h3 (held_or h4) hw ⟨_, upd_same, hw2.set (rv.mono (Le.of p2.le)) n⟩
              exact h σ _ O2 ⟨rm, by rw [hide_upd hO]; exact (p1.trans p2).le, lv_upd (p1.trans p2).lv⟩
            simp only [Option.bind_eq_some_iff] at h0
            obtain ⟨s0, h01, h02⟩ := h0
            obtain ⟨p0, hp0⟩ := slot_some p1.rel h01 h02
            exact key _ hp0
          · exact h.elim
        · exact h.elim
      · exact h.elim
    · exact h.elim
  · exact h.elim
end
end QT

set_option Elab.async false
set_option linter.all false
set_option maxRecDepth 100000
set_option maxHeartbeats 4000000
namespace QT
open PySem PySem.Spec PyProof.Rows L2 QB
section
variable {K : PySem.W.Frag} {A : Nat → Addr} {G : Fx} {σ : L2.St} {ρ ρ' : Rho} {H H' : Hp} {O : Oset} {p : Addr} {t t' : T} {v : V} {i : Nat}
/-! ### calls to which slots are lent -/
/-- an argument: a tree, or a slot that is lent -/
abbrev Ag := T ⊕ Nat
def mkA : List Bool → List Opd → Rho → Option (List Ag × Rho)
  | [], [], ρ => some ([], ρ)
  | b :: fl, o :: os, ρ => match b, o with
    | true, .slot i => (match ρ[i]?.bind Sl.held with
      | some _ => (mkA fl os ρ).bind fun (as, ρ2) => some (.inr i :: as, ρ2)
      | none => (share o ρ).bind fun (t, ρ1) => (mkA fl os ρ1).bind fun (as, ρ2) => some (.inl t :: as, ρ2))
    | _, _ => (share o ρ).bind fun (t, ρ1) => (mkA fl os ρ1).bind fun (as, ρ2) => some (.inl t :: as, ρ2)
  | _, _, _ => none
def fillA (ρ : Rho) : List Ag → Option (List Sl)
  | [] => some []
  | .inl t :: r => (fillA ρ r).bind fun as => some (.val t :: as)
  | .inr i :: r => (ρ[i]?.bind Sl.held).bind fun t => (fillA ρ r).bind fun as => some (.io t :: as)
def lentA : List Ag → List Nat
  | [] => []
  | .inl _ :: r => lentA r
  | .inr i :: r => i :: lentA r
def backA : List Ag → List Sl → Rho → Option Rho
  | [], _, ρ => some ρ
  | .inl _ :: r, _ :: as, ρ => backA r as ρ
  | .inr i :: r, .io t :: as, ρ => (ρ[i]?).bind fun s => backA r as (ρ.set i (s.with t))
  | _, _, _ => none
def eCallL (F : FF) (fl : List Bool) (a : AF) : EF := fun ρ => do
  let (os, ρ1) ← a ρ
  let (gs, ρ2) ← mkA fl os ρ1
  let as ← fillA ρ2 gs
  if (lentA gs).Nodup then
    let (o, as') ← F as
    let ρ3 ← backA gs as' ρ2
    pure (o, ρ3)
  else none
/-- a value and its argument -/
def Ra (K : PySem.W.Frag) (A : Nat → Addr) (σ : L2.St) (H : Hp) (O : Oset) : V → Ag → Prop
  | v, .inl t => Rp K A (hide H O) v t
  | v, .inr i => σ[i]? = some (some v)
theorem mkA_ok : ∀ {fl : List Bool} {vs : List V} {os : List Opd} {gs : List Ag} {ρ ρ' : Rho} {O : Oset}, Rel K A G σ H ρ O → Paired (Rv K A σ H O) vs os → mkA fl os ρ = some (gs, ρ') → ∃ O', Post K A G σ H ρ O H ρ' O' ∧ Paired (Ra K A σ H O') vs gs
  | [], _, [], _, _, _, O, r, .nil, e => by cases e; exact ⟨O, .refl r, .nil⟩
  | [], _, _ :: _, _, _, _, O, r, _, e => by cases e
  | _ :: _, _, [], _, _, _, O, r, _, e => by cases e
  | b :: fl, v :: vs, o :: os, gs, ρ, ρ', O, r, .cons a c, e => by
    have sh : ((share o ρ).bind fun (t, ρ1) => (mkA fl os ρ1).bind fun (as, ρ2) => some ((.inl t : Ag) :: as, ρ2)) = some (gs, ρ') → ∃ O', Post K A G σ H ρ O H ρ' O' ∧ Paired (Ra K A σ H O') (v :: vs) gs := fun e => by
      simp only [Option.bind_eq_some_iff] at e
      obtain ⟨⟨t, ρ1⟩, h1, ⟨as, ρ2⟩, h2, h3⟩ := e
      cases h3
      obtain ⟨O1, p1, x1⟩ := share_ok r a h1
      obtain ⟨O2, p2, x2⟩ := mkA_ok p1.rel (paired_map (fun _ _ z => Rv.up z p1.le) c) h2
      exact ⟨O2, p1.trans p2, .cons (show Rp K A _ _ _ from x1.mono (Le.of p2.le)) x2⟩
    unfold mkA at e
    split at e
    · split at e
      · simp only [Option.bind_eq_some_iff] at e
        obtain ⟨⟨as, ρ2⟩, h2, h3⟩ := e
        cases h3
        obtain ⟨O2, p2, x2⟩ := mkA_ok r c h2
        exact ⟨O2, p2, .cons a x2⟩
      · exact sh e
    · exact sh e
theorem fill_get : ∀ {gs : List Ag} {as : List Sl} {vs : List V}, Paired (Ra K A σ H O) vs gs → fillA ρ gs = some as → vs.length = as.length ∧
    (∀ (k : Nat) (t : T), as[k]? = some (Sl.val t) → ∃ v, vs[k]? = some v ∧ Rp K A (hide H O) v t) ∧
    (∀ (k : Nat) (t : T), as[k]? = some (Sl.io t) → ∃ (v : V) (i : Nat), vs[k]? = some v ∧ gs[k]? = some (Sum.inr i) ∧ σ[i]? = some (some v) ∧ ρ[i]?.bind Sl.held = some t) ∧ (∀ (k : Nat) (t : T), as[k]? ≠ some (Sl.own t)) ∧
    (∀ (k i : Nat), gs[k]? = some (Sum.inr i) → ∃ t, as[k]? = some (Sl.io t))
  | [], _, _, .nil, e => by cases e; exact ⟨rfl, by simp, by simp, by simp, by simp⟩
  | .inl u :: gs, _, v :: vs, .cons a b, e => by
    simp only [fillA, Option.bind_eq_some_iff] at e
    obtain ⟨as, h1, h2⟩ := e
    cases h2
    obtain ⟨l, h3, h4, h5, h6⟩ := fill_get b h1
    refine ⟨by simp [l], fun k t e => ?_, fun k t e => ?_, fun k t e => ?_, fun k i e => ?_⟩
    · cases k with
      | zero => cases e; exact ⟨v, rfl, a⟩
      | succ k => exact h3 k t e
    · cases k with
      | zero => cases e
      | succ k => exact h4 k t e
    · cases k with
      | zero => cases e
      | succ k => exact h5 k t e
    · cases k with
      | zero => cases e
      | succ k => exact h6 k i e
  | .inr j :: gs, _, v :: vs, .cons a b, e => by
    simp only [fillA, Option.bind_eq_some_iff] at e
    obtain ⟨t0, ⟨s0, h01, h02⟩, as, h1, h2⟩ := e
    cases h2
    obtain ⟨l, h3, h4, h5, h6⟩ := fill_get b h1
    refine ⟨by simp [l], fun k t e => ?_, fun k t e => ?_, fun k t e => ?_, fun k i e => ?_⟩
    · cases k with
      | zero => cases e
      | succ k => exact h3 k t e
    · cases k with
      | zero => cases e; exact ⟨v, j, rfl, rfl, a, by rw [h01]; exact h02⟩
      | succ k => exact h4 k t e
    · cases k with
      | zero => cases e
      | succ k => exact h5 k t e
    · cases k with
      | zero => cases e; exact ⟨t0, rfl⟩
      | succ k => exact h6 k i e
theorem lent_in : ∀ {gs : List Ag} {i : Nat}, i ∈ lentA gs ↔ ∃ k : Nat, gs[k]? = some (Sum.inr i)
  | [], i => by simp [lentA]
  | .inl u :: gs, i => by
    simp only [lentA, lent_in (gs := gs)]
    constructor
    · rintro ⟨k, h⟩; exact ⟨k + 1, h⟩
    · rintro ⟨k, h⟩
      cases k with
      | zero => cases h
      | succ k => exact ⟨k, h⟩
  | .inr j :: gs, i => by
    simp only [lentA, List.mem_cons, lent_in (gs := gs)]
    constructor
    · rintro (rfl | ⟨k, h⟩)
      · exact ⟨0, rfl⟩
      · exact ⟨k + 1, h⟩
    · rintro ⟨k, h⟩
      cases k with
      | zero => cases h; exact .inl rfl
      | succ k => exact .inr ⟨k, h⟩
theorem lent_nd : ∀ {gs : List Ag} {i k l : Nat}, (lentA gs).Nodup → gs[k]? = some (Sum.inr i) → gs[l]? = some (Sum.inr i) → k = l
  | [], _, _, _, _, h, _ => by simp at h
  | .inl u :: gs, i, k, l, nd, h1, h2 => by
    cases k with
    | zero => cases h1
    | succ k =>
      cases l with
      | zero => cases h2
      | succ l => rw [lent_nd (gs := gs) nd h1 h2]
  | .inr j :: gs, i, k, l, nd, h1, h2 => by
    simp only [lentA, List.nodup_cons] at nd
    cases k with
    | zero =>
      cases h1
      cases l with
      | zero => rfl
      | succ l => exact absurd (lent_in.mpr ⟨l, h2⟩) nd.1
    | succ k =>
      cases l with
      | zero => cases h2; exact absurd (lent_in.mpr ⟨k, h1⟩) nd.1
      | succ l => rw [lent_nd (gs := gs) nd.2 h1 h2]
/-- what stands in the slots behind -/
theorem back_get : ∀ {gs : List Ag} {as : List Sl} {ρ ρ' : Rho}, (lentA gs).Nodup → backA gs as ρ = some ρ' → ρ'.length = ρ.length ∧ (∀ j : Nat, j ∉ lentA gs → ρ'[j]? = ρ[j]?) ∧
    (∀ (k i : Nat), gs[k]? = some (Sum.inr i) → ∃ (t : T) (s : Sl), as[k]? = some (Sl.io t) ∧ ρ[i]? = some s ∧ ρ'[i]? = some (s.with t))
  | [], _, ρ, ρ', _, e => by cases e; exact ⟨rfl, fun _ _ => rfl, by simp⟩
  | .inl u :: gs, [], ρ, ρ', nd, e => by cases e
  | .inl u :: gs, a :: as, ρ, ρ', nd, e => by
    simp only [backA] at e
    obtain ⟨h1, h2, h3⟩ := back_get (gs := gs) nd e
    refine ⟨h1, h2, fun k i h => ?_⟩
    cases k with
    | zero => cases h
    | succ k => exact h3 k i h
  | .inr j :: gs, [], ρ, ρ', nd, e => by cases e
  | .inr j :: gs, .no :: as, ρ, ρ', nd, e => by cases e
  | .inr j :: gs, .val _ :: as, ρ, ρ', nd, e => by cases e
  | .inr j :: gs, .own _ :: as, ρ, ρ', nd, e => by cases e
  | .inr j :: gs, .io t :: as, ρ, ρ', nd, e => by
    simp only [backA, Option.bind_eq_some_iff] at e
    obtain ⟨s, hs, e⟩ := e
    simp only [lentA, List.nodup_cons] at nd
    obtain ⟨h1, h2, h3⟩ := back_get (gs := gs) nd.2 e
    have lt : j < ρ.length := (List.getElem?_eq_some_iff.mp hs).1
    refine ⟨by rw [h1, List.length_set], fun l hl => ?_, fun k i h => ?_⟩
    · simp only [lentA, List.mem_cons, not_or] at hl
      rw [h2 l hl.2, set_ne hl.1]
    · cases k with
      | zero =>
        cases h
        refine ⟨t, s, rfl, hs, ?_⟩
        rw [h2 j nd.1, set_eq lt]
      | succ k =>
        obtain ⟨t', s', x1, x2, x3⟩ := h3 k i h
        have ne : i ≠ j := fun z => nd.1 (z ▸ lent_in.mpr ⟨k, h⟩)
        rw [set_ne ne] at x2
        exact ⟨t', s', x1, x2, x3⟩
theorem ev_callL {F : FF} {fl : List Bool} {tl : TA} {a : AF} {E : XK} (ha : AV K A tl a) : EV K A (tCall (spF K A F) [] E tl) (eCallL F fl a) := fun G σ H ρ O r o ρ' e Q q => by
  simp only [eCallL, Option.bind_eq_bind, Option.bind_eq_some_iff] at e
  obtain ⟨⟨os, ρ1⟩, h1, ⟨gs, ρ2⟩, h2, as, h3, h4⟩ := e
  split at h4
  · rename_i nd
    simp only [Option.bind_eq_some_iff] at h4
    obtain ⟨⟨o', as'⟩, h5, ρ3, h6, h7⟩ := h4
    simp only [Option.pure_def, Option.some.injEq, Prod.mk.injEq] at h7
    obtain ⟨rfl, rfl⟩ := h7
    dsimp only at h3 h5 h6 nd
    refine ha G σ H ρ O r os ρ1 h1 _ fun vs H1 O0 p0 s0 _ => ?_
    obtain ⟨O1, p1, s1⟩ := release r p0 s0
    -- the operands let go
    have h2' : mkA fl (os.map Opd.fz) ρ1 = some (gs, ρ2) := by
      have : ∀ (fl : List Bool) (os : List Opd) (ρ : Rho), mkA fl (os.map Opd.fz) ρ = mkA fl os ρ := fun fl os => by
        induction os generalizing fl with
        | nil => intro ρ; rfl
        | cons x xs ih =>
          intro ρ
          cases fl with
          | nil => rfl
          | cons b fl =>
            cases x <;> cases b <;> simp only [List.map_cons, Opd.fz, mkA, share, ih]
      rw [this]; exact h2
    obtain ⟨O2, p2, x2⟩ := mkA_ok p1.rel s1 h2'
    have p12 := p1.trans p2
    rw [List.append_nil]
    obtain ⟨hl, hv, hio, hown, hlent⟩ := fill_get x2 h3
    have r2 := p12.rel
    have at_ : ∀ (k i : Nat), gs[k]? = some (Sum.inr i) → ∃ p s t, vs[k]? = some (V.ref p) ∧ σ[i]? = some (some (V.ref p)) ∧ ρ2[i]? = some s ∧ s.held = some t ∧ hold ρ2 i ∧ O2 p ∧ Own1 K A H1 (hide H1 O2) p t ∧ as[k]? = some (Sl.io t) := fun k i hk => by
      obtain ⟨t, ht⟩ := hlent k i hk
      obtain ⟨w, i', hw, hg, hσ, hb⟩ := hio k t ht
      rw [hk] at hg; cases hg
      simp only [Option.bind_eq_some_iff] at hb
      obtain ⟨s, hs1, hs2⟩ := hb
      obtain ⟨hol, p, hp, hO, hw2⟩ := held_at r2 hs1 hs2
      rw [hσ] at hp; cases hp
      exact ⟨p, s, t, hw, hσ, hs1, hs2, hol, hO, hw2, ht⟩
    have args : Args K A vs H1 as O2 := by
      refine ⟨hl, hv, fun k t hk => ?_, hown, fun k l t u p hk1 hk2 hp1 hp2 => ?_, r2.dom⟩
      · obtain ⟨w, i, hw, hg, hσ, hb⟩ := hio k t hk
        obtain ⟨p, s, t', h8, h9, h10, h11, h12, h13, h14, h15⟩ := at_ k i hg
        rw [hk] at h15; cases h15
        exact ⟨p, h8, h13, h14⟩
      · obtain ⟨w, i, hw, hg, hσ, hb⟩ := hio k t hk1
        obtain ⟨w', i', hw', hg', hσ', hb'⟩ := hio l u hk2
        rw [hp1] at hw; cases hw
        rw [hp2] at hw'; cases hw'
        obtain ⟨p1', _, _, _, h9, _, _, h12, _⟩ := at_ k i hg
        obtain ⟨p2', _, _, _, h9', _, _, h12', _⟩ := at_ l i' hg'
        have : i = i' := r2.inj i i' p h12 h12' hσ hσ'
        subst this
        exact lent_nd nd hg hg'
    refine ⟨as, O2, _, _, args, h5, fun w H' Ox bk => ?_⟩
    obtain ⟨bl, bo, bi⟩ := back_get nd h6
    have ioL : ∀ q, ioA vs as q → ∃ i ∈ lentA gs, σ[i]? = some (some (V.ref q)) := fun q ⟨k, t, hk, hq⟩ => by
      obtain ⟨w, i, hw, hg, hσ, hb⟩ := hio k t hk
      rw [hq] at hw; cases hw
      exact ⟨i, lent_in.mpr ⟨k, hg⟩, hσ⟩
    have kp : ∀ q, O2 q → (∀ i ∈ lentA gs, σ[i]? ≠ some (some (V.ref q))) → H' q = H1 q := fun q hq n => bk.kp q hq fun z => by
      obtain ⟨i, hi, hσ⟩ := ioL q z
      exact n i hi hσ
    -- the slots behind the call
    have lk : ∀ i ∈ lentA gs, ∃ s t p t', ρ2[i]? = some s ∧ (s = .own t ∨ s = .io t) ∧ ρ3[i]? = some (s.with t') ∧ σ[i]? = some (some (V.ref p)) ∧ hold ρ2 i ∧ O2 p ∧ Own1 K A H' (hide H' Ox) p t' := fun i hi => by
      obtain ⟨k, hk⟩ := lent_in.mp hi
      obtain ⟨p, s, t, h8, h9, h10, h11, h12, h13, h14, h15⟩ := at_ k i hk
      obtain ⟨t', s', b1, b2, b3⟩ := bi k i hk
      rw [h10] at b2; cases b2
      obtain ⟨p', c1, c2⟩ := bk.io k t' b1
      rw [h8] at c1; cases c1
      exact ⟨s, t, p, t', h10, held_or h11, b3, h9, h12, h13, c2⟩
    have hs3 : ∀ j, hold ρ3 j → hold ρ2 j := fun j hj => by
      by_cases hm : j ∈ lentA gs
      · obtain ⟨_, _, _, _, _, _, _, _, h, _⟩ := lk j hm; exact h
      · obtain ⟨t, hj⟩ := hj
        rw [bo j hm] at hj
        exact ⟨t, hj⟩
    have nq : ∀ (j : Nat) (q : Addr), j ∉ lentA gs → hold ρ2 j → σ[j]? = some (some (V.ref q)) → ∀ i ∈ lentA gs, σ[i]? ≠ some (some (V.ref q)) := fun j q hm hj hσ i hi hx => by
      obtain ⟨_, _, _, _, _, _, _, _, h, _⟩ := lk i hi
      exact hm (r2.inj j i q hj h hσ hx ▸ hi)
    have rn : Rel K A G σ H' ρ3 Ox := by
      refine ⟨by rw [bl]; exact r2.len, fun j u e => ?_, fun j u e => ?_, fun j u e => ?_, fun j k q a b => r2.inj j k q (hs3 j a) (hs3 k b), bk.dom, fun p e => bk.up p (r2.sub p e), r2.isub, fun q e n => ?_, fun q e n => ?_, fun a e => bk.lv a (r2.live a e)⟩
      · by_cases hm : j ∈ lentA gs
        · obtain ⟨s, t, p, t', _, hh, b3, _⟩ := lk j hm
          rw [b3] at e
          rcases hh with rfl | rfl <;> cases e
        · rw [bo j hm] at e
          obtain ⟨w', c1, c2⟩ := r2.val j u e
          exact ⟨w', c1, c2.mono (Le.of bk.le)⟩
      · by_cases hm : j ∈ lentA gs
        · obtain ⟨s, t, p, t', a1, hh, b3, a2, a3, a4, a5⟩ := lk j hm
          rw [b3] at e
          rcases hh with rfl | rfl <;> cases e
          obtain ⟨p', c1, c2, c3, _⟩ := r2.own j t a1
          rw [a2] at c1; cases c1
          exact ⟨p, a2, bk.up p a4, c3, a5⟩
        · rw [bo j hm] at e
          obtain ⟨p', c1, c2, c3, c4⟩ := r2.own j u e
          exact ⟨p', c1, bk.up p' c2, c3, c4.mono (kp p' c2 (nq j p' hm ⟨u, .inl e⟩ c1)) (Le.of bk.le)⟩
      · by_cases hm : j ∈ lentA gs
        · obtain ⟨s, t, p, t', a1, hh, b3, a2, a3, a4, a5⟩ := lk j hm
          rw [b3] at e
          rcases hh with rfl | rfl <;> cases e
          obtain ⟨p', c1, c2, c3, _⟩ := r2.io j t a1
          rw [a2] at c1; cases c1
          exact ⟨p, a2, c2, c3, a5⟩
        · rw [bo j hm] at e
          obtain ⟨p', c1, c2, c3, c4⟩ := r2.io j u e
          exact ⟨p', c1, c2, c3, c4.mono (kp p' (r2.sub p' (r2.isub p' c2)) (nq j p' hm ⟨u, .inr e⟩ c1)) (Le.of bk.le)⟩
      · refine (kp q (r2.sub q e) fun i hi hx => ?_).trans (r2.fr q e n)
        obtain ⟨s, t, p, t', a1, hh, b3, a2, a3, a4, a5⟩ := lk i hi
        rw [hx] at a2; cases a2
        rcases hh with rfl | rfl
        · obtain ⟨p', c1, c2, c3, _⟩ := r2.own i t a1
          rw [hx] at c1; cases c1
          exact c3 e
        · obtain ⟨p', c1, c2, _⟩ := r2.io i t a1
          rw [hx] at c1; cases c1
          exact n c2
      · rcases bk.sub q e with h | h
        · exact r2.new q h n
        · exact (r2.fresh h).2.2
    have p3 : Post K A G σ H1 ρ2 O2 H' ρ3 Ox := ⟨rn, bk.le, bk.sub, fun q hq un => ⟨bk.up q hq, kp q hq fun i hi hx => by
      obtain ⟨_, _, _, _, _, _, _, _, h, _⟩ := lk i hi
      exact un i h hx⟩, hs3, bk.lv⟩
    exact q w H' Ox (p12.trans p3) ((bk.res.rl r2 hs3).back p12.lv)
  · cases h4
end
end QT

set_option Elab.async false
set_option linter.all false
set_option maxRecDepth 100000
set_option maxHeartbeats 4000000
namespace QT
open PySem PySem.Spec PyProof.Rows L2 QB
section
variable {K : PySem.W.Frag} {A : Nat → Addr} {G : Fx} {σ : L2.St} {ρ ρ' : Rho} {H H' : Hp} {O : Oset} {p : Addr} {t t' : T} {v : V} {i : Nat}
/-! ### a comprehension over what a slot holds: it is put aside meanwhile -/
def eLcX (en : Bool) (i : Nat) (s : T → Rho → Option Rho) (tt : BF) (el : EF) (vs : List Nat) : EF := fun ρ => match ρ[i]? with
  | none => none
  | some s0 => match s0.held with
    | some (.lst ts) => if ts.length < sizeLine then
        (compF s tt el vs (if en then enumT ts else ts) (wipeR (ρ.set i .no) vs)).bind fun (us, ρ2) => some (.own (.lst us), ρ2.set i s0)
      else none
    | _ => eLc (if en then iEn (eVar i) else iL (eVar i)) s tt el vs ρ
theorem compF_len {s : T → Rho → Option Rho} {tt : BF} {el : EF} {vs : List Nat} : True := trivial
/-- a slot that was put aside holds its thing again -/
theorem Rel.again {s0 : Sl} (r : Rel K A G σ H ρ O) (hi : σ[i]? = some (some (V.ref p))) (hO : O p) (un : unheld σ ρ p) (hw : Own1 K A H (hide H O) p t) (hh : (s0 = .own t ∧ ¬ G.O0 p) ∨ (s0 = .io t ∧ G.I p ∧ G.σ0[i]? = some (some (V.ref p)))) : Rel K A G σ H (ρ.set i s0) O := by
  have nh : ∀ j q, hold ρ j → σ[j]? = some (some (V.ref q)) → q ≠ p := fun j q h e x => un j h (x ▸ e)
  have hs : ∀ j, hold (ρ.set i s0) j → j = i ∨ (j ≠ i ∧ hold ρ j) := fun j hj => by
    rcases hold_set hj with ⟨h, _⟩ | h
    · exact .inl h
    · exact .inr h
  refine ⟨by rw [List.length_set]; exact r.len, fun j u e => ?_, fun j u e => ?_, fun j u e => ?_, fun j k q h1 h2 e1 e2 => ?_, r.dom, r.sub, r.isub, r.fr, r.new, r.live⟩
  · rcases set_get e with ⟨rfl, e'⟩ | ⟨n, e⟩
    · rcases hh with ⟨rfl, _⟩ | ⟨rfl, _⟩ <;> cases e'
    · exact r.val j u e
  · rcases set_get e with ⟨rfl, e'⟩ | ⟨n, e⟩
    · rcases hh with ⟨rfl, n0⟩ | ⟨rfl, _⟩ <;> cases e'
      exact ⟨p, hi, hO, n0, hw⟩
    · exact r.own j u e
  · rcases set_get e with ⟨rfl, e'⟩ | ⟨n, e⟩
    · rcases hh with ⟨rfl, _⟩ | ⟨rfl, h1, h2⟩ <;> cases e'
      exact ⟨p, hi, h1, h2, hw⟩
    · exact r.io j u e
  · rcases hs j h1 with rfl | ⟨n1, b1⟩ <;> rcases hs k h2 with rfl | ⟨n2, b2⟩
    · rfl
    · rw [hi] at e1; cases e1; exact absurd rfl (nh k p b2 e2)
    · rw [hi] at e2; cases e2; exact absurd rfl (nh j p b1 e1)
    · exact r.inj j k q b1 b2 e1 e2
theorem ev_lcX {en : Bool} {wi : TI} {g : TG} {tt : TT} {te : TE} {vs is : List Nat} {s : T → Rho → Option Rho} {bt : BF} {el : EF} (hw : wi = if en then iEnum K (tCons (tVar i) tNil) else iList K (tVar i)) (hg : GV K A is g s) (ht : TV K A tt bt) (he : EV K A te el) (hv : ∀ j ∈ is, j ∈ vs) : EV K A (tLc wi g tt te vs) (eLcX en i s bt el vs) := fun G σ H ρ O r o ρf e Q q => by
  have hV : EV K A (tLc wi g tt te vs) (eLc (if en then iEn (eVar i) else iL (eVar i)) s bt el vs) := by
    subst hw
    cases en with
    | true => exact ev_lc (iv_enum ev_var) hg ht he hv
    | false => exact ev_lc (iv_lst ev_var) hg ht he hv
  unfold eLcX at e
  cases hs0 : ρ[i]? with
  | none => rw [hs0] at e; cases e
  | some s0 =>
    rw [hs0] at e
    dsimp only at e
    split at e
    · rename_i ts ht0
      split at e
      · rename_i hsz
        simp only [Option.bind_eq_some_iff] at e
        obtain ⟨⟨us, ρe⟩, h3, h4⟩ := e
        simp only [Option.some.injEq, Prod.mk.injEq] at h4
        obtain ⟨rfl, rfl⟩ := h4
        obtain ⟨hol, a, ha, hO, hown⟩ := held_at r hs0 ht0
        obtain ⟨ws, hw1, hw2⟩ := hown
        have rk : Rel K A G σ H (ρ.set i .no) O := r.kill
        have hsk : ∀ j, hold (ρ.set i .no) j → j ≠ i ∧ hold ρ j := fun j hj => by
          rcases hold_set hj with ⟨_, _, hx | hx⟩ | hx
          · cases hx
          · cases hx
          · exact hx
        have una : unheld σ (ρ.set i .no) a := fun j hj ej => (hsk j hj).1 (r.inj j i a (hsk j hj).2 hol ej ha)
        have Iv0 : ∀ H' O', (O' a ∧ H' a = some (.lst ws) ∧ RpL K A (hide H' O') ws ts) → SqL K H' a ws := fun H' O' h => SqL.of h.2.1
        have hl : (if en then enumT ts else ts).length = ts.length := by cases en <;> simp [enumT]
        have fin : ∀ v H' O', Post K A G σ H (ρ.set i .no) O H' ρe O' → Rl K A σ H H' ρe O' v (.own (.lst us)) → Q v H' := fun v H' O' p2 r2 => by
          obtain ⟨k1, k2⟩ := p2.keep a hO una
          have un2 : unheld σ ρe a := una.up p2.hs
          have own2 : Own1 K A H' (hide H' O') a (.lst ts) := ⟨ws, k2.trans hw1, hw2.mono (Le.of p2.le)⟩
          have hh : (s0 = .own (.lst ts) ∧ ¬ G.O0 a) ∨ (s0 = .io (.lst ts) ∧ G.I a ∧ G.σ0[i]? = some (some (V.ref a))) := by
            rcases held_or ht0 with e | e
            · subst e
              obtain ⟨p', c1, _, c3, _⟩ := r.own i _ hs0
              rw [ha] at c1; cases c1
              exact .inl ⟨rfl, c3⟩
            · subst e
              obtain ⟨p', c1, c2, c3, _⟩ := r.io i _ hs0
              rw [ha] at c1; cases c1
              exact .inr ⟨rfl, c2, c3⟩
          have r3 := p2.rel.again ha k1 un2 own2 hh
          have hs3 : ∀ j, hold (ρe.set i s0) j → hold ρ j := fun j hj => by
            rcases hold_set hj with ⟨e, _⟩ | ⟨_, h⟩
            · subst e; exact hol
            · exact (hsk j (p2.hs j h)).2
          refine q v H' O' ⟨r3, p2.le, p2.sub, fun x hx un => p2.keep x hx fun j hj => un j (hsk j hj).2, hs3, p2.lv⟩ ?_
          obtain ⟨D, e1, tm⟩ := r2
          refine ⟨D, e1, tm.new, tm.hid, fun j hj ej => ?_, tm.own⟩
          rcases hold_set hj with ⟨e, _⟩ | ⟨_, h⟩
          · subst e
            rw [ha] at ej; cases ej
            exact r.dom a hO tm.new
          · exact tm.un j h ej
        subst hw
        cases en with
        | false =>
          refine ⟨_, ha, a, rfl, ⟨ws, SqL.of hw1⟩, ?_⟩
          refine lc_at hg ht he hv rk (ts := ts) (Iv := fun H' O' => O' a ∧ H' a = some (.lst ws) ∧ RpL K A (hide H' O') ws ts) (Ka := fun x => x = a) ⟨fun H1 O1 H2 O2 h l k => ?_, fun H1 O1 k t h d hi => ?_, fun H1 O1 h => ⟨ws, SqL.of h.2.1, by rw [h.2.2.len]; exact Nat.le_refl _⟩⟩ ⟨hO, hw1, hw2⟩ (fun x hx => by subst hx; exact ⟨hO, una⟩) hsz h3 fin
          · obtain ⟨k1, k2⟩ := k a rfl
            exact ⟨k1, k2.trans h.2.1, h.2.2.mono (Le.of l)⟩
          · obtain ⟨w, hw, rw⟩ := h.2.2.get hi
            refine ⟨⟨ws, w, SqL.of h.2.1, hw⟩, fun x H' y => ?_⟩
            obtain ⟨rfl, y⟩ := y
            have := y ws (SqL.of h.2.1)
            rw [hw] at this; cases this
            exact ⟨Same.refl _, rw⟩
        | true =>
          refine ⟨_, ha, a, ws, rfl, SqL.of hw1, ?_⟩
          have hle : (enumT ts).length = ts.length := by simp [enumT]
          refine lc_at hg ht he hv rk (ts := enumT ts) (Iv := fun H' O' => O' a ∧ H' a = some (.lst ws) ∧ RpL K A (hide H' O') ws ts) (Ka := fun x => x = a) ⟨fun H1 O1 H2 O2 h l k => ?_, fun H1 O1 k t h d hi => ?_, fun H1 O1 h => ⟨ws, SqL.of h.2.1, by rw [h.2.2.len, hle]; exact Nat.le_refl _⟩⟩ ⟨hO, hw1, hw2⟩ (fun x hx => by subst hx; exact ⟨hO, una⟩) (by rw [hle]; exact hsz) h3 fin
          · obtain ⟨k1, k2⟩ := k a rfl
            exact ⟨k1, k2.trans h.2.1, h.2.2.mono (Le.of l)⟩
          · have hi' : k < ts.length := by have := (List.getElem?_eq_some_iff.mp hi).1; rwa [hle] at this
            obtain ⟨w, hw, rw⟩ := h.2.2.get (t := ts[k]) (List.getElem?_eq_getElem hi')
            have et : t = .tup [.int (k : Nat), ts[k]] := by
              simp [enumT, hi'] at hi
              exact hi.symm
            subst et
            refine ⟨⟨ws, w, SqL.of h.2.1, hw⟩, fun x H' y => ?_⟩
            obtain ⟨T', x', rfl, hT, rfl, hx⟩ := y
            have := hx ws (SqL.of h.2.1)
            rw [hw] at this; cases this
            refine ⟨same_new hT, .tup (.inl (.inl (hide_of (fun e => d T' e hT) upd_same))) (.cons (.int _) (.cons (rw.mono (Le.of (hide_newv hT))) .nil))⟩
      · cases e
    · exact hV G σ H ρ O r o ρf e Q q
end
end QT

set_option Elab.async false
set_option linter.all false
set_option maxRecDepth 100000
set_option maxHeartbeats 4000000
/-! Own layer: the end: the promise of law. -/
namespace QT
open PySem PySem.Spec PyProof.Rows L2 QB
def spLaw (K : PySem.W.Frag) : Sp := fun vs H Q _ => ∃ (a : Addr) (ns : List Int), vs = [.ref a] ∧ SqL K H a (ns.map V.int) ∧ ns.length ≤ 63 ∧ ∀ H', Q (.bl true) H'
theorem hide_none {H : Hp} : hide H (fun _ => False) = H := by
  funext a
  unfold hide
  simp
theorem rp_ints {K : PySem.W.Frag} {A : Nat → Addr} {H : Hp} : ∀ ns : List Int, RpL K A H (ns.map V.int) (ns.map T.int)
  | [] => .nil
  | n :: r => .cons (.int n) (rp_ints r)
theorem law_sp {K : PySem.W.Frag} {A : Nat → Addr} {F : FF} (hF : ∀ ns : List Int, ns.length ≤ 63 → ∃ rest, F [.val (.lst (ns.map .int))] = some (.val (.bl true), rest)) {vs : List V} {H : Hp} {Q : VK} {E : XK} (h : spLaw K vs H Q E) : spF K A F vs H Q E := by
  obtain ⟨a, ns, rfl, hs, hl, q⟩ := h
  obtain ⟨rest, e⟩ := hF ns hl
  refine ⟨_, fun _ => False, _, _, ⟨rfl, fun i t hi => ?_, fun i t hi => ?_, fun i t hi => ?_, fun i j t u p hi => ?_, fun _ h => h.elim⟩, e, fun v H' Ox b => ?_⟩
  · match i, hi with
    | 0, hi =>
      have : t = .lst (ns.map .int) := by simpa using hi.symm
      subst this
      exact ⟨_, rfl, by rw [hide_none]; exact .lst hs (rp_ints ns)⟩
    | i + 1, hi => simp at hi
  · match i, hi with
    | 0, hi => simp at hi
    | i + 1, hi => simp at hi
  · match i, hi with
    | 0, hi => simp at hi
    | i + 1, hi => simp at hi
  · match i, hi with
    | 0, hi => simp at hi
    | i + 1, hi => simp at hi
  · have r : Rp K A (hide H' Ox) v (.bl true) := b.res
    cases r
    exact q _
theorem fnG_imp {P : Program} {w : World} {K : PySem.W.Frag} {mg : Str → Option Value} {base : Heap} {k : Nat} {f : Addr} {fd : FuncData} {ps : List Str} {sp sp' : Sp} (h : QG.FnG P w K mg base k f fd ps sp) (i : ∀ vs H Q E, sp' vs H Q E → sp vs H Q E) : QG.FnG P w K mg base k f fd ps sp' :=
  ⟨fun vs H Q E e => h.len vs H Q E (i _ _ _ _ e), fun A outer s H args us vs Q E hg hr e0 hb r hsp => h.run A outer s H args us vs Q E hg hr e0 hb r (i _ _ _ _ hsp)⟩
theorem fnOk_imp {P : Program} {w : World} {K : PySem.W.Frag} {mg : Str → Option Value} {base : Heap} {k : Nat} {f : Addr} {fd : FuncData} {ps : List Str} {sp sp' : Sp} (h : FnOk P w K mg base CX0 k f fd ps sp) (i : ∀ vs H Q E, sp' vs H Q E → sp vs H Q E) : FnOk P w K mg base CX0 k f fd ps sp' :=
  ⟨fun vs H Q E e => h.len vs H Q E (i _ _ _ _ e), fun A outer s H args us vs Q E hr e0 hb r hsp => h.run A outer s H args us vs Q E hr e0 hb r (i _ _ _ _ hsp)⟩
end QT

set_option Elab.async false
set_option linter.all false
set_option maxRecDepth 100000
set_option maxHeartbeats 4000000
/-! Own layer: the head by one kernel run, facts of defs and classes read by a Hook of its own. -/
namespace QH
open PySem PySem.Spec PyProof.Rows L2 QB QT
/-- the objects that some names of the top stand for -/
def roots (xs : List Str) (g : Addr → Option Obj) : List Addr := match g mainGlobals with
  | some o => xs.filterMap fun x => match PySem.W.nsIn [(mainGlobals, o)] mainGlobals x with
    | some (some (.ref a)) => some a
    | _ => none
  | none => []
def growN (g : Addr → Option Obj) : Nat → List Addr → List Addr
  | 0, as => as
  | n + 1, as => growN g n (He.growD g as)
def asN (n : Nat) (xs : List Str) (g : Addr → Option Obj) : List Addr := mainGlobals :: growN g n (roots xs g)
abbrev AlB : Type := Bool × List He.FnW
def obsB (ex : PySem.W.Frag → Bool) (fn : List He.DefD) (K : PySem.W.Frag) : AlB := (ex K && fn.all fun d => d.ok K, fn.map fun d => He.fnW K d.at_)
def valB (fn : List He.DefD) : AlB := (true, fn.map He.DefD.val)
def SaysB (ex : PySem.W.Frag → Bool) (fn : List He.DefD) (K : PySem.W.Frag) : Prop := obsB ex fn K = valB fn
def obsBG (n : Nat) (xs : List Str) (ex : PySem.W.Frag → Bool) (fn : List He.DefD) (g : Addr → Option Obj) : AlB := obsB ex fn (He.frG g (asN n xs g))
def hookB (n : Nat) (xs : List Str) (ex : PySem.W.Frag → Bool) (fn : List He.DefD) : PySem.W.Hook where
  α := AlB
  obs := fun s => obsBG n xs ex fn s.heap.get?
  val := fun _ => valB fn
  says := fun _ h => ∃ K : PySem.W.Frag, K.In h ∧ SaysB ex fn K
  of := fun _ _ e => ⟨_, He.frG_in, e⟩
  keeps := fun _ _ _ ⟨K, hK, c⟩ k => ⟨K, PySem.W.Frag.In.keeps hK k, c⟩
theorem obsBG_eq {n : Nat} {xs : List Str} {ex : PySem.W.Frag → Bool} {fn : List He.DefD} {g : Addr → Option Obj} {s : Shared} (h : ∀ a, g a = s.heap.get? a) : obsBG n xs ex fn g = (hookB n xs ex fn).obs s := by
  have e : g = s.heap.get? := funext h
  rw [e] <;> rfl
section
variable {ex : PySem.W.Frag → Bool} {fn : List He.DefD} {K : PySem.W.Frag}
theorem SaysB.exK (c : SaysB ex fn K) : ex K = true := (He.ba (show (ex K && fn.all fun d => d.ok K) = true from congrArg (fun z : AlB => z.1) c)).1
theorem SaysB.def_ (c : SaysB ex fn K) (i : Nat) {d : He.DefD} (h : fn[i]? = some d := by rfl) : ∃ fd, FunD K d.name d.qual d.params d.body d.scope (d.dvs K) (d.kws K) (He.fAd K d.at_) fd := by
  have c2 := (He.ba (show (ex K && fn.all fun d => d.ok K) = true from congrArg (fun z : AlB => z.1) c)).2
  have e : fn.map (fun d => He.fnW K d.at_) = fn.map He.DefD.val := congrArg (fun z : AlB => z.2) c
  have e2 : (fn.map fun d => He.fnW K d.at_)[i]? = (fn.map He.DefD.val)[i]? := by rw [e]
  rw [List.getElem?_map, List.getElem?_map, h] at e2
  exact He.DefD.funD (Option.some.inj e2) (List.all_eq_true.mp c2 d (List.mem_of_getElem? h))
end
/-! ### classes -/
def Acl (cn : List Str) (K : PySem.W.Frag) (c : Nat) : Addr := He.ga K (cn.getD (min c (cn.length - 1)) Str.empty)
def oB (a b : Option Bool) : Bool := decide (a = b)
theorem oB_ok {a b : Option Bool} (h : oB a b = true) : a = b := of_decide_eq_true h
def clsB (K : PySem.W.Frag) (C : Addr) (fl : List Str) : Bool := PySem.W.plainGet K C Str.empty && (PySem.W.hasDictIn K C && (PySem.W.plainOver K C && (He.eqO (PySem.W.findIn K (.ref C) "__setattr__") (some (some (.builtin "object.__setattr__"))) &&
  (He.eqO (PySem.W.findIn K (.ref C) "__class__") (some (some (.builtin "object.__class__"))) && (oB (PySem.W.mroIn K C (.type "object")) (some true) && (oB (PySem.W.kitOne K (.ref C) (.ref C)) (some true) && fl.all fun f => He.eqO (PySem.W.findIn K (.ref C) f) (some none)))))))
/-- all that the own classes and the free names ask -/
def topB (cn fl bl : List Str) (sub : Nat → Nat → Bool) (K : PySem.W.Frag) : Bool := He.eqO (PySem.W.specialIn K (.builtin "object.__class__") "__get__") (some (some (.builtin "getset_descriptor.__get__"))) && (oB (PySem.W.takesIn K (.builtin "object.__class__")) (some true) &&
  (((List.range cn.length).all fun c => clsB K (Acl cn K c) fl) && (((List.range cn.length).all fun c => (List.range cn.length).all fun d => oB (PySem.W.kitOne K (.ref (Acl cn K c)) (.ref (Acl cn K d))) (some (sub c d)) && PySem.W.notFirst K (Acl cn K c) (.ref (Acl cn K d))) && ((cn.all fun x => (He.Fa.glo x).ok K) && bl.all fun x => (He.Fa.free x).ok K))))
theorem min_in {n : Nat} (h : n ≠ 0) (c : Nat) : min c (n - 1) ∈ List.range n := List.mem_range.mpr (by omega)
theorem Acl_min {cn : List Str} {K : PySem.W.Frag} (c : Nat) : Acl cn K (min c (cn.length - 1)) = Acl cn K c := by
  unfold Acl
  rw [show min (min c (cn.length - 1)) (cn.length - 1) = min c (cn.length - 1) by omega]
theorem cls_of {K : PySem.W.Frag} {C : Addr} {fl : List Str} (h : clsB K C fl = true) : Cls K C := by
  obtain ⟨c1, h⟩ := He.ba h
  obtain ⟨c2, h⟩ := He.ba h
  obtain ⟨c3, h⟩ := He.ba h
  obtain ⟨c4, h⟩ := He.ba h
  exact ⟨c1, c2, c3, He.eqO_ok c4⟩
section
variable {cn fl bl : List Str} {sub : Nat → Nat → Bool} {K : PySem.W.Frag} {h : Heap} {mg : Str → Option Value}
theorem cls_at (t : topB cn fl bl sub K = true) (hn : cn.length ≠ 0) (c : Nat) : clsB K (Acl cn K c) fl = true := by
  obtain ⟨_, t⟩ := He.ba t
  obtain ⟨_, t⟩ := He.ba t
  obtain ⟨t, _⟩ := He.ba t
  have := List.all_eq_true.mp t _ (min_in hn c)
  rwa [Acl_min] at this
theorem kits_of (t : topB cn fl bl sub K = true) (hn : cn.length ≠ 0) (hs : ∀ c d, sub c d = sub (min c (cn.length - 1)) (min d (cn.length - 1))) : Kits K (Acl cn K) sub := by
  have C := cls_at t hn
  obtain ⟨t1, t⟩ := He.ba t
  obtain ⟨t2, t⟩ := He.ba t
  obtain ⟨_, t⟩ := He.ba t
  obtain ⟨t3, _⟩ := He.ba t
  refine ⟨fun c => ?_, fun c d => ?_⟩
  · have h := C c
    have k1 := cls_of h
    obtain ⟨c1, h⟩ := He.ba h
    obtain ⟨c2, h⟩ := He.ba h
    obtain ⟨c3, h⟩ := He.ba h
    obtain ⟨c4, h⟩ := He.ba h
    obtain ⟨c5, h⟩ := He.ba h
    obtain ⟨c6, h⟩ := He.ba h
    obtain ⟨c7, h⟩ := He.ba h
    exact ⟨k1, He.eqO_ok c5, He.eqO_ok t1, oB_ok t2, oB_ok c6, oB_ok c7⟩
  · have := oB_ok (He.ba (List.all_eq_true.mp (List.all_eq_true.mp t3 _ (min_in hn c)) _ (min_in hn d))).1
    rw [Acl_min, Acl_min] at this
    rw [this, ← hs]
theorem nf_of (t : topB cn fl bl sub K = true) (hn : cn.length ≠ 0) (c d : Nat) : PySem.W.notFirst K (Acl cn K c) (.ref (Acl cn K d)) = true := by
  obtain ⟨_, t⟩ := He.ba t
  obtain ⟨_, t⟩ := He.ba t
  obtain ⟨_, t⟩ := He.ba t
  obtain ⟨t3, _⟩ := He.ba t
  have := (He.ba (List.all_eq_true.mp (List.all_eq_true.mp t3 _ (min_in hn c)) _ (min_in hn d))).2
  rwa [Acl_min, Acl_min] at this
theorem fl_of (t : topB cn fl bl sub K = true) (hn : cn.length ≠ 0) (c : Nat) (f : Str) (hf : f ∈ fl) : Cls K (Acl cn K c) ∧ NoAttr K (Acl cn K c) f := by
  have h := cls_at t hn c
  have k1 := cls_of h
  obtain ⟨c1, h⟩ := He.ba h
  obtain ⟨c2, h⟩ := He.ba h
  obtain ⟨c3, h⟩ := He.ba h
  obtain ⟨c4, h⟩ := He.ba h
  obtain ⟨c5, h⟩ := He.ba h
  obtain ⟨c6, h⟩ := He.ba h
  obtain ⟨c7, h⟩ := He.ba h
  exact ⟨k1, He.eqO_ok (List.all_eq_true.mp h f hf)⟩
theorem glo_of (t : topB cn fl bl sub K = true) (X : K.In h) (G : h.Ns mainGlobals mg) (c : Nat) {x : Str} (e : cn[c]? = some x := by rfl) : mg x = some (.ref (Acl cn K c)) := by
  obtain ⟨_, t⟩ := He.ba t
  obtain ⟨_, t⟩ := He.ba t
  obtain ⟨_, t⟩ := He.ba t
  obtain ⟨_, t⟩ := He.ba t
  obtain ⟨t, _⟩ := He.ba t
  have lt : c < cn.length := by
    by_cases z : c < cn.length
    · exact z
    · rw [List.getElem?_eq_none (by omega)] at e; cases e
  have := He.glo_ok X G (List.all_eq_true.mp t x (List.mem_of_getElem? e))
  unfold Acl
  rw [show min c (cn.length - 1) = c by omega, List.getD_eq_getElem?_getD, e]
  exact this
theorem free_of (t : topB cn fl bl sub K = true) (X : K.In h) (G : h.Ns mainGlobals mg) {x : Str} (e : x ∈ bl) : mg x = none := by
  obtain ⟨_, t⟩ := He.ba t
  obtain ⟨_, t⟩ := He.ba t
  obtain ⟨_, t⟩ := He.ba t
  obtain ⟨_, t⟩ := He.ba t
  obtain ⟨_, t⟩ := He.ba t
  exact He.free_ok X G (List.all_eq_true.mp t x e)
end
/-! ### defs -/
theorem fun_of {K : PySem.W.Frag} {x qual : Str} {st : Stmt} {dvs : List V} {kws : List (Str × V)} {f : Addr} {fd : FuncData} (F : FunD K x qual (C8.fnArgs st) (C8.fnBody st) (C8.fnScope st) dvs kws f fd) : C8.Fun K x qual st f fd := by
  obtain ⟨oc, od, dV, kV, doc, pm, an, cdv, ct, osl, e, lk, hcd, _, _⟩ := F.ex
  exact ⟨oc, od, dV, kV, doc, pm, an, cdv, ct, osl, e, lk, hcd⟩
theorem dd_of {K : PySem.W.Frag} {mg : Str → Option Value} {x : Str} {st : Stmt} {ps : List Str} {kws : List (Str × V)} {fd : FuncData} {f : Addr} (F : FunD K x x (C8.fnArgs st) (C8.fnBody st) (C8.fnScope st) [] kws f fd) (g : mg x = some (.ref f))
    (b : ∀ (kV doc pm : Value) (an : Option Addr) (cdv ct : Value) (us : List Value), us.length = ps.length → bindArgs (PySem.W.fnOf x x (C8.fnArgs st) (C8.fnBody st) (C8.fnScope st) .none kV doc pm an cdv ct) ⟨us, []⟩ = pure (ps.zip us)) : Dd K mg x st ps := by
  refine ⟨f, fd, ⟨fun_of F, g, F.kp⟩, F.bindsN b, ?_⟩
  obtain ⟨oc, od, dV, kV, doc, pm, an, cdv, ct, osl, rfl, lk, hcd, hD, _⟩ := F.ex
  rcases hD with ⟨_, rfl⟩ | ⟨e, _⟩
  · rfl
  · exact absurd rfl e
/-! ### the end: the law's call -/
theorem walk_ofGE {l : PySem.W.OpenLaw} {n k : Nat} {q : Program} {loose : List Str} {XP : (Str → Option Value) → Heap → Prop} {YP : World → Heap → Prop} {d : DefRec} {x : Str}
    (hn : l.most = some n) (hn2 : n ≤ sizeLine) (hdf : d.params.defaults = []) (hr : Room k callerA)
    (F : ∀ (w : World) (mg : Str → Option Value) (fa : Addr) (h : Heap), YP w h → h.Ns mainGlobals mg → mg d.name = some (.ref fa) →
      ∃ (K : PySem.W.Frag) (fd : FuncData) (sp : Sp), K.In h ∧ (∀ (s : Shared) (u : Value), BindsTo s fd ⟨[u], []⟩ [(x, u)]) ∧
        (∀ (H : Hp) (a : Addr) (ns : List Int), ns.length ≤ n → Only H → SqL K H a (ns.map V.int) → sp [.ref a] H (fun v _ => v = .bl true) fun _ _ _ => False) ∧
        ∀ base : Heap, K.In base → base.Ns mainGlobals mg → QG.FnG l.prog w K mg base k fa fd [x] sp) :
    PySem.W.WalkO q loose XP YP l.row.toRowW d [] (fun f vs => PySem.call f vs) := by
  refine Att.attach_call hn hdf fun w s₀ s₁ mg mb fa o pm cd doc a vs ns G Y ho hd hcd hmg hobj hints hlen hg => ?_
  obtain ⟨K, fd, sp, KX, hb, hsp, hF⟩ := F w mg fa _ Y G.T.g hmg
  exact QG.law_callG KX G.T.g G.T.b G.T.builtins G.T.nolimit hg hobj hints (Nat.le_trans hlen hn2) hr hF hb (fun H hO hS => hsp H a ns hlen hO hS)
end QH

set_option Elab.async false
set_option linter.all false
set_option maxRecDepth 100000
set_option maxHeartbeats 4000000
/-! Own layer: sets of ints and texts that can be walked: add, set(xs), set comprehensions, sorted. -/
namespace QU
open PySem PySem.Spec PyProof.Rows L2
/-- the key that a value is -/
def vkey : Value → Option Key
  | .int i _ => some (.inl i)
  | .str x _ => some (.inr x)
  | _ => none
theorem vkey_is {k : Key} {v : Value} : keyIs k v = true ↔ vkey v = some k := by
  constructor
  · intro h
    rcases keyIs_shape h with ⟨i, t, rfl, rfl⟩ | ⟨x, t, rfl, rfl⟩ <;> rfl
  · intro h
    cases v <;> simp only [vkey, Option.some.injEq, reduceCtorEq] at h <;> subst h
    · exact keyIs_int _ _
    · exact keyIs_str _ _
theorem vkey_scan {k : Key} {v : Value} (h : vkey v = some k) : v.scannable = true := by
  cases v <;> simp only [vkey, Option.some.injEq, reduceCtorEq] at h <;> rfl
theorem vkey_of {k : Key} {u : Value} (r : RelV (kV k) u) : vkey u = some k := by
  cases k with
  | inl i => obtain ⟨t, rfl⟩ := (show ∃ t, u = Value.int i t from r); rfl
  | inr x => obtain ⟨t, rfl⟩ := (show ∃ t, u = Value.str x t from r); rfl
def Ent (w : World) (e : Int × Value) : Prop := ∃ k, vkey e.2 = some k ∧ e.1 = keyH w k
def ks (l : List (Int × Value)) : List (Option Key) := l.map fun e => vkey e.2
/-- the set at a, its members S, n of them; it can be walked -/
structure Led (w : World) (h : Heap) (a : Addr) (S : Key → Bool) (n : Nat) (o : Obj) (es : Array (Int × Value)) (ep : Nat) (t : SetTable) : Prop where
  obj : h.get? a = some o
  ex : o.ExactSet
  dat : o.data = .set es ep t
  ent : ∀ e ∈ es.toList, Ent w e
  nd : (ks es.toList).Nodup
  mem : ∀ k, S k = true ↔ some k ∈ ks es.toList
  few : es.size < scanBound
  fit : t.fits es.size = true
  num : es.size = n
  ris : Ris t.place.toList
  led : w.params.followText "set-order" = true ∨ t.led = true
def LS (w : World) (h : Heap) (a : Addr) (S : Key → Bool) (n : Nat) : Prop := ∃ o es ep t, Led w h a S n o es ep t
section
variable {P : Program} {w : World} {h h' : Heap} {a : Addr} {S : Key → Bool} {n : Nat}
theorem LS.at (R : LS w h a S n) (k : ∀ o, h.get? a = some o → h'.get? a = some o) : LS w h' a S n := by
  obtain ⟨o, es, ep, t, L⟩ := R
  exact ⟨o, es, ep, t, { L with obj := k o L.obj }⟩
theorem elems {l : List (Int × Value)} (g : ∀ e ∈ l, Ent w e) : ElemsOf (mixKind P w) l := fun e he => by
  obtain ⟨k, h1, h2⟩ := g e he
  exact ⟨⟨k, vkey_is.mpr h1, h2⟩, vkey_scan h1⟩
theorem mem_ks {l : List (Int × Value)} {k : Key} : some k ∈ ks l ↔ ∃ e ∈ l, (mixKind P w).is k e.2 = true := by
  unfold ks
  rw [List.mem_map]
  exact ⟨fun ⟨e, he, q⟩ => ⟨e, he, vkey_is.mpr q⟩, fun ⟨e, he, q⟩ => ⟨e, he, vkey_is.mp q⟩⟩
theorem LS.setOf (R : LS w h a S n) : h.SetOf (mixKind P w) a S n := by
  obtain ⟨o, es, ep, t, L⟩ := R
  exact ⟨o, es, ep, t, L.obj, L.ex, L.dat, elems L.ent, fun k => (L.mem k).trans mem_ks, L.few, L.fit, L.num⟩
theorem fresh_led (w : World) : LS w (h.push { cls := .type "set", dict := none, data := .set #[] 0 (.fresh 0 0 (!w.params.followText "set-order")) }) h.objs.size (fun _ => false) 0 := by
  refine ⟨_, #[], 0, _, Heap.get?_push_size _ rfl, ⟨rfl, rfl, rfl⟩, rfl, by simp, by simp [ks], by simp [ks], by decide, by rfl, rfl, List.Pairwise.nil, ?_⟩
  show _ ∨ (!w.params.followText "set-order") = true
  cases w.params.followText "set-order" <;> simp
end
section
variable {P : Program} {w : World} {A : Around} {E : Value → Shared → Prop} {s : Shared} {a : Addr} {S : Key → Bool} {n : Nat}
/-- behind laying one in -/
theorem add_end {gv : Bool → Sem Unit} (hgv : ∀ (b : Bool) (s₁ : Shared) (Z : Unit → Shared → Prop), Z () s₁ → wpAny (model P w) A (gv b) Z E s₁) {o : Obj} {es : Array (Int × Value)} {ep : Nat} {t : SetTable} (obj : s.heap.get? a = some o) (ex : o.ExactSet) (dat : o.data = .set es ep t)
    {fs : Array (Int × Value)} {t2 : SetTable} {S' : Key → Bool} (ent : ∀ e ∈ fs.toList, Ent w e) (nd : (ks fs.toList).Nodup) (mem : ∀ k, S' k = true ↔ some k ∈ ks fs.toList) (few : fs.size < scanBound) (fit : t2.fits fs.size = true) (ris : Ris t2.place.toList)
    (led : w.params.followText "set-order" = true ∨ t2.led = true) {dum : Bool} {R : Option Bool → Shared → Prop} (fin : ∀ h', Heap.SameBut a s.heap h' → LS w h' a S' fs.size → R (some true) { s with heap := h' }) :
    wpAny (model P w) A (do
        storeSet a fs t2
        if (!dum && t2.tooFull) = true then do
            gv (relayAll t2 fs (SetTable.grown fs.size)).2.2
            storeSet a (relayAll t2 fs (SetTable.grown fs.size)).1 (relayAll t2 fs (SetTable.grown fs.size)).2.1
            pure (some true)
          else pure (some true)) R E s := by
  refine wpAny_bind (wpAny_storeSet_of obj dat ?_ (fits_of_scanBound few))
  have at1 := store_at (es' := fs) (t' := t2) obj dat
  have but1 := Heap.SameBut.update s.heap a (Obj.putSet fs t2)
  split
  · have p3 := relayAll_perm t2 fs (SetTable.grown fs.size)
    have f3 := relayAll_fits t2 fs (SetTable.grown fs.size)
    have r3 := relayAll_ris t2 fs (SetTable.grown fs.size)
    have l3 := relayAll_led t2 fs (SetTable.grown fs.size)
    generalize relayAll t2 fs (SetTable.grown fs.size) = Z at p3 f3 r3 l3 ⊢
    obtain ⟨gs, t3, gave⟩ := Z
    dsimp only at p3 f3 r3 l3 ⊢
    have same : gs.size = fs.size := by rw [← Array.length_toList, p3.length_eq, Array.length_toList]
    have few3 : gs.size < scanBound := by omega
    refine wpAny_bind (hgv _ _ _ ?_)
    refine wpAny_bind (wpAny_storeSet_of at1 rfl ?_ (fits_of_scanBound few3))
    have at2 := store_at (es' := gs) (t' := t3) at1 rfl
    have pk : (ks gs.toList).Perm (ks fs.toList) := p3.map _
    refine wpAny_pure (fin _ (but1.trans (Heap.SameBut.update _ a _)) ⟨_, gs, _, t3, at2, ex, rfl, fun e he => ent e (p3.mem_iff.mp he), pk.nodup_iff.mpr nd, fun k => (mem k).trans pk.mem_iff.symm, few3, f3, same, r3, ?_⟩)
    rw [l3]
    exact led
  · exact wpAny_pure (fin _ but1 ⟨_, fs, _, t2, at1, ex, rfl, ent, nd, mem, few, fit, rfl, ris, led⟩)
theorem add_hashed {k : Key} {x : Value} {Q : Bool → Shared → Prop} (R : LS w s.heap a S n) (hx : vkey x = some k) (room : n + 1 < scanBound)
    (fin : ∀ h', Heap.SameBut a s.heap h' → LS w h' a (fun j => S j || decide (j = k)) (if S k = true then n else n + 1) → Q (!S k) { s with heap := h' }) :
    wpAny (model P w) A (setAddHashed a x ((mixKind P w).hash k)) Q E s := by
  obtain ⟨o, es, ep, t, L⟩ := R
  have isk : (mixKind P w).is k x = true := vkey_is.mpr hx
  have scn := vkey_scan hx
  have els : ElemsOf (mixKind P w) es.toList := elems L.ent
  unfold setAddHashed setAddHashedIn
  refine wpAny_holding (wpAny_bind (wpAny_setState_of L.obj L.dat L.fit ?_))
  dsimp only
  rw [byScan_of scn L.few els]
  simp only [↓reduceIte]
  unfold setAddByScan
  refine wpAny_bind ?_
  refine wpAny_bind (wpAny_rule ?_)
  refine wpAny_bind (wpAny_setScan_of isk L.obj L.dat L.fit els ?_)
  cases found : List.findIdx? (fun e => (mixKind P w).is k e.2) es.toList with
  | some j =>
    dsimp only
    obtain ⟨lt, hit, _⟩ := List.findIdx?_eq_some_iff_getElem.mp found
    have yes : S k = true := (L.mem k).mpr (mem_ks.mpr ⟨es.toList[j], List.getElem_mem lt, hit⟩)
    refine wpAny_pure (wpAny_pure ?_)
    have q := fin s.heap (Heap.SameBut.refl a s.heap) ⟨o, es, ep, t, { L with mem := fun i => (by rw [Bool.or_eq_true, decide_eq_true_eq, ← L.mem i]; exact ⟨fun z => z.elim id fun e => e ▸ yes, .inl⟩), num := (by rw [if_pos yes]; exact L.num) }⟩
    rw [yes] at q
    exact q
  | none =>
    dsimp only
    have out : some k ∉ ks es.toList := fun z => by
      obtain ⟨e, he, q⟩ := mem_ks.mp z
      have c := List.findIdx?_eq_none_iff.mp found e he
      rw [q] at c
      cases c
    have no : S k = false := by
      cases q : S k with
      | false => rfl
      | true => exact absurd ((L.mem k).mp q) out
    have gw : ∀ (b : Bool) {s₁ : Shared} {Z : Unit → Shared → Prop}, Z () s₁ → wpAny (model P w) A (match b with | true => rule "set.scan.the-table-gave-way" | false => pure ()) Z E s₁ :=
      fun b s₁ Z q => by cases b <;> first | exact wpAny_pure q | exact wpAny_rule q
    have p1 := layNew_perm t es ((mixKind P w).hash k) x
    have f1 := layNew_fits t es ((mixKind P w).hash k) x
    have r1 := layNew_ris t es ((mixKind P w).hash k) x L.ris
    have l1 := layNew_led t es ((mixKind P w).hash k) x
    generalize layNew t es ((mixKind P w).hash k) x = Z at p1 f1 r1 l1 ⊢
    obtain ⟨fs, t1, dum, gave⟩ := Z
    dsimp only at p1 f1 r1 l1 ⊢
    rw [Array.toList_push] at p1
    have pc : fs.toList.Perm (((mixKind P w).hash k, x) :: es.toList) := p1.trans (List.perm_append_singleton _ _)
    have pk : (ks fs.toList).Perm (some k :: ks es.toList) := by
      have := pc.map fun e : Int × Value => vkey e.2
      rw [List.map_cons] at this
      dsimp only at this
      rw [hx] at this
      exact this
    have ent1 : ∀ e ∈ fs.toList, Ent w e := fun e he => by
      rcases List.mem_cons.mp (pc.mem_iff.mp he) with z | z
      · rw [z]; exact ⟨k, hx, rfl⟩
      · exact L.ent e z
    have nd1 : (ks fs.toList).Nodup := pk.nodup_iff.mpr (List.nodup_cons.mpr ⟨out, L.nd⟩)
    have mem1 : ∀ i, (S i || decide (i = k)) = true ↔ some i ∈ ks fs.toList := fun i => by
      rw [Bool.or_eq_true, decide_eq_true_eq, L.mem i, pk.mem_iff, List.mem_cons, Option.some.injEq]
      exact Or.comm
    have size1 : fs.size = n + 1 := by rw [← Array.length_toList, pc.length_eq, List.length_cons, Array.length_toList, L.num]
    have few1 : fs.size < scanBound := by omega
    have led1 : w.params.followText "set-order" = true ∨ t1.led = true := by rw [l1]; exact L.led
    have last : ∀ h', Heap.SameBut a s.heap h' → LS w h' a (fun j => S j || decide (j = k)) fs.size → Q true { s with heap := h' } := fun h' sb r => by
      have q := fin h' sb
      rw [no] at q
      rw [size1] at r
      exact q r
    refine wpAny_bind (gw _ ?_)
    split
    · refine wpAny_bind ?_
      rw [hashByValue_scannable 8 scn]
      refine wpAny_pure ?_
      refine add_end ?_ L.obj L.ex L.dat ent1 nd1 mem1 few1 ?_ ?_ ?_ ?_
      · intro b s₁ Z q; cases b <;> first | exact wpAny_pure q | exact wpAny_rule q
      · first | (split <;> first | exact f1 | exact SetTable.fits_plain_off f1) | exact f1
      · first | (split <;> exact r1) | exact r1
      · first | (split <;> exact led1) | exact led1
      · intro h' sb r; dsimp only; exact wpAny_pure (last h' sb r)
    · refine wpAny_bind (wpAny_pure ?_)
      simp only [↓reduceIte]
      refine add_end ?_ L.obj L.ex L.dat ent1 nd1 mem1 few1 f1 r1 led1 ?_
      · intro b s₁ Z q; cases b <;> first | exact wpAny_pure q | exact wpAny_rule q
      · intro h' sb r; dsimp only; exact wpAny_pure (last h' sb r)
/-- setAdd of a key -/
theorem set_add {k : Key} {x : Value} {Q : Bool → Shared → Prop} (R : LS w s.heap a S n) (hx : vkey x = some k) (room : n + 1 < scanBound)
    (fin : ∀ h', Heap.SameBut a s.heap h' → LS w h' a (fun j => S j || decide (j = k)) (if S k = true then n else n + 1) → Q (!S k) { s with heap := h', toks := s.toks + 1 }) :
    wpAny (model P w) A (setAdd a x) Q E s := by
  unfold setAdd
  refine wpAny_holding ?_
  refine wpAny_bind ((mixKind P w).pyHash (vkey_is.mpr hx) ?_)
  exact add_hashed (s := { s with toks := s.toks + 1 }) R hx room fin
theorem call_add {k : Key} {x : Value} {Q : Value → Shared → Prop} (R : LS w s.heap a S n) (hx : vkey x = some k) (room : n + 1 < scanBound)
    (fin : ∀ h', Heap.SameBut a s.heap h' → LS w h' a (fun j => S j || decide (j = k)) (if S k = true then n else n + 1) → Q .none { s with heap := h', toks := s.toks + 1 }) :
    wpAny (model P w) A (call (.builtin "set.add") [.ref a, x]) Q E s := by
  have isS : s.heap.SetOf (mixKind P w) a S n := R.setOf
  refine wpAny_call_entry F.slot_set_add isS.typeIs F.entry_set_add ?_ (F.args_set_add_2 _ _)
  unfold Builtin.«set.add» Builtin.Frozenset.oneOther
  simp only [List.isEmpty_nil, bind_assoc]
  unfold Builtin.Frozenset.addrOf
  refine wpAny_bind (wpAny_pure ?_)
  try dsimp only
  refine wpAny_bind (wpAny_pure ?_)
  try dsimp only
  refine wpAny_bind (set_add R hx room fun h' sb r => ?_)
  show wpAny _ _ (ret Value.none) _ _ _
  exact wpAny_pure ⟨_, rfl, fin h' sb r⟩
end
end QU

set_option Elab.async false
set_option linter.all false
set_option maxRecDepth 100000
set_option maxHeartbeats 4000000
namespace QU
open PySem PySem.Spec PyProof.Rows L2
section
variable {P : Program} {w : World} {A : Around} {E : Value → Shared → Prop} {s : Shared}
def inK (j : Key) (xs : List Key) : Bool := xs.any fun x => decide (x = j)
theorem inK_iff {j : Key} {xs : List Key} : inK j xs = true ↔ j ∈ xs := by
  unfold inK
  rw [List.any_eq_true]
  exact ⟨fun ⟨x, h, e⟩ => by rw [← of_decide_eq_true e]; exact h, fun h => ⟨j, h, decide_eq_true rfl⟩⟩
theorem inK_app {j k : Key} {xs : List Key} : inK j (xs ++ [k]) = (inK j xs || decide (j = k)) := by
  unfold inK
  rw [List.any_append]
  congr 1
  show (decide (k = j) || false) = _
  rw [Bool.or_false]
  exact decide_eq_decide.mpr ⟨Eq.symm, Eq.symm⟩
abbrev newSet (w : World) : Obj := { cls := .type "set", dict := none, data := .set #[] 0 (.fresh 0 0 (!w.params.followText "set-order")) }
theorem LS.congr {h : Heap} {a : Addr} {S S' : Key → Bool} {n : Nat} (R : LS w h a S n) (e : ∀ k, S' k = S k) : LS w h a S' n := by
  have q : S' = S := funext e
  rw [q]; exact R
theorem new_led {h : Heap} {a : Addr} (ho : h.get? a = some (newSet w)) : LS w h a (fun _ => false) 0 := by
  refine ⟨_, #[], 0, _, ho, ⟨rfl, rfl, rfl⟩, rfl, by simp, by simp [ks], by simp [ks], by decide, by rfl, rfl, List.Pairwise.nil, ?_⟩
  show _ ∨ (!w.params.followText "set-order") = true
  cases w.params.followText "set-order" <;> simp
/-- the loop of update: all items are keys -/
theorem upd_loop {I : Addr} {fp wr : List Addr} {G : Array GenState → Array GenState → Prop} {n : Nat} {Pv : Nat → Value → Prop} {St : Nat → Shared → Prop} {R : Result → Shared → Prop}
    (W : WalksS P w A.in1 I fp wr G n Pv St) (d : Addr) (out : d ∉ fp) (xs : List Key) (hn : n = xs.length) (room : xs.length + 1 < scanBound) (val : ∀ i v, Pv i v → ∃ k, xs[i]? = some k ∧ vkey v = some k) :
    ∀ (m i : Nat) (s : Shared), n - i = m → i ≤ n → St i s → (∃ c, c ≤ i ∧ LS w s.heap d (fun j => inK j (xs.take i)) c) →
      (∀ s' c, Moved (d :: wr) G s s' → c ≤ n → LS w s'.heap d (fun j => inK j xs) c → R (.ok (.ret .none)) s') →
      codeAny (model P w) A (.builtin "set.update.loop" ⟨[.ref d, .ref I], []⟩) R s := by
  have nw : d ∉ wr := fun z => out (W.sub _ z)
  have up : ∀ b ∈ wr, b ∈ d :: wr := fun b hb => List.mem_cons_of_mem _ hb
  intro m
  induction m with
  | zero =>
    intro i s em le st hc fin
    obtain ⟨c, cl, L⟩ := hc
    obtain rfl : i = n := by omega
    refine codeAny_builtin F.entry_set_update_loop ?_
    rw [Around.under_plainId F.plain_set_update_loop _]
    show wpAny _ A.in1 (pyNext (.ref I) >>= _) _ _ s
    refine wpAny_bind (W.done s _ _ st fun s' mv => ?_)
    show wpAny _ A.in1 (ret Value.none) _ _ s'
    rw [List.take_of_length_le (show xs.length ≤ i by omega)] at L
    exact wpAny_pure (fin s' c (mv.mono up) cl (L.at fun o e => mv.heap d o nw e))
  | succ m ih =>
    intro i s em le st hc fin
    obtain ⟨c, cl, L⟩ := hc
    have lt : i < n := by omega
    refine codeAny_builtin F.entry_set_update_loop ?_
    rw [Around.under_plainId F.plain_set_update_loop _]
    show wpAny _ A.in1 (pyNext (.ref I) >>= _) _ _ s
    refine wpAny_bind (W.item i s _ _ lt st fun v s' pv st' mv => ?_)
    obtain ⟨k, hk, vk⟩ := val i v pv
    have L1 := L.at (h' := s'.heap) fun o e => mv.heap d o nw e
    show wpAny _ A.in1 (holding [v] (setAdd d v) >>= _) _ _ s'
    refine wpAny_bind (wpAny_holding ?_)
    refine set_add L1 vk (by omega) fun h' sb L2 => ?_
    have L3 : LS w h' d (fun j => inK j (xs.take (i + 1))) (if inK k (xs.take i) = true then c else c + 1) := L2.congr fun j => by
      rw [List.take_add_one, hk]
      exact inK_app
    have cl3 : (if inK k (xs.take i) = true then c else c + 1) ≤ i + 1 := by split <;> omega
    refine wpAny_pure ⟨plainId_quiet F.plain_set_update_loop _, ih (i + 1) _ (by omega) lt (W.frame _ s' _ _ st' (Nat.le_succ _) fun b hb o e => ?_) ⟨_, cl3, L3⟩ fun s2 c2 mv2 cl2 L4 => ?_⟩
    · rw [sb.2 b (fun z : b = d => out (z ▸ hb))]; exact e
    · refine fin s2 c2 (Moved.trans W.gtrans ((mv.mono up).then_heap (Nat.le_succ _) fun b o hb e => ?_) mv2) cl2 L4
      rw [sb.2 b (fun z : b = d => hb (z ▸ List.mem_cons_self))]; exact e
set_option maxRecDepth 100000 in
set_option maxHeartbeats 3200000 in
theorem call_set_list {l : Addr} {items : Array Value} (xs : List Key) {Q : Value → Shared → Prop} (calm : A.handled = none) (hl : s.heap.IsList l items) (its : items.toList.map vkey = xs.map some) (room : xs.length + 1 < scanBound)
    (fin : ∀ (h' : Heap) (tk c : Nat), LS w h' s.heap.objs.size (fun j => inK j xs) c → c ≤ xs.length → (∀ b o, s.heap.get? b = some o → h'.get? b = some o) → Q (.ref s.heap.objs.size) { s with heap := h', toks := tk }) :
    wpAny (model P w) A (call (.type "set") [.ref l]) Q E s := by
  have sz : items.size = xs.length := by
    have q := congrArg List.length its
    simpa using q
  obtain ⟨c0, tl, mro⟩ := F.called_set.mro
  have made := F.called_set.made
  have sub0 := F.called_set.sub
  refine wpAny_call (codeAny_of_tree ?_)
  show wpAny _ _ (callAny (.type "set") _) _ _ _
  refine wpAny_pure ⟨Code.quiet_builtin _ (by decide +kernel), codeAny_builtin F.entry_type_call ?_⟩
  rw [Around.under_plain (weight_type_call_type "set" [.ref l] []) rfl]
  have t1 := F.called_set.notType
  have t2 := F.called_set.canCreate
  have t3 := F.typeCall_set_1 (.ref l)
  repeat (any_goals (first | assumption | wp_step))
  refine codeAny_mono (code_set_led1 (.ref l) (E := E) (Q₁ := fun ob s₁ => ob = .ref s.heap.objs.size ∧ s₁ = { s with heap := s.heap.push (newSet w) }) ⟨rfl, rfl⟩) fun r s₁ hr => ?_
  cases r with
  | error e => exact hr
  | ok fl =>
    cases fl with
    | ret ob =>
      obtain ⟨rfl, rfl⟩ := hr
      have new : (s.heap.push (newSet w)).get? s.heap.objs.size = some (newSet w) := Heap.get?_push_size _ rfl
      have isS : Shared.TypeIs { s with heap := s.heap.push (newSet w) } (.ref s.heap.objs.size) "set" := ⟨_, new, rfl⟩
      have i1 := F.called_set.init.lookup
      have i2 := F.called_set.init.bind (.ref s.heap.objs.size)
      repeat (any_goals (first | assumption | wp_step))
      refine codeAny_mono (codeAny_call_builtin (R := wants (fun r s₂ => r = .none ∧ ∃ h' tk c, s₂ = { s with heap := h', toks := tk } ∧ LS w h' s.heap.objs.size (fun j => inK j xs) c ∧ c ≤ xs.length ∧ (∀ b o, s.heap.get? b = some o → h'.get? b = some o)) E)
        F.called_set.init.plain F.entry_set_init (check_set_init_1 isS ?_)) fun r₂ s₂ hr₂ => ?_
      · obtain ⟨ol, hol, cl, nl, dl⟩ := hl
        obtain ⟨ocls, odict, odata, oslots⟩ := ol
        simp only at cl dl
        subst cl; subst dl
        have hol1 : (s.heap.push (newSet w)).get? l = some { cls := .type "list", dict := odict, data := .seq items nl, slots := oslots } := Heap.get?_push_of_some _ hol
        have s1 := F.sub_list_set
        have s2 := F.sub_list_frozenset
        have ne : (Value.type "list" == Value.type "dict") = false := by decide
        have hl1 : (s.heap.push (newSet w)).IsList l items := ⟨_, hol1, rfl, nl, rfl⟩
        unfold Builtin.«set.__init__» noKeywords Builtin.Frozenset.updateFrom
        generalize ePI : pyIter = PI
        wp_walk
        subst ePI
        refine wpAny_pyIter_list hl1 ?_
        refine wpAny_bind (wpAny_runValue ?_)
        have ltl : l < s.heap.objs.size := Heap.lt_size hol
        have calm3 : A.in1.in1.in1.handled = none := by simp [calm]
        have szN : (s.heap.push (newSet w)).objs.size = s.heap.objs.size + 1 := Heap.size_push ..
        have neI : l ≠ (s.heap.push (newSet w)).objs.size := by rw [szN]; exact Nat.ne_of_lt (Nat.lt_succ_of_lt ltl)
        have outS : s.heap.objs.size ∉ [(s.heap.push (newSet w)).objs.size, l] := by
          rw [szN]; simp only [List.mem_cons, List.not_mem_nil, or_false, not_or]
          exact ⟨Nat.ne_of_lt (Nat.lt_succ_self _), Nat.ne_of_gt ltl⟩
        have val : ∀ (i : Nat) (v : Value), items[i]? = some v → ∃ k, xs[i]? = some k ∧ vkey v = some k := fun i v hv => by
          have q : (items.toList.map vkey)[i]? = some (vkey v) := by rw [List.getElem?_map, Array.getElem?_toList, hv]; rfl
          rw [its, List.getElem?_map] at q
          cases z : xs[i]? with
          | none => rw [z] at q; cases q
          | some k => rw [z] at q; exact ⟨k, rfl, (Option.some.inj q).symm⟩
        refine upd_loop ((Walks.list calm3 _ l neI items).toS) s.heap.objs.size outS xs sz room val (items.size - 0) 0 _ (by omega) (Nat.zero_le _)
          ⟨⟨_, Heap.get?_push_size _ rfl, rfl, rfl⟩, (hl1.push _)⟩ ?_ ?_
        · have at1 : ((s.heap.push (newSet w)).push { cls := .type "list_iterator", data := .fields #[.ref l, .int 0 0] }).get? s.heap.objs.size = some (newSet w) := Heap.get?_push_of_some _ new
          exact ⟨0, Nat.le_refl 0, (new_led at1).congr fun k => rfl⟩
        · intro s' c' mv cl' L'
          obtain ⟨h', g2, d', tk', os'⟩ := s'
          have eg : g2 = s.gens := mv.gens
          have ed : d' = s.drawn := mv.drawn
          have eo : os' = s.os := mv.os
          subst eg; subst ed; subst eo
          show wpAny _ _ _ _ _ _
          refine wpAny_pure ?_
          show wpAny _ _ (ret Value.none) _ _ _
          rw [sz] at cl'
          refine wpAny_pure ⟨rfl, h', tk', c', rfl, L', cl', fun b o e => ?_⟩
          have b0 : b < s.heap.objs.size := Heap.lt_size e
          exact mv.heap b o (by rw [szN]; simp only [List.mem_cons, List.not_mem_nil, or_false, not_or]; exact ⟨Nat.ne_of_lt b0, Nat.ne_of_lt (Nat.lt_succ_of_lt b0)⟩) (Heap.get?_push_of_some _ (Heap.get?_push_of_some _ e))
      · cases r₂ with
        | error e => exact hr₂
        | ok fl₂ =>
          cases fl₂ with
          | ret r =>
            obtain ⟨rfl, h', tk, c', rfl, L', cl', kp'⟩ := hr₂
            repeat (any_goals (first | assumption | wp_step))
            exact fin _ _ _ L' cl' kp'
          | _ => exact hr₂.elim
    | _ => exact hr.elim
set_option maxRecDepth 100000 in
set_option maxHeartbeats 3200000 in
theorem call_set_tup {l : Addr} {items : Array Value} (xs : List Key) {Q : Value → Shared → Prop} (calm : A.handled = none) (hl : s.heap.IsTuple l items) (its : items.toList.map vkey = xs.map some) (room : xs.length + 1 < scanBound)
    (fin : ∀ (h' : Heap) (tk c : Nat), LS w h' s.heap.objs.size (fun j => inK j xs) c → c ≤ xs.length → (∀ b o, s.heap.get? b = some o → h'.get? b = some o) → Q (.ref s.heap.objs.size) { s with heap := h', toks := tk }) :
    wpAny (model P w) A (call (.type "set") [.ref l]) Q E s := by
  have sz : items.size = xs.length := by
    have q := congrArg List.length its
    simpa using q
  obtain ⟨c0, tl, mro⟩ := F.called_set.mro
  have made := F.called_set.made
  have sub0 := F.called_set.sub
  refine wpAny_call (codeAny_of_tree ?_)
  show wpAny _ _ (callAny (.type "set") _) _ _ _
  refine wpAny_pure ⟨Code.quiet_builtin _ (by decide +kernel), codeAny_builtin F.entry_type_call ?_⟩
  rw [Around.under_plain (weight_type_call_type "set" [.ref l] []) rfl]
  have t1 := F.called_set.notType
  have t2 := F.called_set.canCreate
  have t3 := F.typeCall_set_1 (.ref l)
  repeat (any_goals (first | assumption | wp_step))
  refine codeAny_mono (code_set_led1 (.ref l) (E := E) (Q₁ := fun ob s₁ => ob = .ref s.heap.objs.size ∧ s₁ = { s with heap := s.heap.push (newSet w) }) ⟨rfl, rfl⟩) fun r s₁ hr => ?_
  cases r with
  | error e => exact hr
  | ok fl =>
    cases fl with
    | ret ob =>
      obtain ⟨rfl, rfl⟩ := hr
      have new : (s.heap.push (newSet w)).get? s.heap.objs.size = some (newSet w) := Heap.get?_push_size _ rfl
      have isS : Shared.TypeIs { s with heap := s.heap.push (newSet w) } (.ref s.heap.objs.size) "set" := ⟨_, new, rfl⟩
      have i1 := F.called_set.init.lookup
      have i2 := F.called_set.init.bind (.ref s.heap.objs.size)
      repeat (any_goals (first | assumption | wp_step))
      refine codeAny_mono (codeAny_call_builtin (R := wants (fun r s₂ => r = .none ∧ ∃ h' tk c, s₂ = { s with heap := h', toks := tk } ∧ LS w h' s.heap.objs.size (fun j => inK j xs) c ∧ c ≤ xs.length ∧ (∀ b o, s.heap.get? b = some o → h'.get? b = some o)) E)
        F.called_set.init.plain F.entry_set_init (check_set_init_1 isS ?_)) fun r₂ s₂ hr₂ => ?_
      · obtain ⟨ol, hol, cl, nl, dl⟩ := hl
        obtain ⟨ocls, odict, odata, oslots⟩ := ol
        simp only at cl dl
        subst cl; subst dl
        have hol1 : (s.heap.push (newSet w)).get? l = some { cls := .type "tuple", dict := odict, data := .seq items nl, slots := oslots } := Heap.get?_push_of_some _ hol
        have s1 := F.sub_tuple_set
        have s2 := F.sub_tuple_frozenset
        have ne : (Value.type "tuple" == Value.type "dict") = false := by decide
        have hl1 : (s.heap.push (newSet w)).IsTuple l items := ⟨_, hol1, rfl, nl, rfl⟩
        unfold Builtin.«set.__init__» noKeywords Builtin.Frozenset.updateFrom
        generalize ePI : pyIter = PI
        wp_walk
        subst ePI
        refine wpAny_pyIter_tuple hl1 ?_
        refine wpAny_bind (wpAny_runValue ?_)
        have ltl : l < s.heap.objs.size := Heap.lt_size hol
        have calm3 : A.in1.in1.in1.handled = none := by simp [calm]
        have szN : (s.heap.push (newSet w)).objs.size = s.heap.objs.size + 1 := Heap.size_push ..
        have neI : l ≠ (s.heap.push (newSet w)).objs.size := by rw [szN]; exact Nat.ne_of_lt (Nat.lt_succ_of_lt ltl)
        have outS : s.heap.objs.size ∉ [(s.heap.push (newSet w)).objs.size, l] := by
          rw [szN]; simp only [List.mem_cons, List.not_mem_nil, or_false, not_or]
          exact ⟨Nat.ne_of_lt (Nat.lt_succ_self _), Nat.ne_of_gt ltl⟩
        have val : ∀ (i : Nat) (v : Value), items[i]? = some v → ∃ k, xs[i]? = some k ∧ vkey v = some k := fun i v hv => by
          have q : (items.toList.map vkey)[i]? = some (vkey v) := by rw [List.getElem?_map, Array.getElem?_toList, hv]; rfl
          rw [its, List.getElem?_map] at q
          cases z : xs[i]? with
          | none => rw [z] at q; cases q
          | some k => rw [z] at q; exact ⟨k, rfl, (Option.some.inj q).symm⟩
        refine upd_loop ((Walks.tuple calm3 _ l neI items).toS) s.heap.objs.size outS xs sz room val (items.size - 0) 0 _ (by omega) (Nat.zero_le _)
          ⟨⟨_, Heap.get?_push_size _ rfl, rfl, rfl⟩, (hl1.push _)⟩ ?_ ?_
        · have at1 : ((s.heap.push (newSet w)).push { cls := .type "tuple_iterator", data := .fields #[.ref l, .int 0 0] }).get? s.heap.objs.size = some (newSet w) := Heap.get?_push_of_some _ new
          exact ⟨0, Nat.le_refl 0, (new_led at1).congr fun k => rfl⟩
        · intro s' c' mv cl' L'
          obtain ⟨h', g2, d', tk', os'⟩ := s'
          have eg : g2 = s.gens := mv.gens
          have ed : d' = s.drawn := mv.drawn
          have eo : os' = s.os := mv.os
          subst eg; subst ed; subst eo
          show wpAny _ _ _ _ _ _
          refine wpAny_pure ?_
          show wpAny _ _ (ret Value.none) _ _ _
          rw [sz] at cl'
          refine wpAny_pure ⟨rfl, h', tk', c', rfl, L', cl', fun b o e => ?_⟩
          have b0 : b < s.heap.objs.size := Heap.lt_size e
          exact mv.heap b o (by rw [szN]; simp only [List.mem_cons, List.not_mem_nil, or_false, not_or]; exact ⟨Nat.ne_of_lt b0, Nat.ne_of_lt (Nat.lt_succ_of_lt b0)⟩) (Heap.get?_push_of_some _ (Heap.get?_push_of_some _ e))
      · cases r₂ with
        | error e => exact hr₂
        | ok fl₂ =>
          cases fl₂ with
          | ret r =>
            obtain ⟨rfl, h', tk, c', rfl, L', cl', kp'⟩ := hr₂
            repeat (any_goals (first | assumption | wp_step))
            exact fin _ _ _ L' cl' kp'
          | _ => exact hr₂.elim
    | _ => exact hr.elim
/-! ### sorted -/
theorem strs_of : ∀ {l : List Value} {xs : List Str}, l.map vkey = xs.map (fun x => some (Sum.inr x)) → StrsAre l xs
  | [], [], _ => .nil
  | [], _ :: _, h => by cases h
  | _ :: _, [], h => by cases h
  | v :: l, x :: xs, h => by
    rw [List.map_cons, List.map_cons] at h
    injection h with h1 h2
    cases v <;> simp only [vkey, Option.some.injEq, reduceCtorEq, Sum.inr.injEq] at h1
    subst h1
    exact .cons _ _ (strs_of h2)
/-- sorted of a set of texts, fewer than 64 -/
theorem sorted_led {a : Addr} {S : Key → Bool} {n : Nat} {Q : Value → Shared → Prop} (R : LS w s.heap a S n) (txt : ∀ k, S k = true → ∃ x, k = Sum.inr x) (calm : A.handled = none) (few : n < 64)
    (fin : ∀ s' p (out : Array Value) (c : Nat) (xs : List Str), (∀ b o, s.heap.get? b = some o → s'.heap.get? b = some o) → s'.gens = s.gens → s'.os = s.os → s.heap.objs.size ≤ p →
      s'.heap.get? p = some (seqObj "list" out c) → StrsAre out.toList xs → sortedS xs = true → xs.Nodup → (∀ x, x ∈ xs ↔ S (Sum.inr x) = true) → xs.length = n → Q (.ref p) s') :
    wpAny (model P w) A (call (.builtin "sorted") [.ref a]) Q E s := by
  obtain ⟨o, es, ep, t, L⟩ := R
  refine Calls.call_function_entry kind_sorted plain_sorted entry_sorted (args_sorted1 _) ?_
  unfold Builtin.«sorted»
  refine wpAny_bind (m := checkCount "sorted" 1 1 _) (wpAny_pure ?_)
  refine wpAny_bind (collect_set (A := A.in1) calm ⟨o, L.obj, L.ex.1, L.dat⟩ L.fit L.few L.ris L.led fun s1 vs k1 z1 g1 o1 pm => ?_)
  have len : vs.length = n := by rw [pm.length_eq, List.length_map, Array.length_toList]; exact L.num
  have pk : (vs.map vkey).Perm (ks es.toList) := by
    have q := pm.map vkey
    rw [List.map_map] at q
    exact q
  obtain ⟨xs, ex⟩ : ∃ xs : List Str, vs.map vkey = xs.map fun x => some (Sum.inr x) := by
    have all : ∀ v ∈ vs, ∃ x, vkey v = some (Sum.inr x) := fun v hv => by
      obtain ⟨e, he, q⟩ := List.mem_map.mp (pm.mem_iff.mp hv)
      obtain ⟨k, h1, _⟩ := L.ent e he
      rw [← q, h1]
      obtain ⟨x, rfl⟩ := txt k ((L.mem k).mpr (List.mem_map.mpr ⟨e, he, h1⟩))
      exact ⟨x, rfl⟩
    clear pk len pm
    induction vs with
    | nil => exact ⟨[], rfl⟩
    | cons v vs ih =>
      obtain ⟨x, hx⟩ := all v List.mem_cons_self
      obtain ⟨xs, h2⟩ := ih fun u hu => all u (List.mem_cons_of_mem _ hu)
      exact ⟨x :: xs, by rw [List.map_cons, List.map_cons, hx, h2]⟩
  have isX : StrsAre vs xs := strs_of ex
  refine wpAny_bind (wpAny_newList ?_ (by rw [len, sizeLine_eq]; omega))
  have hoL : (s1.heap.push (seqObj "list" vs.toArray 0)).get? s1.heap.objs.size = some (seqObj "list" vs.toArray 0) := Heap.get?_push_size _ rfl
  refine wpAny_bind (wpAny_holding (wpAny_call_entry slot_list_sort ⟨_, hoL, rfl⟩ entry_list_sort (list_sort_treeK strKind_oneLt hoL isX.keysOf (fun v₁ v₂ rest e => keyKind_strs (by rw [← e]; exact isX)) (by rw [len]; exact few) fun st' a1 a2 => ⟨_, rfl, ?_⟩) (args_list_sort _)))
  obtain ⟨ys, b1, b2, b3⟩ := sorted_out_str isX a1 a2
  obtain ⟨c, hc⟩ := sortedHeap_at (vs := vs) (out := (arrOf st').map (·.2)) hoL
  have px : (ys.map fun x => some (Sum.inr x : Key)).Perm (ks es.toList) := ((b2.map _).trans (by rw [← ex])).trans pk
  have lenY : ys.length = n := by rw [b2.length_eq, ← isX.length, len]
  have ndY : ys.Nodup := List.Pairwise.of_map (fun x => some (Sum.inr x : Key)) (fun _ _ ne e => ne (by rw [e])) (px.nodup_iff.mpr L.nd)
  refine wpAny_pure ⟨_, rfl, fin _ s1.heap.objs.size _ c ys (fun b u e => ?_) g1 o1 z1 hc b1 b3 ndY (fun x => ?_) lenY⟩
  · have q := k1 b u e
    have lt := Heap.lt_size q
    show (sortedHeap (s1.heap.push (seqObj "list" vs.toArray 0)) s1.heap.objs.size vs _).get? b = some u
    rw [sortedHeap_old (Nat.ne_of_lt lt) (by rw [size_push']; exact Nat.lt_succ_of_lt lt)]
    exact Heap.get?_push_of_some _ q
  · rw [L.mem, ← px.mem_iff, List.mem_map]
    exact ⟨fun h => ⟨x, h, rfl⟩, fun ⟨y, h, e⟩ => by cases e; exact h⟩
end
end QU

set_option Elab.async false
set_option linter.all false
set_option maxRecDepth 100000
set_option maxHeartbeats 4000000
/-! Own layer: such sets in the layer's heap: set(xs), a set comprehension, sorted of it. -/
namespace QU
open PySem PySem.Spec PyProof.Rows L2 PpSet
def LSO (w : World) (a : Addr) (S : Key → Bool) (n : Nat) : HO := .ext fun h => LS w h a S n
theorem lso_new {w : World} {P : Program} {H : Hp} {h : Heap} {a : Addr} {S : Key → Bool} {n : Nat} (R : LS w h a S n) : ObjOk P w H h a (LSO w a S n) := by
  have ⟨o, _, _, _, L⟩ := R
  exact ⟨R, ⟨o, L.obj⟩, fun h1 h2 p k => p.at k⟩
section
variable {X : Cx}
theorem lso_get {pins : List (Addr × Obj)} {σ : L2.St} {H : Hp} {s : Shared} {a : Addr} {S : Key → Bool} {n : Nat} (I : Inv X pins σ H s) (ha : H a = some (LSO X.w a S n)) : LS X.w s.heap a S n := (I.hok a _ ha).1
/-- set.add -/
def rAddK (w : World) : V → List V → Hp → VK → Prop := fun x xs H Q => ∃ (a : Addr) (k : Key) (S : Key → Bool) (n : Nat), x = V.ref a ∧ xs = [kV k] ∧ H a = some (LSO w a S n) ∧ n + 1 < scanBound ∧
  Q .non (upd H a (LSO w a (fun j => S j || decide (j = k)) (if S k = true then n else n + 1)))
theorem mt_addK : MtR X "set.add" (rAddK X.w) := by
  intro pins s σ H x xs v us Q I rx rxs h
  obtain ⟨a, k, S, n, rfl, rfl, ha, room, q⟩ := h
  cases rx
  cases rxs with
  | cons ry rt =>
    cases rt
    refine call_add (lso_get I ha) (vkey_of ry) room fun h' sb new => ?_
    have he : ∃ u, h'.get? a = some u := by
      have ⟨o, _, _, _, L⟩ := new
      exact ⟨o, L.obj⟩
    exact ⟨.non, _, I.write (e := a) (t' := s.toks + 1) (by rw [ha]; trivial) (.inl rfl) (fun b u hb hu => (sb.2 b hb).trans hu) he (lso_new new), rfl, q⟩
/-- set(xs) -/
def rSetK (K : PySem.W.Frag) (w : World) : List V → Hp → VK → Prop := fun xs H Q => ∃ (l : Addr) (ks : List Key), xs = [.ref l] ∧ (SqL K H l (ks.map kV) ∨ SqT K H l (ks.map kV)) ∧ ks.length + 1 < scanBound ∧
  ∀ a c, H a = none → Q (.ref a) (upd H a (LSO w a (fun j => inK j ks) c))
theorem vals_keys : ∀ {ks : List Key} {us : List Value}, Vals (ks.map kV) us → us.map vkey = ks.map some
  | [], _, .nil => rfl
  | k :: ks, _, .cons r t => by rw [List.map_cons, List.map_cons, vkey_of r, vals_keys t]
theorem c_setK (hc : X.calm = true) : CallR X (.type "set") (rSetK X.K X.w) := by
  intro pins s σ H xs us Q I r h
  obtain ⟨l, ks, rfl, hl, room, q⟩ := h
  rw [Vals.ref1 r]
  have hn : H s.heap.objs.size = none := I.hok.fresh (Nat.le_refl _)
  have fin : ∀ (h' : Heap) (tk c : Nat), LS X.w h' s.heap.objs.size (fun j => inK j ks) c → c ≤ ks.length → (∀ b o, s.heap.get? b = some o → h'.get? b = some o) → EP X pins σ Q (.ref s.heap.objs.size) { s with heap := h', toks := tk } :=
    fun h' tk c L _ kp => ⟨.ref s.heap.objs.size, _, I.laid (t' := tk) kp (Nat.le_refl _) (lso_new L), rfl, q _ c hn⟩
  rcases hl with hl | hl
  · obtain ⟨its, rv, pl, _⟩ := I.list hl
    exact call_set_list (P := X.prog) (w := X.w) ks (I.ok.hd hc) pl.isList (by simpa using vals_keys rv) room fin
  · obtain ⟨its, rv, pl, _⟩ := I.tuple hl
    exact call_set_tup (P := X.prog) (w := X.w) ks (I.ok.hd hc) pl (by simpa using vals_keys rv) room fin
/-- sorted(s), texts -/
def rSortK (w : World) : List V → Hp → VK → Prop := fun vs H Q => ∃ (a : Addr) (S : Key → Bool) (n : Nat) (D : List Str), vs = [.ref a] ∧ H a = some (LSO w a S n) ∧ D.length < 64 ∧ (∀ k, S k = true → ∃ x ∈ D, k = Sum.inr x) ∧
  ∀ (xs : List Str) (p : Addr), sortedS xs = true → xs.Nodup → (∀ x, x ∈ xs ↔ S (Sum.inr x) = true) → H p = none → Q (.ref p) (upd H p (.lst (xs.map V.str)))
theorem sub_len : ∀ {l D : List (Option Key)}, l.Nodup → (∀ x ∈ l, x ∈ D) → l.length ≤ D.length
  | [], _, _, _ => Nat.zero_le _
  | x :: l, D, nd, sb => by
    obtain ⟨h1, h2⟩ := List.nodup_cons.mp nd
    obtain ⟨A, B, rfl⟩ := List.append_of_mem (sb x List.mem_cons_self)
    have := sub_len (l := l) (D := A ++ B) h2 fun y hy => by
      have ne : y ≠ x := fun e => h1 (e ▸ hy)
      have := sb y (List.mem_cons_of_mem _ hy)
      simp only [List.mem_append, List.mem_cons] at this ⊢
      rcases this with h | h | h
      · exact .inl h
      · exact absurd h ne
      · exact .inr h
    simp only [List.length_append, List.length_cons] at this ⊢
    omega
theorem c_sortK (hc : X.calm = true) : CallR X (.builtin "sorted") (rSortK X.w) := by
  intro pins s σ H vs us Q I r h
  obtain ⟨a, S, n, D, rfl, ha, few, sb, q⟩ := h
  have R := lso_get I ha
  rw [Vals.ref1 r]
  have nl : n < 64 := by
    obtain ⟨o, es, ep, t, L⟩ := R
    have := sub_len (D := D.map fun x => some (Sum.inr x : Key)) L.nd fun x hx => by
      cases x with
      | none =>
        obtain ⟨e, he, q⟩ := List.mem_map.mp hx
        obtain ⟨k, h1, _⟩ := L.ent e he
        rw [h1] at q
        cases q
      | some k =>
        obtain ⟨y, hy, rfl⟩ := sb k ((L.mem k).mpr hx)
        exact List.mem_map.mpr ⟨y, hy, rfl⟩
    rw [List.length_map] at this
    unfold ks at this
    rw [List.length_map, Array.length_toList, L.num] at this
    omega
  refine sorted_led R (fun k hk => let ⟨x, _, e⟩ := sb k hk; ⟨x, e⟩) (I.ok.hd hc) nl fun s' p out c xs kp g o hp hg hS hs hd hm hl => ?_
  have hlen : (xs.map V.str).length ≤ sizeLine := by rw [List.length_map, hl, sizeLine_eq]; omega
  have hn : H p = none := I.hok.fresh hp
  have J : Inv X pins σ (upd H p (.lst (xs.map V.str))) { s with heap := s'.heap, gens := s'.gens, drawn := s'.drawn, toks := s'.toks } :=
    I.call (ch := []) (Un.laid kp hp hn) (I.hok.laid kp hp ⟨hlen, out.toList, c, vals_of_strs hS, hg⟩) (by rw [g]; exact I.bare) (fun _ z => nomatch z)
  have e : s' = { s with heap := s'.heap, gens := s'.gens, drawn := s'.drawn, toks := s'.toks } := by
    cases s'; cases s; cases o; rfl
  rw [e]
  exact ⟨.ref p, _, J, rfl, q xs p hs hd hm hn⟩
/-- the empty set -/
abbrev zero (w : World) (d : Addr) : HO := LSO w d (fun _ => false) 0
/-- one key more -/
abbrev more (w : World) (d : Addr) (S : Key → Bool) (n : Nat) (c : Key) : HO := LSO w d (fun j => S j || decide (j = c)) (if S c = true then n else n + 1)
/-- what a turn asks of its element -/
def elK (w : World) (d : Addr) (N : Hp → Prop) : VK := fun y H4 => ∃ (c : Key) (S : Key → Bool) (n : Nat), y = kV c ∧ H4 d = some (LSO w d S n) ∧ n + 1 < scanBound ∧ N (upd H4 d (more w d S n c))
def turnK (w : World) (d : Addr) (g : TG) (tt : TT) (te : TE) (vs : List Nat) (σ : L2.St) (N : Hp → Prop) (x : V) (H' : Hp) : Prop :=
  g x (wipe σ vs) H' fun σ2 H2 => wipe σ2 vs = wipe σ vs ∧ tt σ2 H2 fun b H3 => if b = true then te σ2 H3 (elK w d N) else N H3
def tSk (w : World) (wi : TI) (g : TG) (tt : TT) (te : TE) (vs : List Nat) : TE := fun σ H Q => wi σ H fun J H1 => ∀ d, H1 d = none →
  ∃ W : Nat → Nat → Hp → Prop, (∃ m, W 0 m (upd H1 d (zero w d))) ∧ ∀ i m H, W i m H →
    (J.stop i H ∧ Q (.ref d) H) ∨ (J.go i H ∧ ∃ N : Hp → Prop, (∀ H', N H' → ∃ m', m' < m ∧ W (i + 1) m' H') ∧ ∀ x H', J.yld i H x H' → turnK w d g tt te vs σ N x H')
theorem pe_sk {el tg it : Expr} {ifs : List Expr} {scp : Scope} {own : List (PySem.Str × Nat)} {pos : Pos} {wi : TI} {g : TG} {tt : TT} {te : TE} (calm : X.calm = true) (nodup : X.N.Nodup) (walked : PI X tg it wi) (blk : BlkOk X.N X.env.scope scp own)
    (pgs : ∀ (s : Shared) (H : Hp) (C : Addr) (cl : List (PySem.Str × Addr)) (fp : List Addr), PG (X.blk s H scp (compEnvC scp cl C X.env) fp) tg g)
    (pts : ∀ (s : Shared) (H : Hp) (C : Addr) (cl : List (PySem.Str × Addr)) (fp : List Addr), PTs (X.blk s H scp (compEnvC scp cl C X.env) fp) ifs tt)
    (pes : ∀ (s : Shared) (H : Hp) (C : Addr) (cl : List (PySem.Str × Addr)) (fp : List Addr), PE (X.blk s H scp (compEnvC scp cl C X.env) fp) el te)
    (fold : ∀ x, foldedSetIterable it X.env x = pure x := by intro _; rfl) :
    PE X (.SetComp el [⟨tg, it, ifs, 0⟩] scp pos) (tSk X.w wi g tt te (own.map (·.2))) := by
  constructor
  intro pins s σ H Q I reading
  rw [eval_SetComp]
  have caught : ∀ y ∈ scp.names, y.2 = .free → ∃ c, X.env.cells.lookup y.1 = some c := by
    intro y hy e
    rcases blk.free y hy e with k | k
    · exact I.ok.has _ (.inl k)
    · exact I.ok.has _ (.inr k)
  refine wpAny_comprehension_free (use := none) rfl fold (closure_ok caught) blk.kind (fun y hy e => by rw [blk.uniq y hy, e]) ?_
  refine thn (walked.run pins s σ H _ I reading) fun xv sA hA => thn hA fun itv sB hB => ?_
  obtain ⟨ita, fp, tn, J, HB, rfl, IB, T, tnB, fpB, ask⟩ := hB
  refine newSet_ok (newEnv_comp ?_)
  -- the new set at d
  obtain ⟨d, hd⟩ : ∃ d, d = sB.heap.objs.size := ⟨_, rfl⟩
  obtain ⟨W, ⟨m0, w0⟩, turn⟩ := ask d (IB.hok.fresh (Nat.le_of_eq hd.symm))
  rw [← hd]
  generalize eC : ({ sB with heap := sB.heap.push { cls := .type "set", dict := none, data := .set #[] 0 (.fresh 0 0 (!X.w.params.followText "set-order")) } } : Shared) = sC
  have heapC : sC.heap = sB.heap.push { cls := .type "set", dict := none, data := .set #[] 0 (.fresh 0 0 (!X.w.params.followText "set-order")) } := by rw [← eC]
  have IC : Inv X pins σ (upd HB d (zero X.w d)) sC := by
    rw [← eC]
    refine IB.laid (t' := sB.toks) (fun b o e => Heap.get?_push_of_some _ e) (Nat.le_of_eq hd.symm) (lso_new ?_)
    rw [hd]
    exact fresh_led X.w
  have small : ∀ b ∈ fp, b < sB.heap.objs.size := by
    intro b hb
    obtain ⟨o, e, _⟩ := T.obj _ _ tnB b hb
    exact Heap.lt_size e
  have fpC : ∀ b ∈ fp, FpOk X pins (upd HB d (zero X.w d)) b ∧ b < sC.heap.objs.size := by
    intro b hb
    have lt := small b hb
    constructor
    · refine ⟨?_, (fpB b hb).2⟩
      rw [upd_ne (by rw [hd]; exact Nat.ne_of_lt lt)]
      exact (fpB b hb).1
    · rw [heapC, Heap.size_push]
      exact Nat.lt_succ_of_lt lt
  have tnC : tn 0 sC.heap := T.keep _ _ _ tnB fun b _ o e => by
    rw [heapC]
    exact Heap.get?_push_of_some _ e
  -- the block
  have ID := block_start IC blk nodup fpC
  generalize eH : upd HB d (zero X.w d) = HC at IC fpC ID w0
  generalize eCl : cellsFrom (sC.heap.objs.size + 1) scp.names (cloFrom X.env.cells scp.names []) = cl at ID
  have rg := pgs sC HC sC.heap.objs.size cl fp
  have rt := pts sC HC sC.heap.objs.size cl fp
  have re := pes sC HC sC.heap.objs.size cl fp
  show codeAny _ _ (.compStart (.SetComp el [⟨tg, it, ifs, 0⟩] scp pos) 0 (.ref ita) (.ref d) (compEnvC scp cl sC.heap.objs.size X.env)) (compPost (model X.prog X.w) X.A X.xe none (EP X pins σ Q) (.ref d) sC.heap.objs.size) { sC with heap := pushCells (sC.heap.push { cls := .type "dict", data := .dict #[] }) scp.names }
  generalize eE : compEnvC scp cl sC.heap.objs.size X.env = env at ID rg rt re ⊢
  have locs : env.locals = sC.heap.objs.size := by rw [← eE]; rfl
  generalize eD : ({ sC with heap := pushCells (sC.heap.push { cls := .type "dict", data := .dict #[] }) scp.names } : Shared) = sD at ID ⊢
  have tnD : tn 0 sD.heap := T.keep _ _ _ tnC fun b _ o e => by
    rw [← eD]
    exact pushCells_keeps _ _ _ _ (Heap.get?_push_of_some _ e)
  have free0 : ∀ b ∈ fp, HC b = none := fun b hb => (fpC b hb).1.1
  -- the iterator's own objects, in the block
  have own' : ∀ {σ1 : L2.St} {H1 : Hp} {s1 : Shared}, Inv (X.blk sC HC scp env fp) [] σ1 H1 s1 → (∀ b ∈ fp, H1 b = none) → ∀ b ∈ fp, FpOk (X.blk sC HC scp env fp) [] H1 b := by
    intro σ1 H1 s1 I1 no b hb
    refine ⟨no b hb, (I1.ok.exf b hb).1, I1.ok.exfs b hb, .inl hb, fun x c e => (I1.ok.exf b hb).2 x c e, fun q hq => ?_⟩
    have hq' : q ∈ ([] : List (Addr × Obj)) ++ [] := hq
    simp at hq'
  let Loop : Nat → Shared → Prop := fun n s1 => ∃ (i : Nat) (H1 : Hp), Inv (X.blk sC HC scp env fp) [] (wipe σ (own.map (·.2))) H1 s1 ∧ tn i s1.heap ∧ (∀ b ∈ fp, H1 b = none) ∧ W i n H1
  have start : Loop m0 sD := ⟨0, HC, ID, tnD, free0, w0⟩
  have run : codeAny (model X.prog X.w) X.A (.compLoop (.SetComp el [⟨tg, it, ifs, 0⟩] scp pos) 0 (.ref ita) (.ref d) env) (compPost (model X.prog X.w) X.A X.xe none (EP X pins σ Q) (.ref d) sC.heap.objs.size) sD := by
    refine compLoopS_any Loop (fun n s1 here => ?_) m0 start
    obtain ⟨i, H1, I1, tn1, no1, w1⟩ := here
    rcases turn i n H1 w1 with ⟨stop, last⟩ | ⟨go, N, hN, item⟩
    · -- no item is left
      refine thnF (T.done (X.blk sC HC scp env fp) rfl rfl rfl calm i [] s1 _ H1 (fun _ _ => False) I1 (own' I1 no1) tn1 stop) fun r s2 hr => ?_
      obtain ⟨rfl, I2⟩ := hr
      have back : Inv X pins σ H1 s2 := IC.call' (ch := fp) I2.os I2.base I2.hok I2.bare (fun b hb => by
        obtain ⟨_, f1, _, f3, f4, f5⟩ := (fpC b hb).1
        exact ⟨f3, f1, f4, f5⟩)
      have noL : H1 sC.heap.objs.size = none := by
        have := I2.free
        rw [← locs]
        exact this
      obtain ⟨m, ns, _⟩ := I2.loc
      have ns' : s2.heap.Ns sC.heap.objs.size m := by rw [← locs]; exact ns
      obtain ⟨f0, f1, f2, f3, f4, f5⟩ := IC.fpOk (Nat.le_refl _) noL
      exact ⟨m, ns', fun h2 sb => ⟨.ref d, H1, back.turned (t' := s2.toks) (fun b o hb e => (sb.2 b hb).trans e) f0 f1 f3 f4 f5, rfl, last⟩⟩
    · -- one more
      refine thnF (T.item (X.blk sC HC scp env fp) rfl rfl rfl calm i [] s1 _ H1 (fun _ _ => False) I1 (own' I1 no1) tn1 go) fun r s2 hr => ?_
      obtain ⟨u, rfl, h2⟩ := hr
      refine thnF h2 fun _ s3 h3 => ?_
      obtain ⟨x, H3, I3, rx, y3, tn3, no3⟩ := h3
      have I3p := I3.pinned (own' I3 no3) (T.obj _ _ tn3)
      refine thnF (rg.run _ s3 _ H3 x u _ I3p rx (item x H3 y3)) fun _ s4 h4 => ?_
      obtain ⟨σ4, H4, I4, wp4, q4⟩ := h4
      refine thnF (rt.run _ s4 σ4 H4 _ I4 q4) fun b s5 h5 => ?_
      obtain ⟨H5, I5, q5⟩ := h5
      have close : ∀ {s6 : Shared} {H6 : Hp}, Inv (X.blk sC HC scp env fp) ([] ++ pinsAt fp s3.heap) σ4 H6 s6 → N H6 → ∃ m, m < n ∧ Loop m s6 := by
        intro s6 H6 I6 nx
        obtain ⟨m, lt, w6⟩ := hN H6 nx
        have pinned : ∀ b ∈ fp, ∀ o, s3.heap.get? b = some o → s6.heap.get? b = some o ∧ H6 b = none := by
          intro b hb o e
          have z := I6.pin (b, o) (List.mem_append_right _ (List.mem_append_right _ (mem_pinsAt hb e)))
          exact ⟨z.1, z.2.1⟩
        have len : (wipe σ (own.map (·.2))).length = σ4.length := by rw [← wp4, wipe_length]
        refine ⟨m, lt, i + 1, H6, (I6.unpinned (pins := [])).weak len (fun j v e => ?_), T.keep _ _ _ tn3 (fun b hb o e => (pinned b hb o e).1), fun b hb => ?_, w6⟩
        · rw [← wp4] at e
          exact (wipe_some e).1
        · obtain ⟨o, e, _⟩ := T.obj _ _ tn3 b hb
          exact (pinned b hb o e).2
      cases b with
      | false =>
        simp only [Bool.false_eq_true, if_false] at q5 ⊢
        exact close I5 q5
      | true =>
        simp only [if_true] at q5 ⊢
        refine thnF (re.run _ s5 σ4 H5 _ I5 q5) fun z s6 h6 => ?_
        obtain ⟨y, H6, I6, ry, c, S, k, rfl, hS, room, nx⟩ := h6
        refine wpAny_mono (mt_addK (X := X.blk sC HC scp env fp) _ s6 σ4 H6 (.ref d) [kV c] (.ref d) [z] (fun _ H7 => N H7) I6 rfl (.cons ry .nil) ⟨d, c, S, k, rfl, rfl, hS, room, nx⟩) (fun _ s7 h7 => ?_) fun _ _ f => f.elim
        obtain ⟨_, H7, I7, _, n7⟩ := h7
        exact close I7 n7
  exact codeAny_compStart_set run (T.self X.A 0 _ _ _ tnD run)
end
end QU

set_option Elab.async false
set_option linter.all false
set_option maxRecDepth 100000
set_option maxHeartbeats 4000000
/-! Own layer: list + list, extend, methods with arguments, == by __eq__, repr of any data, sorted sets of texts, making with lent arguments, dead ways. -/
namespace QT
open PySem PySem.Spec PyProof.Rows L2 QB
section
variable {X : Cx}
/-! ### dead ways -/
def tDeadE : TE := fun _ _ _ => False
theorem pe_dead {e : Expr} : PE X e tDeadE := ⟨fun _ _ _ _ _ _ h => h.elim⟩
/-! ### list + list, extend -/
def rCatK (K : PySem.W.Frag) : R2 := fun x y H Q => ∃ a b xs ys, x = .ref a ∧ y = .ref b ∧ SqL K H a xs ∧ SqL K H b ys ∧ xs.length + ys.length ≤ sizeLine ∧ ∀ p, H p = none → Q (.ref p) (upd H p (.lst (xs ++ ys)))
theorem op_catK : OpR X (binaryOp .Add) (rCatK X.K) := by
  intro pins s σ H x y v u Q I rx ry h
  obtain ⟨a, b, xs, ys, rfl, rfl, ha, hb, hz, q⟩ := h
  cases rx
  cases ry
  obtain ⟨i1, r1, ⟨⟨c1, d1, da1, s1⟩, n1, e1, hc1, _, hd1⟩, z1⟩ := I.list ha
  obtain ⟨i2, r2, ⟨⟨c2, d2, da2, s2⟩, n2, e2, hc2, _, hd2⟩, z2⟩ := I.list hb
  have l1 := r1.length
  have l2 := r2.length
  simp only at hc1 hd1 hc2 hd2
  subst hc1 hd1 hc2 hd2
  refine concat_meets ⟨_, e1, rfl⟩ ⟨_, e2, rfl⟩ noFill_list_add seq_list_add PySem.F.slot_list_add PySem.F.entry_list_add (PySem.F.args_list_add_2 _ _) (list_addW a b i1.toArray i2.toArray n1 n2 d1 d2 s1 s2 (by simp; omega)) ⟨e1, e2, ?_⟩
  rw [show i1.toArray ++ i2.toArray = (i1 ++ i2).toArray by simp]
  exact ⟨.ref _, _, I.lnew (t' := s.toks) (r1.append r2) (by rw [List.length_append]; omega), rfl, q _ I.fresh⟩
def rExtK (K : PySem.W.Frag) : V → List V → Hp → VK → Prop := fun x vs H Q => ∃ l b xs ys, x = .ref l ∧ vs = [.ref b] ∧ H l = some (.lst xs) ∧ SqL K H b ys ∧ xs.length + ys.length ≤ sizeLine ∧ Q .non (upd H l (.lst (xs ++ ys)))
theorem ext_meets (l : Addr) (items : Array Value) (n : Nat) (b : Addr) (items2 : Array Value) (n2 : Nat) (dd : Option Addr) (sl : Array (Option Value)) (hc0 : ¬(!items.isEmpty && Builtin.List.listTooLong (items.size + items2.size)) = true) (hc1 : items.size ≤ sizeLine) (hs2 : items.size + items2.size ≤ sizeLine + 1) :
    Meets (Builtin.«list.extend» ⟨[.ref l, .ref b], []⟩) (fun _ R s => s.heap.get? l = some { cls := .type "list", dict := none, data := .seq items n, slots := #[] } ∧ s.heap.get? b = some { cls := .type "list", dict := dd, data := .seq items2 n2, slots := sl } ∧ R (.ok (.ret Value.none)) { s with heap := s.heap.update l (Obj.mapSeq fun x => x ++ items2), toks := s.toks }) :=
  .of_wp fun prog w A R s h => by
    obtain ⟨hp, g, d, tk, os⟩ := s
    obtain ⟨hl, hb, h⟩ := h
    have f1 := PySem.F.sub_list_list
    have f2 := PySem.F.sub_list_tuple
    have hz' : (items ++ items2).size ≤ sizeLine + 1 := by rw [Array.size_append]; exact hs2
    wp_walk using (wpAny_updateSeq hl rfl (hz := hc1) (_hz' := hz')), wpAny_loadPart' hl, wpAny_loadPart' hb
    exact ⟨_, rfl, h⟩
theorem mt_extK : MtM X "list.extend" (rExtK X.K) := by
  intro pins s σ H x vs v us Q I rx rv h
  obtain ⟨l, b, xs, ys, rfl, rfl, hH, hB, hz, q⟩ := h
  cases rx
  obtain ⟨u, rfl, ru⟩ := rv.one
  cases ru
  obtain ⟨z, its, n, r, hl, e⟩ := I.lstM hH
  obtain ⟨i2, r2, ⟨⟨c2, d2, da2, s2⟩, n2, e2, hc2, _, hd2⟩, z2⟩ := I.list hB
  have l2 := r2.length
  simp only at hc2 hd2
  subst hc2 hd2
  have sz : its.toArray.size + i2.toArray.size ≤ sizeLine := by rw [List.size_toArray, List.size_toArray]; omega
  have nl : ¬ (!its.toArray.isEmpty && Builtin.List.listTooLong (its.toArray.size + i2.toArray.size)) = true := by
    rw [notLongL sz, Bool.and_false]
    exact Bool.false_ne_true
  refine call_meets F.slot_list_extend ⟨_, e, rfl⟩ F.entry_list_extend (F.args_list_extend_2 _ _) (ext_meets l its.toArray n b i2.toArray n2 d2 s2 nl (by rw [List.size_toArray]; omega) (by omega)) ⟨e, e2, ?_⟩
  exact ⟨.non, _, I.lset (its' := its ++ i2) hH e (by simp) (r.append r2) (by rw [List.length_append]; omega), rfl, q⟩
end
section
variable {K : PySem.W.Frag} {A : Nat → Addr} {G : Fx} {σ : L2.St} {ρ ρ' : Rho} {H H' : Hp} {O : Oset} {p : Addr} {t t' : T} {v : V} {i : Nat}
def eDead : EF := fun _ => none
def sDead : SF := fun _ => .fail
theorem ev_dead {te : TE} : EV K A te eDead := fun G σ H ρ O r o ρ' e => nomatch e
theorem sv_dead {ts : TS} : SV K A ts sDead := fun G σ H ρ O D r e => e.elim
def fCat : List T → Option Opd
  | [.lst xs, .lst ys] => if xs.length + ys.length ≤ sizeLine then some (.own (.lst (xs ++ ys))) else none
  | _ => none
theorem b_cat : B2 K A (rCatK K) fCat := fun H O vs ts o d0 tp e Q q => by
  match ts, e with
  | [.lst xs, .lst ys], e =>
    simp only [fCat] at e
    split at e
    · rename_i hz
      cases e
      match vs, tp with
      | [v, w], .cons a (.cons b .nil) =>
        obtain ⟨p1, v1, rfl, h1, r1⟩ := a.lst
        obtain ⟨p2, v2, rfl, h2, r2⟩ := b.lst
        exact ⟨p1, p2, v1, v2, rfl, rfl, h1, h2, by rw [r1.len, r2.len]; exact hz, newL (r1.app r2) q⟩
    · cases e
def fCatT : List T → Option Opd
  | [.tup xs, .tup ys] => if xs.length + ys.length ≤ sizeLine then some (.val (.tup (xs ++ ys))) else none
  | _ => none
def gExtend : T → List T → Option (T × T)
  | .lst xs, [.lst ys] => if xs.length + ys.length ≤ sizeLine then some (.lst (xs ++ ys), .non) else none
  | _, _ => none
theorem m_extend : Mv K A (rExtK K) gExtend := fun H O p t vs ts t' u hw hr e Q q => by
  match t, ts, e with
  | .lst xs, [.lst ys], e =>
    simp only [gExtend] at e
    split at e
    · rename_i hz
      cases e
      obtain ⟨ws, hH, r1⟩ := hw
      match vs, hr with
      | [v], .cons a .nil =>
        cases a with
        | lst h2 r2 =>
          exact ⟨p, _, ws, _, rfl, rfl, hH, hide_le.sqL h2, by rw [r1.len, r2.len]; exact hz, q _ _ ⟨_, upd_same, r1.app r2⟩ .non⟩
    · cases e
end
end QT

set_option Elab.async false
set_option linter.all false
set_option maxRecDepth 100000
set_option maxHeartbeats 4000000
namespace QT
open PySem PySem.Spec PyProof.Rows L2 QB
section
variable {X : Cx}
/-! ### o.m(e, ..), o of one of several classes -/
def tDynN {ι : Type} (C : ι → Addr) (m : Str) (sp : ι → Sp) (dvs : List V) (ta : TE) (t : TA) : TE := fun σ H Q => ta σ H fun x H1 => ∃ i a dx fs, x = .ref a ∧ H1 a = some (.ins (C i) dx fs) ∧ fs.lookup m = none ∧ t σ H1 fun vs H2 => sp i (x :: (vs ++ dvs)) H2 Q C8.E0
theorem pe_dynN {ι : Type} {C : ι → Addr} {k j : Nat} {o e : Expr} {es : List Expr} {m : Str} {apos pos : Pos} {sp : ι → Sp} {dvs : List V} {ta : TE} {t : TA} {pl : Sem Bool} (c : ∀ i, C8.Met X.prog X.w X.K X.mg X.base k (C i) m (sp i) dvs) (hr : Room j X.A) (hk : k ≤ j) (he : PE X o ta) (ha : PA X (e :: es) t)
    (one : starEach (e :: es) X.env = (false, eval e X.env) :: starEach es X.env := by rfl) (plain : (backTo pos (starEach es X.env)).any (·.1) = false := by rfl)
    (shape : eval (.Call (.Attribute o m apos) (e :: es) [] pos) X.env = (do
      let ov ← eval o X.env
      standAt apos.atName
      let (f, first) ← holding [ov] (getMethod ov m pl)
      callWith pos f first (backTo pos (starEach (e :: es) X.env)) (backToKw pos (keywordEach [] X.env))) := by rfl) :
    PE X (.Call (.Attribute o m apos) (e :: es) [] pos) (tDynN C m sp dvs ta t) := by
  constructor
  intro pins s σ H Q I h
  refine PySem.W.methodCall_KW (pl := pl) (thn (he.run pins s σ H _ I h) fun u s1 h1 => ?_) shape
  obtain ⟨x, H1, I1, rx, i, a, dx, fs, rfl, hat, hl, q⟩ := h1
  obtain rfl : u = Value.ref a := rx
  obtain ⟨f, fd, ps, ds, hc, hm, F, hb, hd⟩ := (c i).ex
  refine getmeth_ok I1 hat hc hm hl ?_
  refine PySem.W.callWith_K (first := [.ref a]) (h₀ := X.base) I.ok.mod.kin hm.kp (thn (ha.run pos pins s1 σ H1 _ I1 q) fun us s2 h2 => ?_) one plain
  obtain ⟨vs, H2, I2, r, q2⟩ := h2
  exact ⟨I2.kIn, run_fn (us := .ref a :: us) (vs := .ref a :: vs) F (hr.mono hk) hb hd pass0 I2 (.cons rfl r) q2⟩
theorem pe_dynD {ι : Type} {C : ι → Addr} {k j : Nat} {o : Expr} {m : Str} {apos pos : Pos} {sp : ι → Sp} {dvs : List V} {ta : TE} {pl : Sem Bool} (c : ∀ i, C8.Met X.prog X.w X.K X.mg X.base k (C i) m (sp i) dvs) (hr : Room j X.A) (hk : k ≤ j) (he : PE X o ta)
    (shape : eval (.Call (.Attribute o m apos) [] [] pos) X.env = (do
      let ov ← eval o X.env
      standAt apos.atName
      let (f, first) ← holding [ov] (getMethod ov m pl)
      callWith pos f first (backTo pos (starEach [] X.env)) (backToKw pos (keywordEach [] X.env))) := by rfl) :
    PE X (.Call (.Attribute o m apos) [] [] pos) (tDynN C m sp dvs ta tNil) := by
  constructor
  intro pins s σ H Q I h
  refine PySem.W.methodCall_KW (pl := pl) (thn (he.run pins s σ H _ I h) fun u s1 h1 => ?_) shape
  obtain ⟨x, H1, I1, rx, i, a, dx, fs, rfl, hat, hl, q⟩ := h1
  obtain rfl : u = Value.ref a := rx
  obtain ⟨f, fd, ps, ds, hc, hm, F, hb, hd⟩ := (c i).ex
  refine getmeth_ok I1 hat hc hm hl ?_
  exact PySem.W.callWith_K0 (first := [.ref a]) I1.kIn hm.kp (run_fn (us := [.ref a]) (vs := [.ref a]) F (hr.mono hk) hb hd pass0 I1 (.cons rfl .nil) q)
/-! ### repr of any data -/
def rReprV (K : PySem.W.Frag) : List V → Hp → VK → Prop := fun xs H Q => QG.rRepr K xs H Q ∨ (xs = [.non] ∧ Q (.str "None") H) ∨ (∃ i : Int, xs = [.int i] ∧ i.natAbs.log2 < 1920 ∧ Q (.str (toString i)) H) ∨ (∃ x : Str, xs = [.str x] ∧ (reprText x).length ≤ sizeLine ∧ Q (.str (reprText x)) H) ∨ (∃ b : Bool, xs = [.bl b] ∧ Q (.str (if b then "True" else "False")) H)
theorem c_reprV {j : Nat} (hG : X.A.guards = some []) (hr : Room j X.A) : CallR X (.builtin "repr") (rReprV X.K) := by
  intro pins s σ H xs us Q I r h
  rcases h with h | ⟨rfl, q⟩ | ⟨i, rfl, hz, q⟩ | ⟨x, rfl, hz, q⟩ | ⟨b, rfl, q⟩
  · exact QG.c_repr hG hr pins s σ H xs us Q I r h
  · obtain ⟨u, rfl, ru⟩ := vals1 r
    obtain rfl : u = Value.none := ru
    exact PySem.P.repr_of_none ⟨.str _, H, I.tok _, ⟨_, rfl⟩, q⟩
  · obtain ⟨u, rfl, t, rfl⟩ := vals1 r
    exact PySem.P.repr_of_int hz ⟨.str _, H, I.tok _, ⟨_, rfl⟩, q⟩
  · obtain ⟨u, rfl, t, rfl⟩ := vals1 r
    exact PySem.P.repr_of_str ⟨.str _, H, I.tok _, ⟨_, rfl⟩, q⟩ hz
  · obtain ⟨u, rfl, ru⟩ := vals1 r
    obtain rfl : u = Value.bool b := ru
    cases b
    · exact PySem.P.repr_of_bool ⟨.str _, H, I.tok _, ⟨_, rfl⟩, q⟩
    · exact PySem.P.repr_of_bool ⟨.str _, H, I.tok _, ⟨_, rfl⟩, q⟩
end
section
variable {K : PySem.W.Frag} {A : Nat → Addr} {G : Fx} {σ : L2.St} {ρ ρ' : Rho} {H H' : Hp} {O : Oset} {p : Addr} {t t' : T} {v : V} {i : Nat}
def eDynN (m : Str) (F : Nat → FF) (ds : List T) (e : EF) (a : AF) : EF := fun ρ => do
  let (t, ρ1) ← opened e ρ
  match t with
  | .obj c fs => match fs.lookup m with
    | none => do
      let (os, ρ2) ← a ρ1
      let (ts, ρ3) ← shareL os ρ2
      let (o, _) ← F c ((.obj c fs :: (ts ++ ds)).map Sl.val)
      pure (o, ρ3)
    | some _ => none
  | _ => none
theorem ev_dynN {m : Str} {F : Nat → FF} {Pc : Nat → Prop} {ta : TE} {e : EF} {tl : TA} {a : AF} {dvs : List V} {ds : List T} (he : EV K A ta e) (ha : AV K A tl a) (hd : ∀ H, RpL K A H dvs ds) (hF : ∀ c as r, F c as = some r → Pc c) :
    EV K A (tDynN (ι := { c : Nat // Pc c }) (fun c => A c.1) m (fun c => spF K A (F c.1)) dvs ta tl) (eDynN m F ds e a) := fun G σ H ρ O r o ρ' ee Q q => by
  simp only [eDynN, Option.bind_eq_bind, Option.bind_eq_some_iff] at ee
  obtain ⟨⟨t, ρ1⟩, h1, h2⟩ := ee
  dsimp only at h2
  split at h2
  · rename_i c fs
    split at h2
    · rename_i hl
      simp only [Option.bind_eq_some_iff] at h2
      obtain ⟨⟨os, ρ2⟩, h3, ⟨ts, ρ3⟩, h4, ⟨o', as'⟩, h5, h6⟩ := h2
      simp only [Option.pure_def, Option.some.injEq, Prod.mk.injEq] at h6
      obtain ⟨rfl, rfl⟩ := h6
      dsimp only at h3 h4 h5
      refine opened_ok he r h1 _ fun v H1 O1 p1 x1 => ?_
      have x1' := x1
      cases x1 with
      | obj g2 g3 =>
        rename_i p dx ws
        refine ⟨⟨c, hF _ _ _ h5⟩, p, dx, ws, rfl, (hide_some.mp g2).2, g3.none hl, ?_⟩
        refine ha G σ H1 ρ1 O1 p1.rel os ρ2 h3 _ fun vs H2 O2 p2 s2 nd => ?_
        obtain ⟨O3, p3, s3⟩ := release p1.rel p2 s2
        obtain ⟨O4, p4, r4⟩ := shareL_ok p3.rel s3 (by rw [shareL_fz]; exact h4)
        have p34 := p3.trans p4
        have pa := p1.trans p34
        have rv : RpL K A (hide H2 O4) (.ref p :: (vs ++ dvs)) (.obj c fs :: (ts ++ ds)) := .cons (x1'.mono (Le.of p34.le)) (r4.app (hd _))
        refine ⟨_, O4, _, _, args_vals rv pa.rel.dom, h5, fun w H' Ox bk => ?_⟩
        have kp : ∀ p, O4 p → H' p = H2 p := fun p hp => bk.kp p hp ioA_vals
        have p5 : Post K A G σ H2 _ O4 H' _ Ox := ⟨pa.rel.called bk.up bk.sub bk.dom bk.le kp bk.lv, bk.le, bk.sub, fun p hp _ => ⟨bk.up p hp, kp p hp⟩, fun _ h => h, bk.lv⟩
        exact q w H' Ox (pa.trans p5) ((bk.res.rl pa.rel fun _ h => h).back pa.lv)
    · cases h2
  · cases h2
/-! ### x == y by __eq__ -/
def eEqO (F : Nat → FF) (a b : EF) : EF := fun ρ => do
  let (os, ρ1) ← aC a (aC b aN) ρ
  let (ts, ρ2) ← shareL os ρ1
  match ts with
  | [.obj c fs, .obj d gs] => do
    let (o, _) ← F c [.val (.obj c fs), .val (.obj d gs)]
    pure (o, ρ2)
  | _ => none
theorem ev_eqO {F : Nat → FF} {Pc : Nat → Prop} {ta tb : TE} {a b : EF} (ha : EV K A ta a) (hb : EV K A tb b) (nf : ∀ c d, PySem.W.notFirst K (A c) (.ref (A d)) = true) (hF : ∀ c as r, F c as = some r → Pc c) :
    EV K A (tOp (QC.rDynEq (ι := { c : Nat // Pc c }) K (fun c => A c.1) (fun c => spF K A (F c.1))) ta tb) (eEqO F a b) := fun G σ H ρ O r o ρ' ee Q q => by
  simp only [eEqO, Option.bind_eq_bind, Option.bind_eq_some_iff] at ee
  obtain ⟨⟨os, ρ1⟩, h1, ⟨ts, ρ2⟩, h2, h3⟩ := ee
  dsimp only at h2 h3
  refine av_cons ha (av_cons hb av_nil) G σ H ρ O r os ρ1 h1 (fun vs H2 => l2 (QC.rDynEq (ι := { c : Nat // Pc c }) K (fun c => A c.1) (fun c => spF K A (F c.1))) vs H2 Q) fun vs H1 O0 p0 s0 nd => ?_
  obtain ⟨O1, p1, s1⟩ := release r p0 s0
  obtain ⟨O2, p2, r2⟩ := shareL_ok p1.rel s1 (by rw [shareL_fz]; exact h2)
  have pa := p1.trans p2
  split at h3
  · rename_i c fs d gs
    simp only [Option.bind_eq_some_iff] at h3
    obtain ⟨⟨o', as'⟩, h5, h6⟩ := h3
    simp only [Option.pure_def, Option.some.injEq, Prod.mk.injEq] at h6
    obtain ⟨rfl, rfl⟩ := h6
    have rv := r2
    match vs, r2 with
    | [v, w], .cons x (.cons y .nil) =>
      cases x with
      | obj g1 g2 =>
        rename_i p1' dx ws
        cases y with
        | obj g3 g4 =>
          rename_i p2' dy ws'
          refine ⟨⟨c, hF _ _ _ h5⟩, p1', dx, ws, rfl, (hide_some.mp g1).2, .inl ⟨p2', _, dy, ws', rfl, (hide_some.mp g3).2, nf c d⟩, ?_⟩
          refine ⟨_, O2, _, _, args_vals (ts := [.obj c fs, .obj d gs]) rv pa.rel.dom, h5, fun w H' Ox bk => ?_⟩
          have kp : ∀ p, O2 p → H' p = H1 p := fun p hp => bk.kp p hp (ioA_vals (ts := [.obj c fs, .obj d gs]))
          have p5 : Post K A G σ H1 _ O2 H' _ Ox := ⟨pa.rel.called bk.up bk.sub bk.dom bk.le kp bk.lv, bk.le, bk.sub, fun p hp _ => ⟨bk.up p hp, kp p hp⟩, fun _ h => h, bk.lv⟩
          exact q w H' Ox (pa.trans p5) ((bk.res.rl pa.rel fun _ h => h).back pa.lv)
  · cases h3
/-! ### repr -/
def fReprV : List T → Option Opd
  | [.non] => some (.val (.str "None"))
  | [.int i] => if i.natAbs.log2 < 1920 then some (.val (.str (toString i))) else none
  | [.str x] => if (reprText x).length ≤ sizeLine then some (.val (.str (reprText x))) else none
  | [.bl b] => some (.val (.str (if b then "True" else "False")))
  | a => fRepr a
theorem b_reprV : Bv K A (rReprV K) fReprV := fun H O vs ts o d0 tp e Q q => by
  unfold fReprV at e
  split at e
  · match vs, tp with
    | [v], .cons x .nil => cases e; rw [x.non]; exact .inr (.inl ⟨rfl, q _ H (Same.refl _) (.str _)⟩)
  · split at e
    · rename_i hz
      match vs, tp with
      | [v], .cons x .nil => cases e; rw [x.int]; exact .inr (.inr (.inl ⟨_, rfl, hz, q _ H (Same.refl _) (.str _)⟩))
    · cases e
  · split at e
    · rename_i hz
      match vs, tp with
      | [v], .cons x .nil => cases e; rw [x.str]; exact .inr (.inr (.inr (.inl ⟨_, rfl, hz, q _ H (Same.refl _) (.str _)⟩)))
    · cases e
  · match vs, tp with
    | [v], .cons x .nil => cases e; rw [x.bl]; exact .inr (.inr (.inr (.inr ⟨_, rfl, q _ H (Same.refl _) (.str _)⟩)))
  · exact .inl (b_repr H O vs _ o d0 tp e Q q)
end
end QT

set_option Elab.async false
set_option linter.all false
set_option maxRecDepth 100000
set_option maxHeartbeats 4000000
/-! Own layer: the order of texts; sorted(set(xs)), sorted of a set comprehension. -/
namespace QT
open PySem PySem.Spec PyProof.Rows L2 QB
/-! ### the order of texts -/
def ltS (x y : Str) : Bool := ltCps x.cps.toList y.cps.toList
theorem ltS_iff {x y : Str} : ltS x y = true ↔ x.cps.toList < y.cps.toList := by
  unfold ltS
  rw [ltCps_eq]
  exact decide_eq_true_iff
theorem ltS_irr (x : Str) : ltS x x = false := by
  cases h : ltS x x with
  | false => rfl
  | true => exact absurd (ltS_iff.mp h) (List.lt_irrefl _)
theorem ltS_trans {x y z : Str} (a : ltS x y = true) (b : ltS y z = true) : ltS x z = true := ltS_iff.mpr (List.lt_trans (ltS_iff.mp a) (ltS_iff.mp b))
theorem str_ext {x y : Str} (h : x.cps.toList = y.cps.toList) : x = y := by
  obtain ⟨⟨a⟩⟩ := x
  obtain ⟨⟨b⟩⟩ := y
  cases h
  rfl
theorem ltS_tri {x y : Str} (a : ltS x y = false) (b : ltS y x = false) : x = y := by
  have h1 : ¬ x.cps.toList < y.cps.toList := fun h => by rw [ltS_iff.mpr h] at a; cases a
  have h2 : ¬ y.cps.toList < x.cps.toList := fun h => by rw [ltS_iff.mpr h] at b; cases b
  exact str_ext (List.le_antisymm (List.not_lt.mp h2) (List.not_lt.mp h1))
def insU (x : Str) : List Str → List Str
  | [] => [x]
  | y :: r => if ltS x y then x :: y :: r else if x = y then y :: r else y :: insU x r
def sortU (xs : List Str) : List Str := xs.foldr insU []
theorem mem_insU {x z : Str} : ∀ {l : List Str}, z ∈ insU x l ↔ z = x ∨ z ∈ l
  | [] => by simp [insU]
  | y :: r => by
    unfold insU
    split
    · simp
    · split
      · rename_i h; subst h; simp
      · simp only [List.mem_cons, mem_insU (l := r)]
        constructor
        · rintro (h | h | h) <;> simp [h]
        · rintro (h | h | h) <;> simp [h]
theorem mem_sortU {z : Str} : ∀ {xs : List Str}, z ∈ sortU xs ↔ z ∈ xs
  | [] => by simp [sortU]
  | x :: r => by
    show z ∈ insU x (sortU r) ↔ _
    rw [mem_insU, mem_sortU (xs := r)]
    simp
abbrev Asc (l : List Str) : Prop := l.Pairwise fun x y => ltS x y = true
theorem asc_insU {x : Str} : ∀ {l : List Str}, Asc l → Asc (insU x l)
  | [], _ => by simp [insU, Asc]
  | y :: r, h => by
    obtain ⟨h1, h2⟩ := List.pairwise_cons.mp h
    unfold insU
    split
    · rename_i hl
      refine List.pairwise_cons.mpr ⟨fun z hz => ?_, h⟩
      rcases List.mem_cons.mp hz with rfl | hz
      · exact hl
      · exact ltS_trans hl (h1 z hz)
    · rename_i hl
      split
      · exact h
      · rename_i hne
        refine List.pairwise_cons.mpr ⟨fun z hz => ?_, asc_insU h2⟩
        rcases mem_insU.mp hz with rfl | hz
        · cases hc : ltS y z with
          | true => rfl
          | false => exact absurd (ltS_tri (by simpa using hl) hc) hne
        · exact h1 z hz
theorem asc_sortU : ∀ xs : List Str, Asc (sortU xs)
  | [] => List.Pairwise.nil
  | x :: r => asc_insU (asc_sortU r)
theorem asc_one : ∀ {l m : List Str}, Asc l → Asc m → (∀ x, x ∈ l ↔ x ∈ m) → l = m
  | [], [], _, _, _ => rfl
  | [], y :: m, _, _, h => by have := (h y).mpr List.mem_cons_self; cases this
  | x :: l, [], _, _, h => by have := (h x).mp List.mem_cons_self; cases this
  | x :: l, y :: m, a, b, h => by
    obtain ⟨a1, a2⟩ := List.pairwise_cons.mp a
    obtain ⟨b1, b2⟩ := List.pairwise_cons.mp b
    have irr : ∀ {u v : Str}, ltS u v = true → ltS v u = true → False := fun p q => by
      have := ltS_trans p q
      rw [ltS_irr] at this
      cases this
    have e : x = y := by
      rcases List.mem_cons.mp ((h x).mp List.mem_cons_self) with e | h1
      · exact e
      · rcases List.mem_cons.mp ((h y).mpr List.mem_cons_self) with e | h2
        · exact e.symm
        · exact (irr (a1 y h2) (b1 x h1)).elim
    subst e
    rw [asc_one a2 b2 fun z => ?_]
    constructor
    · intro hz
      rcases List.mem_cons.mp ((h z).mp (List.mem_cons_of_mem _ hz)) with rfl | h1
      · have := a1 z hz; rw [ltS_irr] at this; cases this
      · exact h1
    · intro hz
      rcases List.mem_cons.mp ((h z).mpr (List.mem_cons_of_mem _ hz)) with rfl | h1
      · have := b1 z hz; rw [ltS_irr] at this; cases this
      · exact h1
theorem rising_asc : ∀ {p : Str} {l : List Str}, risingS p l = true → (p :: l).Nodup → Asc (p :: l)
  | p, [], _, _ => by simp [Asc]
  | p, x :: r, h, nd => by
    have h1 : (!ltCps x.cps.toList p.cps.toList && risingS x r) = true := h
    rw [Bool.and_eq_true] at h1
    have hx : ltS x p = false := by simpa [ltS] using h1.1
    have ne : p ≠ x := fun e => by subst e; simp at nd
    have px : ltS p x = true := by
      cases hc : ltS p x with
      | true => rfl
      | false => exact absurd (ltS_tri hc hx) ne
    have ih := rising_asc h1.2 (List.nodup_cons.mp nd).2
    refine List.pairwise_cons.mpr ⟨fun z hz => ?_, ih⟩
    rcases List.mem_cons.mp hz with rfl | hz
    · exact px
    · exact ltS_trans px ((List.pairwise_cons.mp ih).1 z hz)
theorem sortedS_asc : ∀ {l : List Str}, sortedS l = true → l.Nodup → Asc l
  | [], _, _ => List.Pairwise.nil
  | p :: l, h, nd => rising_asc h nd
theorem sortU_one {ys xs : List Str} (h : sortedS ys = true) (nd : ys.Nodup) (m : ∀ x, x ∈ ys ↔ x ∈ xs) : ys = sortU xs :=
  asc_one (sortedS_asc h nd) (asc_sortU xs) fun x => (m x).trans mem_sortU.symm
def kT : Key → T
  | .inl i => .int i
  | .inr x => .str x
section
variable {K : PySem.W.Frag} {A : Nat → Addr} {G : Fx} {σ σ' : L2.St} {H H' H2 : Hp} {ρ ρ' ρ2 : Rho} {O O' O2 : Oset} {i : Nat} {p : Addr} {t t' : T} {v : V} {x : Opd}
theorem rp_kT {k : Key} (h : Rp K A H v (kT k)) : v = kV k := by
  cases k <;> cases h <;> rfl
theorem rpl_kT : ∀ {ks : List Key} {vs : List V}, RpL K A H vs (ks.map kT) → vs = ks.map kV
  | [], _, .nil => rfl
  | k :: ks, _, .cons a b => by rw [rp_kT a, rpl_kT b]; rfl
/-- sorted(s), s a set at D that is new -/
theorem sort_led {w : World} {xs : List Str} {n : Nat} {D : Addr} {H1 : Hp} {O1 : Oset} (r : Rel K A G σ H ρ O) (P : Post K A G σ H ρ O H1 ρ' O1) (hD : H1 D = some (QU.LSO w D (fun j => QU.inK j (xs.map Sum.inr)) n)) (few : (sortU xs).length < 64) (Q : VK)
    (q : ∀ v H' O', Post K A G σ H ρ O H' ρ' O' → Rl K A σ H H' ρ' O' v (.own (.lst ((sortU xs).map .str))) → Q v H') : QU.rSortK w [.ref D] H1 Q := by
  refine ⟨D, _, n, sortU xs, rfl, hD, few, fun k hk => ?_, fun ys p hs nd hm hp => ?_⟩
  · have := QU.inK_iff.mp hk
    obtain ⟨x, hx, rfl⟩ := List.mem_map.mp this
    exact ⟨x, mem_sortU.mpr hx, rfl⟩
  · have e : ys = sortU xs := sortU_one hs nd fun x => by
      rw [hm, QU.inK_iff, List.mem_map]
      exact ⟨fun ⟨y, h, e⟩ => by cases e; exact h, fun h => ⟨x, h, rfl⟩⟩
    subst e
    have nr : NewR K A H1 O1 (upd H1 p (.lst ((sortU xs).map V.str))) (.ref p) (.own (.lst ((sortU xs).map .str))) := ⟨p, rfl, hp, _, upd_same, RpL.ofStrs _⟩
    obtain ⟨O3, p3, r3⟩ := nr.post P.rel (same_new hp)
    exact q _ _ O3 (P.trans p3) (r3.back P.lv)
def eSortSet (e : EF) : EF := fun ρ => do
  let (o, ρ1) ← e ρ
  let t ← o.tree ρ1
  let ts ← t.items
  let xs ← strL ts
  if xs.length + 1 < scanBound ∧ (sortU xs).length < 64 then pure (.own (.lst ((sortU xs).map .str)), ρ1) else none
theorem ev_sortSet {w : World} {te : TE} {e : EF} (he : EV K A te e) : EV K A (tCB (QU.rSortK w) (tCons (tCB (QU.rSetK K w) (tCons te tNil)) tNil)) (eSortSet e) := fun G σ H ρ O r o ρ' ee Q q => by
  simp only [eSortSet, Option.bind_eq_bind, Option.bind_eq_some_iff] at ee
  obtain ⟨⟨o1, ρ1⟩, h1, t, h2, ts, h3, xs, h4, h5⟩ := ee
  dsimp only at h2 h5
  split at h5
  · rename_i hc
    simp only [Option.pure_def, Option.some.injEq, Prod.mk.injEq] at h5
    obtain ⟨rfl, rfl⟩ := h5
    refine he G σ H ρ O r o1 ρ1 h1 _ fun v H1 O0 p0 s0 => ?_
    obtain ⟨O1, p1, s1⟩ := release (vs := [v]) (os := [o1]) r p0 (.cons s0 .nil)
    have tp : Top K A H1 O1 v t := (match s1 with | .cons s1 _ => s1.top p1.rel (by rw [tree_fz]; exact h2))
    have ets := strL_eq h4
    subst ets
    obtain ⟨l, rfl, hl⟩ : ∃ l, v = .ref l ∧ (SqL K H1 l ((xs.map Sum.inr).map kV) ∨ SqT K H1 l ((xs.map Sum.inr).map kV)) := by
      have mp : ∀ ws : List V, RpL K A (hide H1 O1) ws (xs.map T.str) → ws = (xs.map Sum.inr).map kV := fun ws h => by
        rw [h.strs, List.map_map]; rfl
      cases t <;> simp only [T.items, Option.some.injEq, reduceCtorEq] at h3
      · subst h3
        obtain ⟨p, ws, rfl, h6, h7⟩ := tp.lst
        exact ⟨p, rfl, .inl (mp ws h7 ▸ h6)⟩
      · subst h3
        obtain ⟨p, ws, rfl, h6, h7⟩ := tp.tup
        exact ⟨p, rfl, .inr (mp ws h7 ▸ h6)⟩
    refine ⟨l, xs.map Sum.inr, rfl, hl, by rw [List.length_map]; exact hc.1, fun a c ha => ?_⟩
    have pn : Post K A G σ H ρ O (upd H1 a (QU.LSO w a (fun j => QU.inK j (xs.map Sum.inr)) c)) ρ1 O1 := p1.trans (.same p1.rel (same_new ha))
    exact sort_led r pn upd_same hc.2 Q q
  · cases h5
/-! ### a set comprehension -/
def ScW (w : World) (J : It) (g : TG) (tt : TT) (te : TE) (vs : List Nat) (σ : L2.St) (H1 : Hp) (Q : VK) : Prop := ∀ d, H1 d = none →
  ∃ W : Nat → Nat → Hp → Prop, (∃ m, W 0 m (upd H1 d (QU.zero w d))) ∧ ∀ i m H, W i m H →
    (J.stop i H ∧ Q (.ref d) H) ∨ (J.go i H ∧ ∃ N : Hp → Prop, (∀ H', N H' → ∃ m', m' < m ∧ W (i + 1) m' H') ∧ ∀ x H', J.yld i H x H' → QU.turnK w d g tt te vs σ N x H')
theorem sc_at {w : World} {g : TG} {tt : TT} {te : TE} {vs is : List Nat} {s : T → Rho → Option Rho} {bt : BF} {el : EF} (hg : GV K A is g s) (ht : TV K A tt bt) (he : EV K A te el) (hv : ∀ j ∈ is, j ∈ vs)
    {J : It} {ts : List T} {us : List Key} {Iv : Hp → Oset → Prop} {Ka : Oset} {H1 : Hp} {ρ1 ρe : Rho} {O1 : Oset} {Q : VK} (r1 : Rel K A G σ H1 ρ1 O1) (ok : IterK K A J ts Iv Ka) (iv : Iv H1 O1) (hK : ∀ p, Ka p → O1 p ∧ unheld σ ρ1 p) (hsz : ts.length < sizeLine)
    (h3 : compF s bt el vs ts (wipeR ρ1 vs) = some (us.map kT, ρe)) (hfew : ts.length + 1 < scanBound) (q : ∀ D n H' O', Post K A G σ H1 ρ1 O1 H' ρe O' → H1 D = none → O' D → unheld σ ρe D → H' D = some (QU.LSO w D (fun j => QU.inK j us) n) → Q (.ref D) H') : ScW w J g tt te vs σ H1 Q := by
    intro D hD
    obtain ⟨nO, n0, _⟩ := r1.fresh hD
    have pD : Post K A G σ H1 ρ1 O1 (upd H1 D (QU.zero w D)) ρ1 (O1.add D) := .sameAdd r1 (same_new hD) hD (by rw [upd_same]; simp)
    have unD : unheld σ ρ1 D := r1.unh hD
    have wr : ∀ {ρ2 : Rho} (j : Nat) (s : Sl), (wipeR ρ2 vs)[j]? = some s → s ≠ Sl.no → j ∉ vs := fun j s e n => by
      rcases wipeR_get e with ⟨_, e⟩ | ⟨h, _⟩
      · exact absurd e n
      · exact h
    -- the state of a turn
    let In : Nat → Hp → Rho → Oset → Prop := fun i H2 ρ2 O2 =>
      Rel K A G (L2.wipe σ vs) H2 ρ2 O2 ∧ Same (hide H1 O1) (hide H2 O2) ∧ (∀ p, O2 p → O1 p ∨ H1 p = none) ∧ (∀ p, O1 p → unheld σ ρ1 p → O2 p ∧ H2 p = H1 p) ∧ (∀ j, hold ρ2 j → hold ρ1 j ∧ j ∉ vs) ∧ (∀ a, H1 a ≠ none → H2 a ≠ none) ∧ Iv H2 O2 ∧ O2 D ∧ (∀ (j : Nat) (s : Sl), ρ2[j]? = some s → s ≠ Sl.no → j ∉ vs)
    have out : ∀ {ρ2 : Rho} {p : Addr}, (∀ j, hold ρ2 j → hold ρ1 j ∧ j ∉ vs) → unheld σ ρ1 p → unheld (L2.wipe σ vs) ρ2 p := fun hs un j hj e => by
      obtain ⟨a, b⟩ := hs j hj
      rw [wipe_out b] at e
      exact un j a e
    refine ⟨fun i m H2 => m = ts.length - i ∧ i ≤ ts.length ∧ ∃ (ρ2 : Rho) (O2 : Oset) (n : Nat) (acc rest : List Key), In i H2 ρ2 O2 ∧ H2 D = some (QU.LSO w D (fun j => QU.inK j acc) n) ∧ n ≤ i ∧ compF s bt el vs (ts.drop i) ρ2 = some (rest.map kT, ρe) ∧ acc ++ rest = us, ⟨ts.length, by simp, Nat.zero_le _, wipeR ρ1 vs, O1.add D, 0, [], us, ⟨pD.rel.wipe vs, pD.le, pD.sub, pD.keep, fun j hj => ⟨(hold_wipe hj).2, (hold_wipe hj).1⟩, pD.lv, ok.up _ _ _ _ iv pD.le (fun p hp => pD.keep p (hK p hp).1 (hK p hp).2), .inl rfl, wr⟩, upd_same, Nat.le_refl _, h3, rfl⟩, ?_⟩
    rintro i m H2 ⟨rfl, hi2, ρ2, O2, n, acc, rest, ⟨r2, le2, sub2, keep2, hs2, lv2, iv2, oD, wd2⟩, hD2, la, hc, hr⟩
    have un2 : unheld (L2.wipe σ vs) ρ2 D := out hs2 unD
    by_cases hlt : i < ts.length
    · have hx : ts[i]? = some ts[i] := by simp [hlt]
      have hd : ts.drop i = ts[i] :: ts.drop (i + 1) := (List.drop_eq_getElem_cons hlt)
      obtain ⟨g1, g2⟩ := ok.go H2 O2 i _ iv2 r2.dom hx
      rw [hd] at hc
      simp only [compF, Option.bind_eq_some_iff] at hc
      obtain ⟨ρ3, hs3, ⟨b, ρ4⟩, ht4, hc⟩ := hc
      refine .inr ⟨g1, fun H5 => ∃ (ρ2 : Rho) (O2 : Oset) (n : Nat) (acc rest : List Key), In (i + 1) H5 ρ2 O2 ∧ H5 D = some (QU.LSO w D (fun j => QU.inK j acc) n) ∧ n ≤ i + 1 ∧ compF s bt el vs (ts.drop (i + 1)) ρ2 = some (rest.map kT, ρe) ∧ acc ++ rest = us, fun H5 hN => ⟨ts.length - (i + 1), by omega, rfl, hlt, hN⟩, fun x H' y => ?_⟩
      obtain ⟨sm, rx⟩ := g2 x H' y
      refine hg G _ H' ρ2 O2 x _ ρ3 (r2.same sm) rx hs3 _ fun σ3 r3 k3 n3 l3 => ?_
      have hw : L2.wipe σ3 vs = L2.wipe σ vs := by
        refine (wipe_eq (fun j hj => n3 j fun x => hj (hv j x)) l3).trans ?_
        exact wipe_eq (fun j hj => wipe_out hj) (wipe_length σ vs)
      have un3 : ∀ {p : Addr}, unheld (L2.wipe σ vs) ρ2 p → unheld σ3 ρ3 p := fun h j hj e => by
        obtain ⟨a, b⟩ := k3 j hj
        rw [b] at e
        exact h j a e
      have l0 : Same (hide H2 O2) (hide H' O2) := hide_same sm
      refine ⟨hw, ht G σ3 H' ρ3 O2 r3 b ρ4 ht4 _ fun H4 O4 p4 => ?_⟩
      have keepD4 := p4.keep D oD (un3 un2)
      have hD4 : H4 D = some (QU.LSO w D (fun j => QU.inK j acc) n) := keepD4.2.trans (sm _ _ hD2)
      -- one more turn: the state behind
      have next : ∀ (H5 : Hp) (ρ5 : Rho) (O5 : Oset), Post K A G σ3 H' ρ3 O2 H5 ρ5 O5 → ∀ (H6 : Hp), Rel K A G σ3 H6 ρ5 O5 → hide H6 O5 = hide H5 O5 → (∀ p, p ≠ D → H6 p = H5 p) → (∀ a, H5 a ≠ none → H6 a ≠ none) → In (i + 1) H6 (wipeR ρ5 vs) O5 := fun H5 ρ5 O5 p5 H6 r6 e6 n6 v6 => by
        refine ⟨hw ▸ r6.wipe vs, ?_, fun p hp => ?_, fun p hp un => ?_, fun j hj => ?_, fun a h => v6 a (p5.lv a (lv_same sm a (lv2 a h))), ?_, (p5.keep D oD (un3 un2)).1, wr⟩
        · rw [e6]; exact le2.trans (l0.trans p5.le)
        · rcases p5.sub p hp with h | h
          · exact sub2 p h
          · exact .inr (nn_back (fun a h => lv_same sm a (lv2 a h)) h)
        · obtain ⟨a1, a2⟩ := keep2 p hp un
          have u2 : unheld (L2.wipe σ vs) ρ2 p := out hs2 un
          obtain ⟨b1, b2⟩ := p5.keep p a1 (un3 u2)
          have ne : p ≠ D := fun x => nO (x ▸ hp)
          refine ⟨b1, (n6 p ne).trans (b2.trans ?_)⟩
          rw [← a2]
          exact r2.kept sm p a1
        · obtain ⟨a1, a2⟩ := hold_wipe hj
          exact ⟨(hs2 j (k3 j (p5.hs j a2)).1).1, a1⟩
        · have : Same (hide H2 O2) (hide H6 O5) := by rw [e6]; exact l0.trans p5.le
          refine ok.up _ _ _ _ iv2 this fun p hp => ?_
          obtain ⟨a0, a0'⟩ := hK p hp
          obtain ⟨a1, a2⟩ := keep2 p a0 a0'
          obtain ⟨b1, b2⟩ := p5.keep p a1 (un3 (out hs2 a0'))
          have ne : p ≠ D := fun x => nO (x ▸ a0)
          exact ⟨b1, (n6 p ne).trans (b2.trans (r2.kept sm p a1))⟩
      cases b with
      | true =>
        rw [if_pos rfl] at hc ⊢
        simp only [Option.bind_eq_some_iff] at hc
        obtain ⟨⟨u, ρ5⟩, ho5, ⟨us5, ρ6⟩, hc6, hc7⟩ := hc
        simp only [Option.some.injEq, Prod.mk.injEq] at hc7
        obtain ⟨hc7, rfl⟩ := hc7
        obtain ⟨c, rest', rfl⟩ : ∃ c rest', rest = c :: rest' := by
          cases rest with
          | nil => cases hc7
          | cons c rest' => exact ⟨c, rest', rfl⟩
        rw [List.map_cons] at hc7
        injection hc7 with hcu hcs
        subst hcu hcs
        refine opened_ok he p4.rel ho5 _ fun y H5 O5 p5 ry => ?_
        have p45 := p4.trans p5
        have keepD5 := p45.keep D oD (un3 un2)
        have hD5 : H5 D = some (QU.LSO w D (fun j => QU.inK j acc) n) := keepD5.2.trans (sm _ _ hD2)
        have un5 : unheld σ3 ρ5 D := (un3 un2).up p45.hs
        refine ⟨c, _, _, rp_kT ry, hD5, by omega, wipeR ρ5 vs, O5, (if QU.inK c acc = true then n else n + 1), acc ++ [c], rest', ?_, ?_, ?_, hc6, by rw [List.append_assoc]; exact hr⟩
        · exact next H5 ρ5 O5 p45 _ (p45.rel.tmut keepD5.1 un5 n0) (hide_upd keepD5.1) (fun p h => upd_ne h) (lv_upd lv_refl)
        · rw [upd_same]
          simp only [QU.inK_app]
        · split <;> omega
      | false =>
        dsimp only at hc
        rw [if_neg Bool.false_ne_true] at hc ⊢
        exact ⟨wipeR ρ4 vs, O4, n, acc, rest, next H4 ρ4 O4 p4 H4 p4.rel rfl (fun _ _ => rfl) (fun _ h => h), hD4, by omega, hc, hr⟩
    · have ei : i = ts.length := by omega
      subst ei
      refine .inl ⟨ok.stop H2 O2 iv2, ?_⟩
      rw [List.drop_length] at hc
      simp only [compF, Option.some.injEq, Prod.mk.injEq] at hc
      obtain ⟨hc, rfl⟩ := hc
      have hc : rest = [] := by simpa using hc.symm
      subst hc
      rw [List.append_nil] at hr
      subst hr
      have pE : Post K A G σ H1 ρ1 O1 H2 ρ2 O2 := ⟨r2.other (wipe_length σ vs).symm fun j s e n => (wipe_out (wd2 j s e n)).symm, le2, sub2, keep2, fun j hj => (hs2 j hj).1, lv2⟩
      exact q D n H2 O2 pE hD oD (unD.up fun j hj => (hs2 j hj).1) hD2

def eSortSc (it : IF) (s : T → Rho → Option Rho) (tt : BF) (el : EF) (vs : List Nat) : EF := fun ρ => do
  let (ts, ρ1) ← it ρ
  if ts.length < sizeLine ∧ ts.length + 1 < scanBound then
    let (us, ρ2) ← compF s tt el vs ts (wipeR ρ1 vs)
    let xs ← strL us
    if (sortU xs).length < 64 then pure (.own (.lst ((sortU xs).map .str)), ρ2) else none
  else none
theorem ev_sortSc {w : World} {wi : TI} {g : TG} {tt : TT} {te : TE} {vs is : List Nat} {it : IF} {s : T → Rho → Option Rho} {bt : BF} {el : EF} (hi : IV K A wi it) (hg : GV K A is g s) (ht : TV K A tt bt) (he : EV K A te el) (hv : ∀ j ∈ is, j ∈ vs) :
    EV K A (tCB (QU.rSortK w) (tCons (QU.tSk w wi g tt te vs) tNil)) (eSortSc it s bt el vs) := fun G σ H ρ O r o ρf e Q q => by
  simp only [eSortSc, Option.bind_eq_bind, Option.bind_eq_some_iff] at e
  obtain ⟨⟨ts, ρ1⟩, h1, h2⟩ := e
  dsimp only at h2
  split at h2
  · rename_i hsz
    simp only [Option.bind_eq_some_iff] at h2
    obtain ⟨⟨us, ρe⟩, h3, xs, h4, h5⟩ := h2
    dsimp only at h4 h5
    split at h5
    · rename_i few
      simp only [Option.pure_def, Option.some.injEq, Prod.mk.injEq] at h5
      obtain ⟨rfl, rfl⟩ := h5
      have eu := strL_eq h4
      subst eu
      have h3' : compF s bt el vs ts (wipeR ρ1 vs) = some ((xs.map Sum.inr).map kT, ρe) := by rw [h3, List.map_map]; rfl
      refine hi G σ H ρ O r ts ρ1 h1 _ fun J H1 O1 Iv p1 ok iv => ?_
      exact sc_at (w := w) (Q := fun v H2 => QU.rSortK w [v] H2 Q) hg ht he hv p1.rel (Ka := fun _ => False) ⟨fun H O H' O' a b _ => ok.up H O H' O' a b, ok.go, ok.stop⟩ iv (fun p hp => hp.elim) hsz.1 h3' hsz.2 fun D n H' O' p2 _ _ _ hD => sort_led r (p1.trans p2) hD few Q q
    · cases h5
  · cases h2
end
end QT

set_option Elab.async false
set_option linter.all false
set_option maxRecDepth 100000
set_option maxHeartbeats 4000000
/-! Own layer: for a, b in x.f.items(); d[k] = v; making with lent arguments. -/
namespace QT
open PySem PySem.Spec PyProof.Rows L2 QB
section
variable {X : Cx}
def tLkOr (t : TS) : TS := fun D σ H => tLock t D σ H ∨ t D σ H
theorem ps_lkor {st : Stmt} {t : TS} (h : PS X st t) : PS X st (tLkOr t) := ⟨fun pins s σ H D I z => z.elim (fun z => (ps_lock h).run pins s σ H D I z) (fun z => h.run pins s σ H D I z)⟩
end
section
variable {K : PySem.W.Frag} {A : Nat → Addr} {G : Fx} {σ σ' : L2.St} {H H' H2 : Hp} {ρ ρ' ρ2 : Rho} {O O' O2 : Oset} {i : Nat} {p : Addr} {t t' : T} {v : V} {x : Opd}
theorem for_core {J : It} {g : TG} {tb : TS} {D : Ends} {s : T → Rho → Option Rho} {b : SF} {is : List Nat} {ts : List T} {Iv : Hp → Oset → Prop} (hg : GV K A is g s) (hb : SV K A tb b) (it : IterOK K A J ts Iv) (r1 : Rel K A G σ H ρ O) (iv : Iv H O) (e : EndsOK K A D G H O (loopF s b ts ρ)) : ForW J g tb D σ H := by
  refine ⟨fun i m σ H => m = ts.length - i ∧ i ≤ ts.length ∧ ∃ ρ O, Rel K A G σ H ρ O ∧ Iv H O ∧ EndsOK K A D G H O (loopF s b (ts.drop i) ρ), ⟨ts.length, by simp, Nat.zero_le _, ρ, O, r1, iv, e⟩, ?_⟩
  rintro i m σ2 H2 ⟨rfl, hi2, ρ2, O2, r2, iv2, e2⟩
  by_cases hlt : i < ts.length
  · have hx : ts[i]? = some ts[i] := by simp [hlt]
    have hd : ts.drop i = ts[i] :: ts.drop (i + 1) := (List.drop_eq_getElem_cons hlt)
    obtain ⟨g1, g2⟩ := it.go H2 O2 i _ iv2 r2.dom hx
    refine .inr ⟨g1, fun σ' H' => ∃ ρ O, Rel K A G σ' H' ρ O ∧ Iv H' O ∧ EndsOK K A D G H' O (loopF s b (ts.drop (i + 1)) ρ), fun σ' H' hN => ⟨ts.length - (i + 1), by omega, rfl, hlt, hN⟩, fun x H' y => ?_⟩
    obtain ⟨sm, rx⟩ := g2 x H' y
    rw [hd] at e2
    simp only [loopF] at e2
    split at e2
    · exact e2.elim
    · rename_i ρ3 hs
      refine hg G σ2 H' ρ2 O2 x _ ρ3 (r2.same sm) rx hs _ fun σ3 r3 k3 n3 l3 => ?_
      have l0 : Same (hide H2 O2) (hide H' O2) := hide_same sm
      have v0 := lv_same sm
      refine hb G σ3 H' ρ3 O2 _ r3 ?_
      cases hbo : b ρ3 with
      | fail => rw [hbo] at e2; exact e2.elim
      | nx ρ4 => rw [hbo] at e2; exact fun σ' H4 O4 st => ⟨ρ4, O4, st.rel, it.up _ _ _ _ iv2 (l0.trans st.le), e2.up (l0.trans st.le) fun a h => st.lv a (v0 a h)⟩
      | ct ρ4 => rw [hbo] at e2; exact fun σ' H4 O4 st => ⟨ρ4, O4, st.rel, it.up _ _ _ _ iv2 (l0.trans st.le), e2.up (l0.trans st.le) fun a h => st.lv a (v0 a h)⟩
      | bk ρ4 => rw [hbo] at e2; exact fun σ' H4 O4 st => e2 σ' H4 O4 (st.pre l0 v0)
      | rt x ρ4 => rw [hbo] at e2; exact fun w σ' H4 O4 st => e2 w σ' H4 O4 (st.pre l0 v0)
  · have ei : i = ts.length := by omega
    subst ei
    refine .inl ⟨it.stop H2 O2 iv2, ?_⟩
    rw [List.drop_length] at e2
    exact e2 σ2 H2 O2 (.refl r2)
/-! ### pairs of a dict -/
def pairT (p : Key × T) : T := .tup [kT p.1, p.2]
theorem rpk_kV (k : Key) : Rp K A H (kV k) (kT k) := by
  cases k
  · exact .int _
  · exact .str _
theorem RpK.at {k : Key} : ∀ {vs : List (Key × V)} {ts : List (Key × T)} {i : Nat} {v : V}, RpK K A H vs ts → vs[i]? = some (k, v) → ∃ t, ts[i]? = some (k, t) ∧ Rp K A H v t
  | _, _, _, _, .nil, h => by simp at h
  | _, _, 0, _, .cons a b, h => by simp at h; obtain ⟨rfl, rfl⟩ := h; exact ⟨_, rfl, a⟩
  | _, _, i + 1, _, .cons a b, h => by simp at h; simpa using RpK.at b h
theorem items_iter {d : Addr} {od : Obj} {vs : List (Key × V)} {kvs : List (Key × T)} : IterOK K A (Iti d od vs) (kvs.map pairT) (fun H O => H d = some (.frz od (.dK vs)) ∧ ¬ O d ∧ RpK K A (hide H O) vs kvs) := by
  refine ⟨fun H O H' O' h s => ?_, fun H O i t h dm hi => ?_, fun H O h => ⟨h.1, by rw [List.length_map, ← h.2.2.len]; exact Nat.le_refl _⟩⟩
  · obtain ⟨h1, h2, h3⟩ := h
    have := hide_some.mp (s d _ (hide_of h2 h1))
    exact ⟨this.2, this.1, h3.mono (Le.of s)⟩
  · obtain ⟨h1, h2, h3⟩ := h
    have lt : i < vs.length := by rw [h3.len]; have := (List.getElem?_eq_some_iff.mp hi).1; rwa [List.length_map] at this
    refine ⟨⟨h1, lt⟩, fun x H' y => ?_⟩
    obtain ⟨Ta, k, v, e1, rfl, e2, rfl⟩ := y
    obtain ⟨u, e3, r⟩ := h3.at e1
    rw [List.getElem?_map, e3] at hi
    cases hi
    refine ⟨same_new e2, ?_⟩
    have nO : ¬ O Ta := fun z => dm Ta z e2
    exact .tup (.inl (.inl (hide_of nO upd_same))) (.cons (rpk_kV k) (.cons (r.mono (Le.of (hide_newv e2))) .nil))
theorem Cr.mono {Hs : Hp} {O' : Oset} {y : Bool × T} (h : Cr K A Hs H O v y) (l : Le (hide H O) (hide H' O')) (k : ∀ p, O p → O' p ∧ H' p = H p) : Cr K A Hs H' O' v y := by
  obtain ⟨b, t⟩ := y
  cases b with
  | false => exact Rp.mono l h
  | true => obtain ⟨p, e, h1, h2, h3⟩ := h; exact ⟨p, e, h1, (k p h2).1, h3.mono (k p h2).2 l⟩
/-- behind an unlocking -/
theorem unlock_stp {d : Addr} {od : Obj} {u : HO} {σ' : L2.St} (dc : dic u) (hu : c1 u = u) (hd : H d = some u) (nO : ¬ O d) (st : Stp K A G (upd H d (.frz od u)) O σ' H' ρ' O') : H' d = some (.frz od u) ∧ Stp K A G H O σ' (upd H' d u) ρ' O' ∧ Le (hide H' O') (hide (upd H' d u) O') ∧ ¬ O' d := by
  have h1 := hide_some.mp (st.le d _ (hide_of nO upd_same))
  have le : Le (hide H' O') (hide (upd H' d u) O') := fun a o e => by
    obtain ⟨a1, a2⟩ := hide_some.mp e
    by_cases x : a = d
    · subst x
      rw [h1.2] at a2
      cases a2
      exact ⟨u, hide_of a1 upd_same, .inr ⟨hu.symm, dc⟩⟩
    · exact ⟨o, hide_of a1 (by rw [upd_ne x]; exact a2), .inl rfl⟩
  refine ⟨h1.2, ⟨st.rel.grow le (fun p hp => upd_ne fun x => h1.1 (x ▸ hp)) (lv_upd lv_refl), fun b o e => ?_, fun a h => ?_⟩, le, h1.1⟩
  · obtain ⟨b1, b2⟩ := hide_some.mp e
    by_cases x : b = d
    · subst x
      rw [hd] at b2
      cases b2
      exact hide_of h1.1 upd_same
    · have := hide_some.mp (st.le b o (hide_of b1 (by rw [upd_ne x]; exact b2)))
      exact hide_of this.1 (by rw [upd_ne x]; exact this.2)
  · refine lv_upd lv_refl a (st.lv a ?_)
    exact lv_upd lv_refl a h
theorem lock_rel {d : Addr} {od : Obj} {u : HO} (dc : dic u) (hu : c1 u = u) (hd : H d = some u) (nO : ¬ O d) (r : Rel K A G σ H ρ O) : Rel K A G σ (upd H d (.frz od u)) ρ O ∧ Le (hide H O) (hide (upd H d (.frz od u)) O) := by
  have le : Le (hide H O) (hide (upd H d (.frz od u)) O) := fun a o e => by
    obtain ⟨a1, a2⟩ := hide_some.mp e
    by_cases x : a = d
    · subst x
      rw [hd] at a2
      cases a2
      exact ⟨_, hide_of a1 upd_same, .inr ⟨hu, by rw [hu]; exact dc⟩⟩
    · exact ⟨o, hide_of a1 (by rw [upd_ne x]; exact a2), .inl rfl⟩
  exact ⟨r.grow le (fun p hp => upd_ne fun x => nO (x ▸ hp)) (lv_upd lv_refl), le⟩
def endsLk (d : Addr) (od : Obj) (u : HO) (D : Ends) : Ends := ⟨fun σ' H' => H' d = some (.frz od u) ∧ D.nx σ' (upd H' d u), fun v H' => H' d = some (.frz od u) ∧ D.rt v (upd H' d u), fun σ' H' => H' d = some (.frz od u) ∧ D.bk σ' (upd H' d u), fun σ' H' => H' d = some (.frz od u) ∧ D.ct σ' (upd H' d u)⟩
theorem ends_lk {d : Addr} {od : Obj} {u : HO} {D : Ends} {y : Out} (dc : dic u) (hu : c1 u = u) (hd : H d = some u) (nO : ¬ O d) (e : EndsOK K A D G H O y) : EndsOK K A (endsLk d od u D) G (upd H d (.frz od u)) O y := by
  cases y with
  | fail => exact e
  | nx ρ1 => exact fun σ' H' O' st => let ⟨a, b, _⟩ := unlock_stp dc hu hd nO st; ⟨a, e σ' _ O' b⟩
  | bk ρ1 => exact fun σ' H' O' st => let ⟨a, b, _⟩ := unlock_stp dc hu hd nO st; ⟨a, e σ' _ O' b⟩
  | ct ρ1 => exact fun σ' H' O' st => let ⟨a, b, _⟩ := unlock_stp dc hu hd nO st; ⟨a, e σ' _ O' b⟩
  | rt x ρ1 =>
    intro v σ' H' O' st rr
    obtain ⟨a, b, l, n⟩ := unlock_stp dc hu hd nO st
    have k : ∀ p, O' p → O' p ∧ upd H' d u p = H' p := fun p hp => ⟨hp, upd_ne fun x => n (x ▸ hp)⟩
    refine ⟨a, e v σ' _ O' b ?_⟩
    cases x with
    | val t => exact Rp.mono l rr
    | slot i => exact rr.elim
    | own t => obtain ⟨p, e1, h1, h2, h3⟩ := rr; exact ⟨p, e1, h1, h2, h3.mono (k p h2).2 l⟩
    | ot xs =>
      obtain ⟨p, vs, e1, h1, h2, h3, h4⟩ := rr
      refine ⟨p, vs, e1, h1, ?_, paired_map (fun _ _ z => Cr.mono z l k) h3, h4⟩
      obtain ⟨c1', c2⟩ := hide_some.mp h2
      have : p ≠ d := fun x => by subst x; rw [a] at c2; cases c2
      exact hide_of c1' (by rw [upd_ne this]; exact c2)
/-- for .. in x.f.items(), x a slot -/
def sForItF (i : Nat) (f : Str) (s : T → Rho → Option Rho) (b : SF) : SF := fun ρ => match (Opd.slot i).tree ρ with
  | some (.obj _ fs) => (match fs.lookup f with
    | some (.dct kvs) => loopF s b (kvs.map pairT) ρ
    | _ => .fail)
  | _ => .fail
theorem sv_forItF {g : TG} {tb : TS} {f : Str} {s : T → Rho → Option Rho} {b : SF} {is : List Nat} (hc : ∀ c, Cls K (A c) ∧ NoAttr K (A c) f) (hg : GV K A is g s) (hb : SV K A tb b) : SV K A (tLkOr (tFor (iItems (tFld K (tVar i) f)) g tb)) (sForItF i f s b) := fun G σ H ρ O D r e => by
  unfold sForItF at e
  split at e
  · rename_i c fs ht
    split at e
    · rename_i kvs hf
      obtain ⟨v, hv⟩ : ∃ v, σ[i]? = some (some v) := by
        unfold Opd.tree at ht
        dsimp only at ht
        split at ht
        · rename_i u hs; obtain ⟨w, h1, _⟩ := r.val i _ hs; exact ⟨w, h1⟩
        · rename_i u hs; obtain ⟨w, h1, _⟩ := r.own i _ hs; exact ⟨_, h1⟩
        · rename_i u hs; obtain ⟨w, h1, _⟩ := r.io i _ hs; exact ⟨_, h1⟩
        · cases ht
      have tp : Top K A H O v (.obj c fs) := Rv.top (x := .slot i) r hv ht
      obtain ⟨a, dx, ws, rfl, ha, hw⟩ := tp.obj
      obtain ⟨w, hw1, hw2⟩ := hw.look hf
      cases hw2 with
      | dct hd rk =>
        rename_i d vs
        have fld : ∀ {H1 : Hp} {Q : VK}, H1 a = some (.ins (A c) dx ws) → Q (.ref d) H1 → tFld K (tVar i) f σ H1 Q := fun h1 q => ⟨_, hv, a, _, dx, ws, _, rfl, h1, (hc c).1, (hc c).2, hw1, q⟩
        rcases hd with hd | ⟨od, hd⟩
        · obtain ⟨nO, hd'⟩ := hide_some.mp hd
          have ne : a ≠ d := fun x => by subst x; rw [hd'] at ha; cases ha
          refine .inl ⟨d, _, hd', trivial, fun od => ?_⟩
          obtain ⟨rL, lL⟩ := lock_rel (od := od) (u := .dK vs) trivial rfl hd' nO r
          unfold tFor iItems
          refine fld (by rw [upd_ne ne]; exact ha) ?_
          refine ⟨d, od, vs, rfl, upd_same, ?_⟩
          exact for_core hg hb items_iter rL ⟨upd_same, nO, rk.mono lL⟩ (ends_lk (od := od) trivial rfl hd' nO e)
        · obtain ⟨nO, hd'⟩ := hide_some.mp hd
          refine .inr ?_
          unfold tFor iItems
          refine fld ha ?_
          refine ⟨d, od, vs, rfl, hd', ?_⟩
          exact for_core hg hb items_iter r ⟨hd', nO, rk⟩ e
    · exact e.elim
  · exact e.elim
end
end QT

set_option Elab.async false
set_option linter.all false
set_option maxRecDepth 100000
set_option maxHeartbeats 4000000
/-! Own layer: C(e, ..) to which slots are lent. -/
namespace QT
open PySem PySem.Spec PyProof.Rows L2 QB
section
variable {K : PySem.W.Frag} {A : Nat → Addr} {G : Fx} {σ σ' : L2.St} {H H' H1 : Hp} {ρ ρ' ρ2 ρ3 : Rho} {O O' O2 Ox : Oset} {i : Nat} {p : Addr} {t t' : T} {v : V} {x : Opd}
theorem lent_rel {gs : List Ag} {Ex : Oset} (r2 : Rel K A G σ H1 ρ2 O2) (bl : ρ3.length = ρ2.length) (bo : ∀ j : Nat, j ∉ lentA gs → ρ3[j]? = ρ2[j]?)
    (lk : ∀ i ∈ lentA gs, ∃ s t p t', ρ2[i]? = some s ∧ (s = .own t ∨ s = .io t) ∧ ρ3[i]? = some (s.with t') ∧ σ[i]? = some (some (V.ref p)) ∧ hold ρ2 i ∧ O2 p ∧ Own1 K A H' (hide H' Ox) p t')
    (kp : ∀ q, O2 q → ¬ Ex q → (∀ i ∈ lentA gs, σ[i]? ≠ some (some (V.ref q))) → H' q = H1 q) (ex : ∀ q, Ex q → unheld σ ρ2 q ∧ ¬ G.O0 q) (up : ∀ p, O2 p → Ox p) (sub : ∀ p, Ox p → O2 p ∨ H1 p = none) (dom : ∀ p, Ox p → H' p ≠ none)
    (le : Same (hide H1 O2) (hide H' Ox)) (lv : ∀ a, H1 a ≠ none → H' a ≠ none) : Rel K A G σ H' ρ3 Ox ∧ ∀ j, hold ρ3 j → hold ρ2 j := by
  have hs3 : ∀ j, hold ρ3 j → hold ρ2 j := fun j hj => by
    by_cases hm : j ∈ lentA gs
    · obtain ⟨_, _, _, _, _, _, _, _, h, _⟩ := lk j hm; exact h
    · obtain ⟨t, hj⟩ := hj
      rw [bo j hm] at hj
      exact ⟨t, hj⟩
  have nq : ∀ (j : Nat) (q : Addr), j ∉ lentA gs → hold ρ2 j → σ[j]? = some (some (V.ref q)) → ¬ Ex q ∧ ∀ i ∈ lentA gs, σ[i]? ≠ some (some (V.ref q)) := fun j q hm hj hσ => ⟨fun z => (ex q z).1 j hj hσ, fun i hi hx => by
    obtain ⟨_, _, _, _, _, _, _, _, h, _⟩ := lk i hi
    exact hm (r2.inj j i q hj h hσ hx ▸ hi)⟩
  refine ⟨⟨by rw [bl]; exact r2.len, fun j u e => ?_, fun j u e => ?_, fun j u e => ?_, fun j k q a b => r2.inj j k q (hs3 j a) (hs3 k b), dom, fun p e => up p (r2.sub p e), r2.isub, fun q e n => ?_, fun q e n => ?_, fun a e => lv a (r2.live a e)⟩, hs3⟩
  · by_cases hm : j ∈ lentA gs
    · obtain ⟨s, t, p, t', _, hh, b3, _⟩ := lk j hm
      rw [b3] at e
      rcases hh with rfl | rfl <;> cases e
    · rw [bo j hm] at e
      obtain ⟨w', c1, c2⟩ := r2.val j u e
      exact ⟨w', c1, c2.mono (Le.of le)⟩
  · by_cases hm : j ∈ lentA gs
    · obtain ⟨s, t, p, t', a1, hh, b3, a2, a3, a4, a5⟩ := lk j hm
      rw [b3] at e
      rcases hh with rfl | rfl <;> cases e
      obtain ⟨p', c1, c2, c3, _⟩ := r2.own j t a1
      rw [a2] at c1; cases c1
      exact ⟨p, a2, up p a4, c3, a5⟩
    · rw [bo j hm] at e
      obtain ⟨p', c1, c2, c3, c4⟩ := r2.own j u e
      obtain ⟨n1, n2⟩ := nq j p' hm ⟨u, .inl e⟩ c1
      exact ⟨p', c1, up p' c2, c3, c4.mono (kp p' c2 n1 n2) (Le.of le)⟩
  · by_cases hm : j ∈ lentA gs
    · obtain ⟨s, t, p, t', a1, hh, b3, a2, a3, a4, a5⟩ := lk j hm
      rw [b3] at e
      rcases hh with rfl | rfl <;> cases e
      obtain ⟨p', c1, c2, c3, _⟩ := r2.io j t a1
      rw [a2] at c1; cases c1
      exact ⟨p, a2, c2, c3, a5⟩
    · rw [bo j hm] at e
      obtain ⟨p', c1, c2, c3, c4⟩ := r2.io j u e
      obtain ⟨n1, n2⟩ := nq j p' hm ⟨u, .inr e⟩ c1
      exact ⟨p', c1, c2, c3, c4.mono (kp p' (r2.sub p' (r2.isub p' c2)) n1 n2) (Le.of le)⟩
  · refine (kp q (r2.sub q e) (fun z => (ex q z).2 e) fun i hi hx => ?_).trans (r2.fr q e n)
    obtain ⟨s, t, p, t', a1, hh, b3, a2, a3, a4, a5⟩ := lk i hi
    rw [hx] at a2; cases a2
    rcases hh with rfl | rfl
    · obtain ⟨p', c1, c2, c3, _⟩ := r2.own i t a1
      rw [hx] at c1; cases c1
      exact c3 e
    · obtain ⟨p', c1, c2, _⟩ := r2.io i t a1
      rw [hx] at c1; cases c1
      exact n c2
  · rcases sub q e with h | h
    · exact r2.new q h n
    · exact (r2.fresh h).2.2
theorem mkA_fz : ∀ (fl : List Bool) (os : List Opd) (ρ : Rho), mkA fl (os.map Opd.fz) ρ = mkA fl os ρ
  | [], [], ρ => rfl
  | [], _ :: _, ρ => rfl
  | _ :: _, [], ρ => rfl
  | b :: fl, x :: xs, ρ => by cases x <;> cases b <;> simp only [List.map_cons, Opd.fz, mkA, share, mkA_fz fl xs]
def eMakeL (c : Nat) (F : FF) (fl : List Bool) (a : AF) : EF := fun ρ => do
  let (os, ρ1) ← a ρ
  let (gs, ρ2) ← mkA fl os ρ1
  let as ← fillA ρ2 gs
  if (lentA gs).Nodup then
    let (o, as') ← F (Sl.io (.obj c []) :: as)
    match o, as' with
    | .val .non, Sl.io t' :: r => (backA gs r ρ2).bind fun ρ3 => some (.own t', ρ3)
    | _, _ => none
  else none
theorem ev_makeL {c : Nat} {F : FF} {fl : List Bool} {tl : TA} {a : AF} {E : XK} (ha : AV K A tl a) : EV K A (tMake (A c) (spF K A F) [] E tl) (eMakeL c F fl a) := fun G σ H ρ O r o ρ' e Q q => by
  simp only [eMakeL, Option.bind_eq_bind, Option.bind_eq_some_iff] at e
  obtain ⟨⟨os, ρ1⟩, h1, ⟨gs, ρ2⟩, h2, as, h3, h4⟩ := e
  split at h4
  · rename_i nd
    simp only [Option.bind_eq_some_iff] at h4
    obtain ⟨⟨o', as'⟩, h5, h6⟩ := h4
    dsimp only at h3 h5 h6 nd
    split at h6
    · rename_i t' rr
      simp only [Option.bind_eq_some_iff] at h6
      obtain ⟨ρ3, h6, h7⟩ := h6
      simp only [Option.some.injEq, Prod.mk.injEq] at h7
      obtain ⟨rfl, rfl⟩ := h7
      refine ha G σ H ρ O r os ρ1 h1 _ fun vs H1 O0 p0 s0 _ => ?_
      obtain ⟨O1, p1, s1⟩ := release r p0 s0
      obtain ⟨O2, p2, x2⟩ := mkA_ok p1.rel s1 (by rw [mkA_fz]; exact h2)
      have p12 := p1.trans p2
      have r2 := p12.rel
      intro x dx hx hdx hne
      rw [List.append_nil]
      have sm : Same H1 (upd (upd H1 dx (.own x)) x (.ins (A c) dx [])) := fun b u eb => by
        rw [upd_ne (ne_of_none eb hx), upd_ne (ne_of_none eb hdx)]; exact eb
      have rn : Rel K A G σ (upd (upd H1 dx (.own x)) x (.ins (A c) dx [])) ρ2 (O2.add x) := r2.sameAdd sm hx (by rw [upd_same]; simp)
      have leN := hide_sameAdd (O := O2) sm hx
      generalize eN : upd (upd H1 dx (.own x)) x (.ins (A c) dx []) = Hn at sm rn leN
      have atx : Hn x = some (.ins (A c) dx []) := by rw [← eN, upd_same]
      have x2n : Paired (Ra K A σ Hn (O2.add x)) vs gs := paired_map (fun v g z => by
        cases g with
        | inl t => exact Rp.mono (Le.of leN) z
        | inr i => exact z) x2
      obtain ⟨hl, hv, hio, hown, hlent⟩ := fill_get x2n h3
      have un : unheld σ ρ2 x := r2.unh hx
      have at_ : ∀ (k i : Nat), gs[k]? = some (Sum.inr i) → ∃ p s t, vs[k]? = some (V.ref p) ∧ σ[i]? = some (some (V.ref p)) ∧ ρ2[i]? = some s ∧ s.held = some t ∧ hold ρ2 i ∧ (O2.add x) p ∧ Own1 K A Hn (hide Hn (O2.add x)) p t ∧ as[k]? = some (Sl.io t) ∧ p ≠ x := fun k i hk => by
        obtain ⟨t, ht⟩ := hlent k i hk
        obtain ⟨w, i', hw, hg, hσ, hb⟩ := hio k t ht
        rw [hk] at hg; cases hg
        simp only [Option.bind_eq_some_iff] at hb
        obtain ⟨s, hs1, hs2⟩ := hb
        obtain ⟨hol, p, hp, hO, hw2⟩ := held_at rn hs1 hs2
        rw [hσ] at hp; cases hp
        exact ⟨p, s, t, hw, hσ, hs1, hs2, hol, hO, hw2, ht, fun z => un i hol (z ▸ hσ)⟩
      have args : Args K A (.ref x :: vs) Hn (Sl.io (.obj c []) :: as) (O2.add x) := by
        refine ⟨by simp [hl], fun k t hk => ?_, fun k t hk => ?_, fun k t hk => ?_, fun k l t u p hk1 hk2 hp1 hp2 => ?_, rn.dom⟩
        · cases k with
          | zero => cases hk
          | succ k => exact hv k t hk
        · cases k with
          | zero => cases hk; exact ⟨x, rfl, .inl rfl, dx, [], atx, .nil⟩
          | succ k =>
            obtain ⟨w, i, hw, hg, hσ, hb⟩ := hio k t hk
            obtain ⟨p, s, t', h8, h9, h10, h11, h12, h13, h14, h15, _⟩ := at_ k i hg
            have hk' : as[k]? = some (Sl.io t) := hk
            rw [hk'] at h15; cases h15
            exact ⟨p, h8, h13, h14⟩
        · cases k with
          | zero => cases hk
          | succ k => exact hown k t hk
        · have io1 : ∀ (k : Nat) (t : T), (Sl.io (.obj c []) :: as)[k + 1]? = some (Sl.io t) → ∀ p, (V.ref x :: vs)[k + 1]? = some (V.ref p) → ∃ i, gs[k]? = some (Sum.inr i) ∧ σ[i]? = some (some (V.ref p)) ∧ hold ρ2 i ∧ p ≠ x := fun k t hk p hp => by
            obtain ⟨w, i, hw, hg, hσ, hb⟩ := hio k t hk
            obtain ⟨p', s, t', h8, h9, h10, h11, h12, h13, h14, h15, h16⟩ := at_ k i hg
            have hp' : vs[k]? = some (V.ref p) := hp
            rw [hp'] at h8; cases h8
            exact ⟨i, hg, h9, h12, h16⟩
          cases k with
          | zero =>
            cases hp1
            cases l with
            | zero => rfl
            | succ l => obtain ⟨_, _, _, _, ne⟩ := io1 l u hk2 _ hp2; exact absurd rfl ne
          | succ k =>
            obtain ⟨i, g1, s1', l1, ne1⟩ := io1 k t hk1 p hp1
            cases l with
            | zero => cases hp2; exact absurd rfl ne1
            | succ l =>
              obtain ⟨i', g2, s2', l2, _⟩ := io1 l u hk2 p hp2
              have : i = i' := r2.inj i i' p l1 l2 s1' s2'
              subst this
              rw [lent_nd nd g1 g2]
      refine ⟨_, O2.add x, _, _, args, h5, fun w H' Ox bk => ?_⟩
      have hw : w = .non := by cases bk.res; rfl
      refine ⟨hw, ?_⟩
      obtain ⟨q', hq, hwn⟩ := bk.io 0 t' rfl
      cases hq
      obtain ⟨bl, bo, bi⟩ := back_get nd h6
      have ioL : ∀ q, ioA (.ref x :: vs) (Sl.io (.obj c []) :: as) q → q = x ∨ ∃ i ∈ lentA gs, σ[i]? = some (some (V.ref q)) := fun q ⟨k, t, hk, hq⟩ => by
        cases k with
        | zero => cases hq; exact .inl rfl
        | succ k =>
          obtain ⟨w, i, hw, hg, hσ, hb⟩ := hio k t hk
          have hq' : vs[k]? = some (V.ref q) := hq
          rw [hq'] at hw; cases hw
          exact .inr ⟨i, lent_in.mpr ⟨k, hg⟩, hσ⟩
      have kp : ∀ q, (O2.add x) q → ¬ q = x → (∀ i ∈ lentA gs, σ[i]? ≠ some (some (V.ref q))) → H' q = Hn q := fun q hq nx n => bk.kp q hq fun z => by
        rcases ioL q z with h | ⟨i, hi, hσ⟩
        · exact nx h
        · exact n i hi hσ
      have lk : ∀ i ∈ lentA gs, ∃ s t p t', ρ2[i]? = some s ∧ (s = .own t ∨ s = .io t) ∧ ρ3[i]? = some (s.with t') ∧ σ[i]? = some (some (V.ref p)) ∧ hold ρ2 i ∧ (O2.add x) p ∧ Own1 K A H' (hide H' Ox) p t' := fun i hi => by
        obtain ⟨k, hk⟩ := lent_in.mp hi
        obtain ⟨p, s, t, h8, h9, h10, h11, h12, h13, h14, h15, _⟩ := at_ k i hk
        obtain ⟨t', s', b1, b2, b3⟩ := bi k i hk
        rw [h10] at b2; cases b2
        obtain ⟨p', c1, c2⟩ := bk.io (k + 1) t' b1
        have c1' : vs[k]? = some (V.ref p') := c1
        rw [h8] at c1'; cases c1'
        exact ⟨s, t, p, t', h10, held_or h11, b3, h9, h12, h13, c2⟩
      obtain ⟨rE, hs3⟩ := lent_rel (Ex := fun q => q = x) rn bl bo lk kp (fun q e => by subst e; exact ⟨un, (r2.fresh hx).2.1⟩) bk.up bk.sub bk.dom bk.le bk.lv
      have lv : ∀ a, H1 a ≠ none → H' a ≠ none := fun a h => bk.lv a (lv_same sm a h)
      have sub : ∀ p, Ox p → O2 p ∨ H1 p = none := fun p hp => by
        rcases bk.sub p hp with (rfl | h) | h
        · exact .inr hx
        · exact .inl h
        · exact .inr (nn_back (lv_same sm) h)
      have p3 : Post K A G σ H1 ρ2 O2 H' ρ3 Ox := ⟨rE, leN.trans bk.le, sub, fun q hq uq => ⟨bk.up q (.inr hq), by
        have nx : q ≠ x := fun z => by subst z; exact r2.dom q hq hx
        rw [kp q (.inr hq) nx fun i hi hσ => ?_]
        · exact r2.kept sm q hq
        · obtain ⟨_, _, _, _, _, _, _, _, h, _⟩ := lk i hi
          exact uq i h hσ⟩, hs3, lv⟩
      exact q _ H' Ox (p12.trans p3) ⟨x, rfl, nn_back p12.lv hx, bk.up x (.inl rfl), un.up hs3, hwn⟩
    · cases h6
  · cases h4
end
end QT

set_option Elab.async false
set_option linter.all false
set_option maxRecDepth 100000
set_option maxHeartbeats 4000000
/-! Own layer: a, b, c = x, y, z. -/
namespace QT
open PySem PySem.Spec PyProof.Rows L2 QB
section
variable {K : PySem.W.Frag} {A : Nat → Addr} {i : Nat}
theorem sv_par3 {j l : Nat} {ta : TA} {a : AF} (ha : AV K A ta a) : SV K A (tPar3 i j l ta) (sPar [i, j, l] a) := fun G σ H ρ O D r e => by
  unfold sPar at e
  split at e
  · rename_i os ρ1 h1
    split at e
    · rename_i xs ρ2 h2
      split at e
      · rename_i ρ3 h3
        refine ha G σ H ρ O r os ρ1 h1 _ fun vs H1 O1 p1 s1 nd => ?_
        obtain ⟨O2, p2, s2, n2⟩ := ocm_ok p1.rel s1 h2
        have r3 := putAll_ok (fun p hp => (r.fresh hp).2.1) p2.rel s2 (by rw [n2]; exact nd) h3
        have hl := putAll_len h3
        rw [← paired_len s2] at hl
        match vs, hl with
        | [u, v, w], _ => exact ⟨u, v, w, rfl, e _ H1 O2 ⟨r3, (p1.trans p2).le, (p1.trans p2).lv⟩⟩
      · exact e.elim
    · exact e.elim
  · exact e.elim
end
end QT

set_option Elab.async false
set_option linter.all false
set_option maxRecDepth 100000
set_option maxHeartbeats 4000000
/-! Own layer: enumerate of a tuple. -/
namespace QT
open PySem PySem.Spec PyProof.Rows L2 QB
section
variable {prog : Program} {w : World} {A : Around} {E : Value → Shared → Prop} {s : Shared}
theorem draw_tup {k a : Addr} {i : Nat} {xs : Array Value} {x : Value} {Q : Value → Shared → Prop} (h : s.heap.IsTupleIter k a i) (ha : s.heap.IsTuple a xs) (hx : xs[i]? = some x)
    (fin : ∀ h', h'.IsTupleIter k a (i + 1) → Heap.SameBut k s.heap h' → Q x { s with heap := h' }) : wpAny (model prog w) A (Builtin.SmallTypes.nextOf (.ref k)) Q E s := by
  obtain ⟨o, at1, cl, da⟩ := id h
  obtain ⟨o2, at2, _, n2, da2⟩ := ha
  unfold Builtin.SmallTypes.nextOf
  refine wpAny_bind (wpAny_callSpecial?_slot (name := Str.ofString "__next__") h.typeIs F.slot_tuple_iterator_next (wpAny_call_entry F.slot_tuple_iterator_next h.typeIs F.entry_tuple_iterator_next ?_ (F.args_tuple_iterator_next_1 _)))
  show wpAny _ _ (field (.ref k) 0 >>= _) _ _ s
  refine wpAny_bind (wpAny_field at1 da (x := .ref a) rfl ?_)
  show wpAny _ _ (if (Value.ref a == Value.none) = true then _ else _) _ _ s
  rw [if_neg (show ¬ ((Value.ref a == Value.none) = true) from Bool.false_ne_true)]
  show wpAny _ _ (field (.ref k) 1 >>= _) _ _ s
  refine wpAny_bind (wpAny_field at1 da (x := .int i 0) rfl ?_)
  show wpAny _ _ (seqItems? (.ref a) >>= _) _ _ s
  refine wpAny_bind (wpAny_seqItems at2 da2 ?_)
  simp only [Int.toNat_natCast, hx]
  refine wpAny_bind (wpAny_setField at1 da (by simp) (wpAny_pure ⟨x, rfl, wpAny_pure (fin _ ?_ (Heap.SameBut.update ..))⟩))
  exact ⟨_, Heap.get?_update_self _ at1 (Obj.isFreed_of_fields (Obj.data_mapFields da _)), (Obj.cls_mapFields ..).trans cl, by rw [Obj.data_mapFields da]; simp [rawInt]⟩
theorem draw_end {k a : Addr} {i : Nat} {xs : Array Value} {Q : Value → Shared → Prop} (calm : A.handled = none) (h : s.heap.IsTupleIter k a i) (ha : s.heap.IsTuple a xs) (hx : xs[i]? = none)
    (fin : ∀ h' e, Heap.ExtBut k s.heap h' → (∃ o, h'.get? e = some o ∧ o.cls = .type "StopIteration") → E (.ref e) { s with heap := h' }) : wpAny (model prog w) A (Builtin.SmallTypes.nextOf (.ref k)) Q E s := by
  obtain ⟨o, at1, cl, da⟩ := id h
  obtain ⟨o2, at2, _, n2, da2⟩ := ha
  unfold Builtin.SmallTypes.nextOf
  refine wpAny_bind (wpAny_callSpecial?_slot (name := Str.ofString "__next__") h.typeIs F.slot_tuple_iterator_next (wpAny_call_entry F.slot_tuple_iterator_next h.typeIs F.entry_tuple_iterator_next ?_ (F.args_tuple_iterator_next_1 _)))
  show wpAny _ _ (field (.ref k) 0 >>= _) _ _ s
  refine wpAny_bind (wpAny_field at1 da (x := .ref a) rfl ?_)
  show wpAny _ _ (if (Value.ref a == Value.none) = true then _ else _) _ _ s
  rw [if_neg (show ¬ ((Value.ref a == Value.none) = true) from Bool.false_ne_true)]
  show wpAny _ _ (field (.ref k) 1 >>= _) _ _ s
  refine wpAny_bind (wpAny_field at1 da (x := .int i 0) rfl ?_)
  show wpAny _ _ (seqItems? (.ref a) >>= _) _ _ s
  refine wpAny_bind (wpAny_seqItems at2 da2 ?_)
  simp only [Int.toNat_natCast, hx]
  refine wpAny_bind (wpAny_rule (wpAny_bind (wpAny_setField at1 da (by simp) ?_)))
  show wpAny _ _ (newExc (.type "StopIteration") [] >>= _) _ _ _
  refine wpAny_bind ?_
  simp only [newExc, newTuple]
  refine wpAny_bind (wpAny_newObj_type ?_ (by size_fits))
  refine wpAny_bind (m := firstArgMember _ _) (wpAny_of_eq (a := Value.none) (by first | rfl | (simp only [firstArgMember]; rfl)) ?_)
  refine wpAny_newObj_type ?_ (by size_fits)
  simp only [raiseNew]
  refine wpAny_bind (wpAny_handled ?_)
  first | rw [show A.in1.handled = none from calm] | rw [calm]
  refine wpAny_bind (wpAny_pure (wpAny_throw ?_))
  exact fin _ _ (((Heap.SameBut.update ..).extBut.push _).push _) ⟨_, Heap.get?_push_size _ rfl, rfl⟩
theorem draws_tup (calm : A.handled = none) (k a : Addr) (ne : a ≠ k) (xs : Array Value) : Draws prog w A k [k, a] xs.size (fun i v => xs[i]? = some v) (fun i h => h.IsTupleIter k a i ∧ h.IsTuple a xs) where
  live := fun _ _ st => let ⟨o, ho, _⟩ := st.1; ⟨o, ho⟩
  frame := fun _ _ _ st hk => ⟨st.1.at fun o e => hk k (by simp) o e, st.2.at fun o e => hk a (by simp) o e⟩
  item := fun i s Q E hi st fin => draw_tup st.1 st.2 (x := xs[i]) (by simp [hi]) fun h' it' sb => fin _ h' s.toks (by simp [hi]) ⟨it', st.2.extBut sb.extBut ne⟩ sb
  done := fun s Q E st fin => draw_end calm st.1 st.2 (by simp) fin
open AutoSeq1 (wpAny_loadPart') in
theorem enum_newT (l : Addr) (items : Array Value) (n : Nat) (dct : Option Addr) (sl : Array (Option Value)) :
    Meets (Builtin.«enumerate.__new__» ⟨[.type "enumerate", .ref l], []⟩) (fun _ R s => s.heap.get? l = some { cls := .type "tuple", dict := dct, data := .seq items n, slots := sl } ∧
      R (.ok (.ret (.ref (s.heap.push { cls := .type "tuple_iterator", data := .fields #[.ref l, .int 0 0] }).objs.size)))
        { s with heap := (s.heap.push { cls := .type "tuple_iterator", data := .fields #[.ref l, .int 0 0] }).push { cls := .type "enumerate", data := .fields #[.none, .bool false, .ref s.heap.objs.size, rawInt 0, .none, .none] } }) :=
  .of_wp fun prog w A R s h => by
    obtain ⟨hp, g, d, tk, os⟩ := s
    obtain ⟨at1, fin⟩ := h
    have isE := sub_enumerate
    have isT : Heap.IsTuple (Shared.heap ⟨hp, g, d, tk, os⟩) l items := ⟨_, at1, rfl, n, rfl⟩
    wp_walk using wpAny_loadPart' at1
    refine wpAny_stack_any fun st => wpAny_pure ?_
    split
    · rename_i c _ _ _ _ _
      cases (c == Value.type "enumerate")
      · wp_walk using wpAny_loadPart' at1, wpAny_pyIter_tuple isT
        exact ⟨_, rfl, fin⟩
      · wp_walk using wpAny_loadPart' at1, wpAny_pyIter_tuple isT
        exact ⟨_, rfl, fin⟩
    · wp_walk using wpAny_loadPart' at1, wpAny_pyIter_tuple isT
      exact ⟨_, rfl, fin⟩
theorem call_enumT {l : Addr} {items : Array Value} {Q : Value → Shared → Prop} (hL : s.heap.IsTuple l items)
    (fin : ∀ h', IsEnum h' (s.heap.objs.size + 1) s.heap.objs.size 0 .none → h'.IsTupleIter s.heap.objs.size l 0 → h'.objs.size = s.heap.objs.size + 2 → (∀ b o, s.heap.get? b = some o → h'.get? b = some o) → Q (.ref (s.heap.objs.size + 1)) { s with heap := h' }) :
    wpAny (model prog w) A (call (.type "enumerate") [.ref l]) Q E s := by
  obtain ⟨⟨c, dct, dt, sl⟩, at1, cl, n, da⟩ := hL
  replace cl : c = .type "tuple" := cl
  replace da : dt = .seq items n := da
  subst cl da
  refine callType_new F.called_enumerate (by decide) (F.typeCall_enumerate_1 _) (F.newCall_enumerate_1 _) (fun ob => F.args_object_init_2 ob _) F.entry_enumerate_new (enum_newT l items n dct sl) ⟨at1, ?_⟩
  have sz : (s.heap.push { cls := .type "tuple_iterator", data := .fields #[.ref l, .int 0 0] }).objs.size = s.heap.objs.size + 1 := Heap.size_push ..
  show _ ∧ _
  rw [sz]
  have isE : IsEnum ((s.heap.push { cls := .type "tuple_iterator", data := .fields #[.ref l, .int 0 0] }).push { cls := .type "enumerate", data := .fields #[.none, .bool false, .ref s.heap.objs.size, rawInt 0, .none, .none] }) (s.heap.objs.size + 1) s.heap.objs.size 0 .none := by
    have z := Heap.get?_push_size (s.heap.push { cls := .type "tuple_iterator", data := .fields #[.ref l, .int 0 0] }) (o := { cls := .type "enumerate", data := .fields #[.none, .bool false, .ref s.heap.objs.size, rawInt 0, .none, .none] }) rfl
    rw [sz] at z; exact z
  exact ⟨⟨_, isE, rfl⟩, fin _ isE ⟨_, Heap.get?_push_of_some _ (Heap.get?_push_size _ rfl), rfl, rfl⟩ (by rw [Heap.size_push, sz]) fun b o x => Heap.get?_push_of_some _ (Heap.get?_push_of_some _ x)⟩
end
/-- the tuple at a, the items in new pairs with their places -/
def ItE (K : PySem.W.Frag) (a : Addr) : It :=
  ⟨fun i H => ∃ (xs : List V) (x : V), SqT K H a xs ∧ xs[i]? = some x, fun i H v H' => ∃ T x, v = .ref T ∧ H T = none ∧ H' = upd H T (.tup [.int (i : Nat), x]) ∧ ∀ xs, SqT K H a xs → xs[i]? = some x, fun i H => ∃ xs : List V, SqT K H a xs ∧ xs.length = i⟩
theorem turn_enumT {P : Program} {w : World} {K : PySem.W.Frag} {elts : List Expr} {kk : Nat} {tpos : Pos} (a e k : Addr) :
    Turn P w K (.Tuple elts kk tpos) (ItE K a) [e, k] e (fun i h => (∃ old, IsEnum h e k ((i : Nat) : Int) old) ∧ h.IsTupleIter k a i ∧ e ≠ k ∧ a ≠ k ∧ e ≠ a) where
  mem := by simp
  obj := fun i h st b hb => by
    obtain ⟨⟨old, he⟩, ⟨o, ho, hc, hd⟩, _⟩ := st
    rcases (by simpa using hb : b = e ∨ b = k) with z | z
    · rw [z]; exact ⟨_, he, fun v q => nomatch q⟩
    · rw [z]; exact ⟨o, ho, fun v q => by rw [hd] at q; cases q⟩
  keep := fun i h h' st kp => let ⟨⟨old, he⟩, hi, hne⟩ := st; ⟨⟨old, kp e (by simp) _ he⟩, hi.at fun o q => kp k (by simp) o q, hne⟩
  item := by
    intro X hP hw hK hc i pins s σ H E I hf st hg
    subst hP hw hK
    obtain ⟨⟨old, he⟩, hit, ne, na, ea⟩ := st
    obtain ⟨xs, x, hq, hx⟩ := hg
    obtain ⟨its, rv, p, hz⟩ := I.tuple hq
    obtain ⟨u, hu, ru⟩ := rv.get hx
    have hel : e < s.heap.objs.size := Heap.lt_size he
    have hil : k < s.heap.objs.size := by obtain ⟨_, q, _⟩ := hit; exact Heap.lt_size q
    have lt : i < its.toArray.size := by have := (List.getElem?_eq_some_iff.mp hu).1; simpa using this
    refine wpAny_pyNext_enum_itemD (draws_tup (A := X.A.in1) (I.ok.hd hc) k a na its.toArray) he ⟨hit, p⟩ lt ne (by simp [ne, ea]) fun y h' tk hy ho st' hT hsz hk => ?_
    have ey : y = u := by
      have : its[i]? = some y := by simpa using hy
      rw [hu] at this; cases this; rfl
    subst ey
    refine ⟨_, rfl, wpAny_letOwnedTupleGo_enum (s := { s with heap := h', toks := tk + 1 }) ho fun h'' he' sb => ?_⟩
    have hT2 : h''.get? s.heap.objs.size = some { cls := .type "tuple", data := .seq #[.int i tk, y] } := (sb.2 _ (Nat.ne_of_gt hel)).trans hT
    have new : ObjOk X.prog X.w (upd H s.heap.objs.size (.tup [.int (i : Nat), x])) h'' s.heap.objs.size (.tup [.int (i : Nat), x]) := ⟨by show 2 ≤ sizeLine; decide, [.int i tk, y], .cons ⟨_, rfl⟩ (.cons ru .nil), ⟨_, hT2, rfl, _, rfl⟩⟩
    have I1 : Inv X pins σ (upd H s.heap.objs.size (.tup [.int (i : Nat), x])) { s with heap := h'', toks := tk + 1 } :=
      I.turnedNew (ch := [e, k]) (fun b ob hb q => (sb.2 b (fun z => hb (by simp [z]))).trans (hk b ob (fun z => hb (by simp [z])) (fun z => hb (by simp [z])) q)) hf (Nat.le_refl _) new
    refine ⟨.ref s.heap.objs.size, _, I1, rfl, ⟨_, x, rfl, I.hok.fresh (Nat.le_refl _), rfl, fun ys hy => by rw [I.tuple_inj hy hq]; exact hx⟩, ⟨⟨y, ?_⟩, st'.1.at fun o q => (sb.2 k (Ne.symm ne)).trans q, ne, na, ea⟩, fun b hb => ?_⟩
    · rw [show ((i + 1 : Nat) : Int) = (i : Int) + 1 by omega]; exact he'
    · have lb : b < s.heap.objs.size := by
        rcases (by simpa using hb : b = e ∨ b = k) with z | z
        · rw [z]; exact hel
        · rw [z]; exact hil
      rw [upd_ne (Nat.ne_of_lt lb)]
      exact (hf b hb).1
  done := by
    intro X hP hw hK hc i pins s σ H E I hf st hg
    subst hP hw hK
    obtain ⟨⟨old, he⟩, hit, ne, na, ea⟩ := st
    obtain ⟨xs, hq, hx⟩ := hg
    obtain ⟨its, rv, p, hz⟩ := I.tuple hq
    obtain ⟨f0, f1, f2, f3, f4, f5⟩ := hf k (by simp)
    have hl := rv.length
    have e1 : i = its.toArray.size := by simp; omega
    subst e1
    exact wpAny_pyNext_enum_endD (draws_tup (A := X.A.in1) (I.ok.hd hc) k a na its.toArray) he ⟨hit, p⟩ fun h' eb => ⟨rfl, I.turned (t' := s.toks) (fun b o hb q => eb b o hb q) f0 f1 f3 f4 f5⟩
  self := fun A i s Q E st h => let ⟨⟨_, he⟩, _⟩ := st; wpAny_pyIter_enum he h
def iEnumT (K : PySem.W.Frag) (ta : TA) : TI := fun σ H R => ta σ H fun vs H1 => ∃ a xs, vs = [.ref a] ∧ SqT K H1 a xs ∧ R (ItE K a) H1
theorem pi_enumT {X : Cx} {e : Expr} {ta : TA} {p pos tpos : Pos} {elts : List Expr} {kk : Nat} (hg : Gl X "enumerate") (hm : X.mg "enumerate" = none) (ha : PA X [e] ta) (one : starEach [e] X.env = [(false, eval e X.env)] := by rfl) :
    PI X (.Tuple elts kk tpos) (.Call (.Name "enumerate" p) [e] [] pos) (iEnumT X.K ta) := by
  constructor
  intro pins s σ H R I h
  refine Call_ (ld_blt I hg hm boot_enumerate (PyProof.Rows.callWith_type1 (thn (ha.run pos pins s σ H _ I h) fun us s1 h1 => ?_) one rfl))
  obtain ⟨vs, H1, I1, r1, a, xs, rfl, hq, q⟩ := h1
  rw [Vals.ref1 r1]
  obtain ⟨its, rv, p', hz⟩ := I1.tuple hq
  have la : a < s1.heap.objs.size := by obtain ⟨o, ho, _⟩ := p'; exact Heap.lt_size ho
  refine call_enumT p' fun h' he hit hsz hk => wpAny_pyIter_enum he ?_
  have I2 : Inv X pins σ H1 { s1 with heap := h' } := I1.kept (t' := s1.toks) hk
  refine ⟨s1.heap.objs.size + 1, [s1.heap.objs.size + 1, s1.heap.objs.size], _, _, H1, rfl, I2, turn_enumT a (s1.heap.objs.size + 1) s1.heap.objs.size, ⟨⟨.none, he⟩, hit, Nat.succ_ne_self _, Nat.ne_of_lt la, Nat.ne_of_gt (Nat.lt_succ_of_lt la)⟩, fun b hb => ?_, q⟩
  have le : s1.heap.objs.size ≤ b := by
    rcases (by simpa using hb : b = s1.heap.objs.size + 1 ∨ b = s1.heap.objs.size) with z | z
    · rw [z]; exact Nat.le_add_right _ _
    · rw [z]; exact Nat.le_refl _
  exact I1.fpOk le (I1.hok.fresh le)
section
variable {K : PySem.W.Frag} {A : Nat → Addr}
def iEnT (f : EF) : IF := fun ρ => do
  let (t, ρ1) ← opened f ρ
  match t with
  | .tup ts => pure (enumT ts, ρ1)
  | _ => none
theorem iv_enumT {te : TE} {f : EF} (he : EV K A te f) : IV K A (iEnumT K (tCons te tNil)) (iEnT f) := fun G σ H ρ O r ts ρ' e R q => by
  simp only [iEnT, Option.bind_eq_bind, Option.bind_eq_some_iff] at e
  obtain ⟨⟨t, ρ1⟩, h1, h2⟩ := e
  dsimp only at h2
  split at h2
  · rename_i us
    simp only [Option.pure_def, Option.some.injEq, Prod.mk.injEq] at h2
    obtain ⟨rfl, rfl⟩ := h2
    refine opened_ok he r h1 _ fun v H1 O1 p1 x1 => ?_
    cases x1 with
    | tup h3 h4 =>
      rename_i a ws
      have len : (enumT us).length = us.length := by simp [enumT]
      refine ⟨a, ws, rfl, hide_le.sqT h3, q _ _ O1 (fun H O => SqT K (hide H O) a ws ∧ RpL K A (hide H O) ws us) p1 ⟨fun H O H' O' z s => ⟨(Le.of s).sqT z.1, z.2.mono (Le.of s)⟩, fun H O i t z dm hi => ?_, fun H O z => ⟨ws, hide_le.sqT z.1, by rw [len, z.2.len]⟩⟩ ⟨h3, h4⟩⟩
      have lt : i < us.length := by have := (List.getElem?_eq_some_iff.mp hi).1; rwa [len] at this
      have lw : i < ws.length := by rw [z.2.len]; exact lt
      refine ⟨⟨ws, ws[i], hide_le.sqT z.1, by simp [lw]⟩, fun x H' y => ?_⟩
      obtain ⟨Ta, y', rfl, hT, rfl, hy⟩ := y
      have ey : ws[i]? = some y' := hy ws (hide_le.sqT z.1)
      obtain ⟨u, hu, ru⟩ := z.2.get (i := i) (t := us[i]) (by simp [lt])
      rw [ey] at hu; cases hu
      have et : t = .tup [.int (i : Nat), us[i]] := by
        simp [enumT, lt] at hi
        exact hi.symm
      subst et
      have nO : ¬ O Ta := fun w => dm Ta w hT
      exact ⟨same_new hT, .tup (.inl (.inl (hide_of nO upd_same))) (.cons (.int _) (.cons (ru.mono (Le.of (hide_newv hT))) .nil))⟩
  · cases h2
end
end QT

set_option Elab.async false
set_option linter.all false
set_option maxRecDepth 100000
set_option maxHeartbeats 4000000
/-! Own layer: mathematics of mirrors: how the functions over trees run. -/
namespace QT
open PySem PySem.Spec PyProof.Rows L2 QB
theorem fAdd_i {i j : Int} : fAdd [.int i, .int j] = some (.val (.int (i + j))) := rfl
theorem fSub_i {i j : Int} : fSub [.int i, .int j] = some (.val (.int (i - j))) := rfl
theorem fMul_r {i j : Int} (h1 : -18446744073709551616 < j) (h2 : j < 18446744073709551616) : fMul [.int i, .int j] = some (.val (.int (i * j))) := if_pos (.inr ⟨h1, h2⟩)
theorem fMul_l {i j : Int} (h1 : -18446744073709551616 < i) (h2 : i < 18446744073709551616) : fMul [.int i, .int j] = some (.val (.int (i * j))) := if_pos (.inl ⟨h1, h2⟩)
theorem fMod_p {i j : Int} (h : 0 < j) : fMod [.int i, .int j] = some (.val (.int (i % j))) := if_pos h
theorem log_small {j : Int} (h : j < 2 ^ 64) (h0 : 0 < j) : j.natAbs.log2 < 9000 := by
  have h1 : j.natAbs < 2 ^ 64 := by omega
  have h2 : j.natAbs ≠ 0 := by omega
  have := (Nat.log2_lt h2).mpr h1
  omega
theorem fFdiv_p {i j : Int} (h : 0 < j) (h2 : j < 18446744073709551616) : fFdiv [.int i, .int j] = some (.val (.int (i / j))) := if_pos ⟨h, log_small h2 h⟩
theorem fLt_i {i j : Int} : fLt [.int i, .int j] = some (.val (.bl (decide (i < j)))) := rfl
theorem fLe_i {i j : Int} : fLe [.int i, .int j] = some (.val (.bl (decide (i ≤ j)))) := rfl
theorem fGt_i {i j : Int} : fGt [.int i, .int j] = some (.val (.bl (decide (j < i)))) := rfl
theorem fGe_i {i j : Int} : fGe [.int i, .int j] = some (.val (.bl (decide (j ≤ i)))) := rfl
theorem fIxL_0 {x : T} {r : List T} : fIxL [.lst (x :: r), .int 0] = some (.val x) := by
  simp [fIxL, L2.atI, ixN]
theorem ixN_nat {n : Nat} {i : Int} (h0 : 0 ≤ i) (h1 : i < n) : ixN n i = some i.toNat := by
  unfold ixN; rw [if_pos h0, if_pos h1]
theorem fIxL_n {xs : List T} {i : Int} {x : T} (h0 : 0 ≤ i) (h : xs[i.toNat]? = some x) : fIxL [.lst xs, .int i] = some (.val x) := by
  have hl : i.toNat < xs.length := (List.getElem?_eq_some_iff.mp h).1
  simp only [fIxL, L2.atI, ixN_nat h0 (show i < xs.length by omega), Option.bind_some, h, Option.map_some]
theorem fIxL_1 {x y : T} {r : List T} : fIxL [.lst (x :: y :: r), .int 1] = some (.val y) := fIxL_n (by decide) rfl
theorem fEq_i {i j : Int} : fEq false [.int i, .int j] = some (.val (.bl (decide (i = j)))) := by
  simp [fEq, T.fv, scal]
theorem fNe_i {i j : Int} : fEq true [.int i, .int j] = some (.val (.bl (!decide (i = j)))) := by
  simp [fEq, T.fv, scal]
theorem fEq_s {i j : Str} : fEq false [.str i, .str j] = some (.val (.bl (decide (i = j)))) := by
  simp [fEq, T.fv, scal]
theorem fNe_s {i j : Str} : fEq true [.str i, .str j] = some (.val (.bl (!decide (i = j)))) := by
  simp [fEq, T.fv, scal]
theorem ixN_10 : ixN 1 0 = some 0 := rfl
theorem ixN_20 : ixN 2 0 = some 0 := rfl
theorem ixN_21 : ixN 2 1 = some 1 := rfl
theorem ixN_30 : ixN 3 0 = some 0 := rfl
theorem ixN_31 : ixN 3 1 = some 1 := rfl
theorem ixN_32 : ixN 3 2 = some 2 := rfl
theorem ofS_eq {a b : String} : (Str.ofString a = Str.ofString b) = (a = b) := by
  apply propext
  constructor
  · intro h
    rw [Str.ofString_eq_toList, Str.ofString_eq_toList] at h
    have h2 : a.toList.map Char.toNat = b.toList.map Char.toNat := by
      have := congrArg (fun z : Str => z.cps.toList) h
      simpa using this
    have h3 : a.toList = b.toList := by
      have inj : ∀ {xs ys : List Char}, xs.map Char.toNat = ys.map Char.toNat → xs = ys := by
        intro xs
        induction xs with
        | nil => intro ys h; cases ys with
          | nil => rfl
          | cons _ _ => cases h
        | cons x r ih => intro ys h; cases ys with
          | nil => cases h
          | cons y s =>
            simp only [List.map_cons, List.cons.injEq] at h
            have : x = y := Char.ext (UInt32.toNat_inj.mp h.1)
            rw [this, ih h.2]
      exact inj h2
    exact String.toList_inj.mp h3
  · rintro rfl; rfl
theorem ofS_beq {a b : String} : (Str.ofString a == Str.ofString b) = (a == b) := by
  rw [Bool.eq_iff_iff, beq_iff_eq, beq_iff_eq, ofS_eq]
/-! ### loops -/
/-- each turn goes on and keeps P -/
theorem loop_inv {s : T → Rho → Option Rho} {b : SF} (P : Rho → Prop) : ∀ {ts : List T} {ρ : Rho}, P ρ → (∀ t ∈ ts, ∀ ρ, P ρ → ∃ ρ1 ρ2, s t ρ = some ρ1 ∧ b ρ1 = .nx ρ2 ∧ P ρ2) → ∃ ρ', loopF s b ts ρ = .nx ρ' ∧ P ρ'
  | [], ρ, h, _ => ⟨ρ, rfl, h⟩
  | t :: r, ρ, h, hs => by
    obtain ⟨ρ1, ρ2, h1, h2, h3⟩ := hs t (by simp) ρ h
    obtain ⟨ρ', h4, h5⟩ := loop_inv P (ts := r) h3 (fun u hu => hs u (by simp [hu]))
    exact ⟨ρ', by simp only [loopF, h1, h2, h4], h5⟩
/-- .. by the place -/
theorem loop_at {s : T → Rho → Option Rho} {b : SF} (P : Nat → Rho → Prop) : ∀ {ts : List T} {ρ : Rho} (k : Nat), P k ρ → (∀ (i : Nat) t, ts[i]? = some t → ∀ ρ, P (k + i) ρ → ∃ ρ1 ρ2, s t ρ = some ρ1 ∧ b ρ1 = .nx ρ2 ∧ P (k + i + 1) ρ2) → ∃ ρ', loopF s b ts ρ = .nx ρ' ∧ P (k + ts.length) ρ'
  | [], ρ, k, h, _ => ⟨ρ, rfl, h⟩
  | t :: r, ρ, k, h, hs => by
    obtain ⟨ρ1, ρ2, h1, h2, h3⟩ := hs 0 t rfl ρ h
    obtain ⟨ρ', h4, h5⟩ := loop_at P (ts := r) (k + 1) h3 (fun i u hu ρ hp => by
      have := hs (i + 1) u hu ρ (by rw [show k + (i + 1) = k + 1 + i by omega]; exact hp)
      rw [show k + (i + 1) + 1 = k + 1 + i + 1 by omega] at this
      exact this)
    exact ⟨ρ', by simp only [loopF, h1, h2, h4], by rw [List.length_cons, show k + (r.length + 1) = k + 1 + r.length by omega]; exact h5⟩
/-- a comprehension whose element is a function of the item; the slots stay -/
theorem comp_map {s : T → Rho → Option Rho} {el : EF} {vs : List Nat} {f : T → T} {ρ : Rho} : ∀ {ts : List T}, (∀ t ∈ ts, ∃ ρ1 ρ3, s t ρ = some ρ1 ∧ opened el ρ1 = some (f t, ρ3) ∧ wipeR ρ3 vs = ρ) → compF s bYes el vs ts ρ = some (ts.map f, ρ)
  | [], _ => rfl
  | t :: r, h => by
    obtain ⟨ρ1, ρ3, h1, h2, h3⟩ := h t (by simp)
    have ih := comp_map (ts := r) (fun u hu => h u (by simp [hu]))
    simp only [compF, h1, bYes, Option.bind_some, if_true, h2, h3, ih, List.map_cons]
/-- .. with a test -/
theorem comp_filter {s : T → Rho → Option Rho} {bt : BF} {el : EF} {vs : List Nat} {p : T → Bool} {f : T → T} {ρ : Rho} : ∀ {ts : List T}, (∀ t ∈ ts, ∃ ρ1 ρ2, s t ρ = some ρ1 ∧ bt ρ1 = some (p t, ρ2) ∧ (p t = true → ∃ ρ3, opened el ρ2 = some (f t, ρ3) ∧ wipeR ρ3 vs = ρ) ∧ (p t = false → wipeR ρ2 vs = ρ)) → compF s bt el vs ts ρ = some ((ts.filter p).map f, ρ)
  | [], _ => rfl
  | t :: r, h => by
    obtain ⟨ρ1, ρ2, h1, h2, h3, h4⟩ := h t (by simp)
    have ih := comp_filter (ts := r) (fun u hu => h u (by simp [hu]))
    cases hp : p t with
    | true =>
      obtain ⟨ρ3, h5, h6⟩ := h3 hp
      simp only [compF, h1, h2, Option.bind_some, hp, if_true, h5, h6, ih, List.filter_cons, List.map_cons]
    | false =>
      have h5 := h4 hp
      simp only [compF, h1, h2, Option.bind_some, hp, Bool.false_eq_true, if_false, h5, ih, List.filter_cons]
/-- .. that draws: Q of the items made, P of the slots -/
theorem comp_inv {s : T → Rho → Option Rho} {el : EF} {vs : List Nat} (P : Rho → Prop) (R : T → T → Prop) : ∀ {ts : List T} {ρ : Rho}, P ρ → (∀ t ∈ ts, ∀ ρ, P ρ → ∃ ρ1 u ρ3, s t ρ = some ρ1 ∧ opened el ρ1 = some (u, ρ3) ∧ R t u ∧ P (wipeR ρ3 vs)) → ∃ us ρ', compF s bYes el vs ts ρ = some (us, ρ') ∧ Paired R ts us ∧ P ρ'
  | [], ρ, h, _ => ⟨[], ρ, rfl, .nil, h⟩
  | t :: r, ρ, h, hs => by
    obtain ⟨ρ1, u, ρ3, h1, h2, h3, h4⟩ := hs t (by simp) ρ h
    obtain ⟨us, ρ', h5, h6, h7⟩ := comp_inv P R (ts := r) h4 (fun u hu => hs u (by simp [hu]))
    exact ⟨u :: us, ρ', by simp only [compF, h1, bYes, Option.bind_some, if_true, h2, h5], .cons h3 h6, h7⟩
theorem enum_mem {ts : List T} {t : T} (h : t ∈ enumT ts) : ∃ (i : Nat) (x : T), ts[i]? = some x ∧ t = .tup [.int (i : Nat), x] := by
  unfold enumT at h
  obtain ⟨i, hi, rfl⟩ := List.mem_map.mp h
  have hi := List.mem_range.mp hi
  exact ⟨i, ts[i], List.getElem?_eq_getElem hi, by simp [List.getD_eq_getElem?_getD, List.getElem?_eq_getElem hi]⟩
theorem rng_mem {n : Nat} {t : T} (h : t ∈ rngT 0 n) : ∃ i : Nat, i < n ∧ t = .int (i : Int) := by
  unfold rngT at h
  obtain ⟨i, hi, rfl⟩ := List.mem_map.mp h
  exact ⟨i, List.mem_range.mp hi, by simp⟩
theorem cut_sub {xs : List T} {lo hi : Option Int} {x : T} (h : x ∈ cutT xs lo hi) : x ∈ xs := List.mem_of_mem_drop (List.mem_of_mem_take h)
theorem fPow_i {i j : Int} (h0 : 0 ≤ j) (h1 : j ≤ 1000000) (h2 : i.natAbs < 18446744073709551616) : fPow [.int i, .int j] = some (.val (.int (i ^ j.toNat))) := if_pos ⟨h0, h1, h2⟩
end QT

set_option Elab.async false
set_option linter.all false
set_option maxRecDepth 100000
set_option maxHeartbeats 4000000
/-! Own layer: the mirrors run step by step (printed by mkqv.py). -/
namespace QT
open PySem PySem.Spec PyProof.Rows L2 QB

/-! statements -/
def kSeq : Out → SF → Out
  | .nx ρ1, b => b ρ1
  | o, _ => o
def kIf : Option (Bool × Rho) → SF → SF → Out
  | some (true, ρ1), a, _ => a ρ1
  | some (false, ρ1), _, b => b ρ1
  | none, _, _ => .fail
def kPut : Option Rho → Out
  | some ρ => .nx ρ
  | none => .fail
def kAsg (i : Nat) : Option (Opd × Rho) → Out
  | some (o, ρ1) => kPut (put1 i o ρ1)
  | none => .fail
def kMapS (i : Nat) : Option (T × Rho) → Option Rho
  | some (t, ρ1) => some (ρ1.set i (.val t))
  | none => none
def kShS (i : Nat) (ρ : Rho) : Option Sl → Option (T × Rho)
  | some (.val t) => some (t, ρ)
  | some (.own t) => some (t, ρ.set i (.val t))
  | _ => none
def kAsgT1 (is : List Nat) : Option (T × Rho) → Out
  | some (.tup ts, ρ2) => kPut (QT.putAll is (ts.map fun t => (false, t)) ρ2)
  | _ => .fail
def kAsgT (is : List Nat) : Option (Opd × Rho) → Out
  | some (.ot xs, ρ1) => kPut (QT.putAll is xs ρ1)
  | some (o, ρ1) => kAsgT1 is (share o ρ1)
  | none => .fail
def kPar2 (is : List Nat) : Option (List (Bool × T) × Rho) → Out
  | some (xs, ρ2) => kPut (QT.putAll is xs ρ2)
  | none => .fail
def kPar (is : List Nat) : Option (List Opd × Rho) → Out
  | some (os, ρ1) => kPar2 is (ocm os ρ1)
  | none => .fail
def kRetS (ρ : Rho) : Option Sl → Out
  | some (.val t) => .rt (.val t) ρ
  | some (.own t) => .rt (.own t) ρ
  | _ => .fail
def kRet : Option (Opd × Rho) → Out
  | some (o, ρ1) => ret1 o ρ1
  | none => .fail
def kDrop : Option (Opd × Rho) → Out
  | some (_, ρ1) => .nx ρ1
  | none => .fail
def kFor (s : T → Rho → Option Rho) (b : SF) : Option (List T × Rho) → Out
  | some (ts, ρ1) => loopF s b ts ρ1
  | none => .fail
def kLoop2 (s : T → Rho → Option Rho) (b : SF) (r : List T) : Out → Out
  | .nx ρ2 => loopF s b r ρ2
  | .ct ρ2 => loopF s b r ρ2
  | .bk ρ2 => .nx ρ2
  | o => o
def kLoop (s : T → Rho → Option Rho) (b : SF) (r : List T) : Option Rho → Out
  | some ρ1 => kLoop2 s b r (b ρ1)
  | none => .fail
def kWh2 (c : BF) (b : SF) (n : Nat) : Out → Out
  | .nx ρ2 => whileF c b n ρ2
  | .ct ρ2 => whileF c b n ρ2
  | .bk ρ2 => .nx ρ2
  | o => o
def kWh (c : BF) (b : SF) (n : Nat) : Option (Bool × Rho) → Out
  | none => .fail
  | some (false, ρ1) => .nx ρ1
  | some (true, ρ1) => kWh2 c b n (b ρ1)
def kSF2 (i : Nat) (f : Str) (t : T) (ρ : Rho) (s : Sl) : Option T → Out
  | some (.obj c fs) => if fs.length < 1000 then .nx (ρ.set i (s.with (.obj c (putT f t fs)))) else .fail
  | _ => .fail
def kSF1 (i : Nat) (f : Str) (t : T) (ρ : Rho) : Option Sl → Out
  | some s => kSF2 i f t ρ s s.held
  | none => .fail
def kSF (i : Nat) (f : Str) : Option (T × Rho) → Out
  | some (t, ρ1) => kSF1 i f t ρ1 ρ1[i]?
  | none => .fail
def kSL4 (i : Nat) (t : T) (ρ : Rho) (s : Sl) (xs : List T) : Option Nat → Out
  | some n => .nx (ρ.set i (s.with (.lst (xs.set n t))))
  | none => .fail
def kSL3 (i : Nat) (t : T) (k : Int) (ρ : Rho) (s : Sl) : Option T → Out
  | some (.lst xs) => kSL4 i t ρ s xs (ixN xs.length k)
  | _ => .fail
def kSL2 (i : Nat) (t : T) (k : Int) (ρ : Rho) : Option Sl → Out
  | some s => kSL3 i t k ρ s s.held
  | none => .fail
def kSL1 (i : Nat) (t : T) : Option T → Option (T × Rho) → Out
  | some _, some (.int k, ρ2) => kSL2 i t k ρ2 ρ2[i]?
  | _, _ => .fail
def kSL (i : Nat) (j : EF) : Option (T × Rho) → Out
  | some (t, ρ1) => kSL1 i t (ρ1[i]?.bind Sl.held) (readI j ρ1)
  | none => .fail
/-! values -/
def kT1 (ρ : Rho) : Option T → Option (T × Rho)
  | some t => some (t, ρ)
  | none => none
def kBE1 (ρ : Rho) : Option T → Option (Bool × Rho)
  | some (.bl b) => some (b, ρ)
  | _ => none
def kBE : Option (Opd × Rho) → Option (Bool × Rho)
  | some (o, ρ1) => kBE1 ρ1 (o.tree ρ1)
  | none => none
def kBT2 (ρ : Rho) : Option Bool → Option (Bool × Rho)
  | some b => some (b, ρ)
  | none => none
def kBT1 (ρ : Rho) : Option T → Option (Bool × Rho)
  | some t => kBT2 ρ t.truth
  | none => none
def kBT : Option (Opd × Rho) → Option (Bool × Rho)
  | some (o, ρ1) => kBT1 ρ1 (o.tree ρ1)
  | none => none
def kBAnd (b : BF) : Option (Bool × Rho) → Option (Bool × Rho)
  | some (true, ρ1) => b ρ1
  | some (false, ρ1) => some (false, ρ1)
  | none => none
def kBOr (b : BF) : Option (Bool × Rho) → Option (Bool × Rho)
  | some (true, ρ1) => some (true, ρ1)
  | some (false, ρ1) => b ρ1
  | none => none
def kBNot : Option (Bool × Rho) → Option (Bool × Rho)
  | some (x, ρ1) => some (!x, ρ1)
  | none => none
def kEIf (a b : EF) : Option (Bool × Rho) → Option (Opd × Rho)
  | some (true, ρ1) => a ρ1
  | some (false, ρ1) => b ρ1
  | none => none
def kEAnd (b : EF) : Option (Bool × Rho) → Option (Opd × Rho)
  | some (true, ρ1) => b ρ1
  | some (false, ρ1) => some (.val (.bl false), ρ1)
  | none => none
def kEOr (b : EF) : Option (Bool × Rho) → Option (Opd × Rho)
  | some (true, ρ1) => some (.val (.bl true), ρ1)
  | some (false, ρ1) => b ρ1
  | none => none
def kENot : Option (Bool × Rho) → Option (Opd × Rho)
  | some (x, ρ1) => some (.val (.bl (!x)), ρ1)
  | none => none
def kC2 (o : Opd) : Option (List Opd × Rho) → Option (List Opd × Rho)
  | some (os, ρ2) => some (o :: os, ρ2)
  | none => none
def kC1 (r : AF) : Option (Opd × Rho) → Option (List Opd × Rho)
  | some (o, ρ1) => kC2 o (r ρ1)
  | none => none
def kB2 (ρ : Rho) : Option Opd → Option (Opd × Rho)
  | some o => some (o, ρ)
  | none => none
def kB1 (f : List T → Option Opd) (ρ : Rho) : Option (List T) → Option (Opd × Rho)
  | some ts => kB2 ρ (f ts)
  | none => none
def kB (f : List T → Option Opd) : Option (List Opd × Rho) → Option (Opd × Rho)
  | some (os, ρ1) => kB1 f ρ1 (trees ρ1 os)
  | none => none
def kTr2 (t : T) : Option (List T) → Option (List T)
  | some ts => some (t :: ts)
  | none => none
def kTr1 (ρ : Rho) (r : List Opd) : Option T → Option (List T)
  | some t => kTr2 t (trees ρ r)
  | none => none
def kTree : Option Sl → Option T
  | some (.val t) => some t
  | some (.own t) => some t
  | some (.io t) => some t
  | _ => none
def kSh2 (t : T) : Option (List T × Rho) → Option (List T × Rho)
  | some (ts, ρ2) => some (t :: ts, ρ2)
  | none => none
def kSh1 (r : List Opd) : Option (T × Rho) → Option (List T × Rho)
  | some (t, ρ1) => kSh2 t (shareL r ρ1)
  | none => none
def kOp : Option (Opd × Rho) → Option (T × Rho)
  | some (o, ρ1) => share o ρ1
  | none => none
def kRd : Option (Opd × Rho) → Option (T × Rho)
  | some (o, ρ1) => kT1 ρ1 (o.tree ρ1)
  | none => none
def kTup : Option (List T × Rho) → Option (Opd × Rho)
  | some (ts, ρ2) => if ts.length ≤ sizeLine then some (.val (.tup ts), ρ2) else none
  | none => none
def kTup1 : Option (List Opd × Rho) → Option (Opd × Rho)
  | some (os, ρ1) => kTup (shareL os ρ1)
  | none => none
def kLst : Option (List T × Rho) → Option (Opd × Rho)
  | some (ts, ρ2) => if ts.length ≤ sizeLine then some (.own (.lst ts), ρ2) else none
  | none => none
def kLst1 : Option (List Opd × Rho) → Option (Opd × Rho)
  | some (os, ρ1) => kLst (shareL os ρ1)
  | none => none
def kOT : Option (List (Bool × T) × Rho) → Option (Opd × Rho)
  | some (xs, ρ2) => if xs.length ≤ sizeLine then some (.ot xs, ρ2) else none
  | none => none
def kOT1 : Option (List Opd × Rho) → Option (Opd × Rho)
  | some (os, ρ1) => kOT (ocm os ρ1)
  | none => none
def kOc2 (b : Bool) (t : T) : Option (List (Bool × T) × Rho) → Option (List (Bool × T) × Rho)
  | some (xs, ρ2) => some ((b, t) :: xs, ρ2)
  | none => none
def kOc1 (r : List Opd) : Option (T × Rho) → Option (List (Bool × T) × Rho)
  | some (t, ρ1) => kOc2 false t (ocm r ρ1)
  | none => none
def kSl3 (ρ : Rho) (f : T → Option Int → Option Int → Option Opd) (x y : Option Int) : Option T → Option (Opd × Rho)
  | some t => kB2 ρ (f t x y)
  | none => none
def kSl2 (f : T → Option Int → Option Int → Option Opd) (o : Opd) (x : Option Int) : Option (Option Int × Rho) → Option (Opd × Rho)
  | some (y, ρ3) => kSl3 ρ3 f x y (o.tree ρ3)
  | none => none
def kSl1 (f : T → Option Int → Option Int → Option Opd) (o : Opd) (h : OF) : Option (Option Int × Rho) → Option (Opd × Rho)
  | some (x, ρ2) => kSl2 f o x (h ρ2)
  | none => none
def kSl (f : T → Option Int → Option Int → Option Opd) (l h : OF) : Option (Opd × Rho) → Option (Opd × Rho)
  | some (o, ρ1) => kSl1 f o h (l ρ1)
  | none => none
def kOS1 (ρ : Rho) : Option T → Option (Option Int × Rho)
  | some (.int i) => some (some i, ρ)
  | _ => none
def kOS : Option (Opd × Rho) → Option (Option Int × Rho)
  | some (o, ρ1) => kOS1 ρ1 (o.tree ρ1)
  | none => none
def kCa2 (ρ : Rho) : Option (Opd × List Sl) → Option (Opd × Rho)
  | some (o, _) => some (o, ρ)
  | none => none
def kCa1 (F : FF) : Option (List T × Rho) → Option (Opd × Rho)
  | some (ts, ρ2) => kCa2 ρ2 (F (ts.map Sl.val))
  | none => none
def kCa (F : FF) : Option (List Opd × Rho) → Option (Opd × Rho)
  | some (os, ρ1) => kCa1 F (shareL os ρ1)
  | none => none
def kLe4 (o : Opd) : Option Rho → Option (Opd × Rho)
  | some ρ3 => some (o, ρ3)
  | none => none
def kLe3 (gs : List Ag) (ρ : Rho) : Option (Opd × List Sl) → Option (Opd × Rho)
  | some (o, as') => kLe4 o (backA gs as' ρ)
  | none => none
def kLe2 (F : FF) (gs : List Ag) (ρ : Rho) : Option (List Sl) → Option (Opd × Rho)
  | some as => if (lentA gs).Nodup then kLe3 gs ρ (F as) else none
  | none => none
def kLe1 (F : FF) : Option (List Ag × Rho) → Option (Opd × Rho)
  | some (gs, ρ2) => kLe2 F gs ρ2 (fillA ρ2 gs)
  | none => none
def kLe (F : FF) (fl : List Bool) : Option (List Opd × Rho) → Option (Opd × Rho)
  | some (os, ρ1) => kLe1 F (mkA fl os ρ1)
  | none => none
def kMk2 (ρ : Rho) (o : Opd) : Option Sl → Option (Opd × Rho)
  | some s1 => (match o, s1 with
    | .val .non, Sl.io t' => some (.own t', ρ)
    | _, _ => none)
  | none => none
def kMk1 (ρ : Rho) : Option (Opd × List Sl) → Option (Opd × Rho)
  | some (o, as') => kMk2 ρ o as'[0]?
  | none => none
def kMk0 (c : Nat) (F : FF) (ds : List T) : Option (List T × Rho) → Option (Opd × Rho)
  | some (ts, ρ2) => kMk1 ρ2 (F (Sl.io (.obj c []) :: (ts ++ ds).map Sl.val))
  | none => none
def kMk (c : Nat) (F : FF) (ds : List T) : Option (List Opd × Rho) → Option (Opd × Rho)
  | some (os, ρ1) => kMk0 c F ds (shareL os ρ1)
  | none => none
def kMu4 (i : Nat) (ρ : Rho) (s : Sl) : Option (T × T) → Option (Opd × Rho)
  | some (t', u) => some (.val u, ρ.set i (s.with t'))
  | none => none
def kMu3 (g : T → List T → Option (T × T)) (i : Nat) (ts : List T) (ρ : Rho) (s : Sl) : Option T → Option (Opd × Rho)
  | some t => kMu4 i ρ s (g t ts)
  | none => none
def kMu2 (g : T → List T → Option (T × T)) (i : Nat) (ts : List T) (ρ : Rho) : Option Sl → Option (Opd × Rho)
  | some s => kMu3 g i ts ρ s s.held
  | none => none
def kMu1 (g : T → List T → Option (T × T)) (i : Nat) : Option (List T × Rho) → Option (Opd × Rho)
  | some (ts, ρ2) => kMu2 g i ts ρ2 ρ2[i]?
  | none => none
def kMu0 (g : T → List T → Option (T × T)) (i : Nat) : Option (List Opd × Rho) → Option (Opd × Rho)
  | some (os, ρ1) => kMu1 g i (shareL os ρ1)
  | none => none
def kMuT (T' : String) (g : T → List T → Option (T × T)) (i : Nat) (a : AF) (ρ : Rho) : Option T → Option (Opd × Rho)
  | some t0 => if tyT T' t0 then kMu0 g i (a ρ) else none
  | none => none
def kMu (T' : String) (g : T → List T → Option (T × T)) (i : Nat) (a : AF) (ρ : Rho) : Option Sl → Option (Opd × Rho)
  | some s0 => kMuT T' g i a ρ s0.held
  | none => none
def kLc2 : Option (List T × Rho) → Option (Opd × Rho)
  | some (us, ρ2) => some (.own (.lst us), ρ2)
  | none => none
def kLc (s : T → Rho → Option Rho) (tt : BF) (el : EF) (vs : List Nat) : Option (List T × Rho) → Option (Opd × Rho)
  | some (ts, ρ1) => if ts.length < sizeLine then kLc2 (compF s tt el vs ts (wipeR ρ1 vs)) else none
  | none => none
def kLX2 (i : Nat) (s0 : Sl) : Option (List T × Rho) → Option (Opd × Rho)
  | some (us, ρ2) => some (.own (.lst us), ρ2.set i s0)
  | none => none
def kLX1 (en : Bool) (i : Nat) (s : T → Rho → Option Rho) (tt : BF) (el : EF) (vs : List Nat) (ρ : Rho) (s0 : Sl) : Option T → Option (Opd × Rho)
  | some (.lst ts) => if ts.length < sizeLine then kLX2 i s0 (compF s tt el vs (if en then enumT ts else ts) (wipeR (ρ.set i .no) vs)) else none
  | _ => eLc (if en then iEn (eVar i) else iL (eVar i)) s tt el vs ρ
def kLX (en : Bool) (i : Nat) (s : T → Rho → Option Rho) (tt : BF) (el : EF) (vs : List Nat) (ρ : Rho) : Option Sl → Option (Opd × Rho)
  | some s0 => kLX1 en i s tt el vs ρ s0 s0.held
  | none => none
def kIL : Option (T × Rho) → Option (List T × Rho)
  | some (.lst ts, ρ1) => some (ts, ρ1)
  | _ => none
def kIT : Option (T × Rho) → Option (List T × Rho)
  | some (.tup ts, ρ1) => some (ts, ρ1)
  | _ => none
def kIEn : Option (T × Rho) → Option (List T × Rho)
  | some (.lst ts, ρ1) => some (enumT ts, ρ1)
  | _ => none
def kIR2 (ρ : Rho) : Option (List T) → Option (List T × Rho)
  | some [.int j] => if -(2 ^ 62) ≤ j ∧ j < 2 ^ 62 then some (rngT 0 j.toNat, ρ) else none
  | _ => none
def kIR : Option (List Opd × Rho) → Option (List T × Rho)
  | some (os, ρ1) => kIR2 ρ1 (trees ρ1 os)
  | none => none
def kDy3 (ρ : Rho) (F : Nat → FF) (c : Nat) (fs : List (Str × T)) : Option T → Option (Opd × Rho)
  | none => kCa2 ρ (F c [.val (.obj c fs)])
  | some _ => none
def kDy (m : Str) (F : Nat → FF) : Option (T × Rho) → Option (Opd × Rho)
  | some (.obj c fs, ρ1) => kDy3 ρ1 F c fs (fs.lookup m)
  | _ => none
def kJ3 (es : List EF) (z : Str) (ρ : Rho) (y : Str) : Option (Str × Rho) := if (z ++ y).length ≤ sizeLine then joinF es (z ++ y) ρ else none
def kJ2 (es : List EF) (z : Str) (ρ : Rho) : Option T → Option (Str × Rho)
  | some (.str y) => kJ3 es z ρ y
  | _ => none
def kJ1 (es : List EF) (z : Str) : Option (Opd × Rho) → Option (Str × Rho)
  | some (o, ρ1) => kJ2 es z ρ1 (o.tree ρ1)
  | none => none
def kJs : Option (Str × Rho) → Option (Opd × Rho)
  | some (z, ρ1) => some (.val (.str z), ρ1)
  | none => none
def kJn1 (a : Str) (ρ : Rho) : Option T → Option (Opd × Rho)
  | some t => kB2 ρ (fJoin a t)
  | none => none
def kJn (a : Str) : Option (Opd × Rho) → Option (Opd × Rho)
  | some (o, ρ1) => kJn1 a ρ1 (o.tree ρ1)
  | none => none
def kCo4 (u : T) : Option (List T × Rho) → Option (List T × Rho)
  | some (us, ρ4) => some (u :: us, ρ4)
  | none => none
def kRun : Out → Option (Opd × List Sl)
  | .rt o ρ => some (o, ρ)
  | .nx ρ => some (.val .non, ρ)
  | _ => none
def kVar (i : Nat) (ρ : Rho) : Option Sl → Option (Opd × Rho)
  | some (.val _) => some (.slot i, ρ)
  | some (.own _) => some (.slot i, ρ)
  | some (.io _) => some (.slot i, ρ)
  | _ => none
theorem asgT_aux {is : List Nat} {y : Option (T × Rho)} : (match y with | some (.tup ts, ρ2) => (match QT.putAll is (ts.map fun t => (false, t)) ρ2 with | some ρ3 => Out.nx ρ3 | none => .fail) | _ => Out.fail) = kAsgT1 is y := by
  rcases y with _ | ⟨t, ρ2⟩
  · rfl
  · cases t <;> first | rfl | (dsimp only [kAsgT1]; cases QT.putAll is _ ρ2 <;> rfl)
theorem sSeq_v {a b : SF} {ρ : Rho} : sSeq a b ρ = kSeq (a ρ) b := by unfold sSeq; cases a ρ <;> rfl
theorem sIf_v {c : BF} {a b : SF} {ρ : Rho} : sIf c a b ρ = kIf (c ρ) a b := by unfold sIf; rcases c ρ with _ | ⟨_ | _, _⟩ <;> rfl
theorem sAsg_v {i : Nat} {f : EF} {ρ : Rho} : sAsg i f ρ = kAsg i (f ρ) := by unfold sAsg; rcases f ρ with _ | ⟨o, ρ1⟩; rfl; (show (match put1 i o ρ1 with | some ρ2 => Out.nx ρ2 | none => .fail) = kPut (put1 i o ρ1)); cases put1 i o ρ1 <;> rfl
theorem put1_own {i : Nat} {t : T} {ρ : Rho} : put1 i (.own t) ρ = some (ρ.set i (.own t)) := rfl
theorem put1_val {i : Nat} {t : T} {ρ : Rho} : put1 i (.val t) ρ = some (ρ.set i (.val t)) := rfl
theorem put1_ot {i : Nat} {xs : List (Bool × T)} {ρ : Rho} : put1 i (.ot xs) ρ = some (ρ.set i (.val (.tup (xs.map (·.2))))) := rfl
theorem put1_slot {i j : Nat} {ρ : Rho} : put1 i (.slot j) ρ = kMapS i (kShS j ρ ρ[j]?) := by show (share (.slot j) ρ).map _ = _; unfold share; dsimp only; cases h : ρ[j]? with | none => rfl | some s => cases s <;> rfl
theorem sAsgT_v {is : List Nat} {f : EF} {ρ : Rho} : sAsgT is f ρ = kAsgT is (f ρ) := by unfold sAsgT; rcases f ρ with _ | ⟨o, ρ1⟩; rfl; cases o with | ot xs => (show (match QT.putAll is xs ρ1 with | some ρ3 => Out.nx ρ3 | none => .fail) = kPut (QT.putAll is xs ρ1)); cases QT.putAll is xs ρ1 <;> rfl | val t => exact asgT_aux | own t => exact asgT_aux | slot j => exact asgT_aux
theorem sPar_v {is : List Nat} {a : AF} {ρ : Rho} : sPar is a ρ = kPar is (a ρ) := by unfold sPar; rcases a ρ with _ | ⟨os, ρ1⟩; rfl; (show (match ocm os ρ1 with | some (xs, ρ2) => (match QT.putAll is xs ρ2 with | some ρ3 => Out.nx ρ3 | none => .fail) | none => .fail) = kPar2 is (ocm os ρ1)); rcases ocm os ρ1 with _ | ⟨xs, ρ2⟩; rfl; (show (match QT.putAll is xs ρ2 with | some ρ3 => Out.nx ρ3 | none => .fail) = kPut (QT.putAll is xs ρ2)); cases QT.putAll is xs ρ2 <;> rfl
theorem sRet_v {f : EF} {ρ : Rho} : sRet f ρ = kRet (f ρ) := by unfold sRet; rcases f ρ with _ | ⟨o, ρ1⟩ <;> rfl
theorem ret1_val {t : T} {ρ : Rho} : ret1 (.val t) ρ = .rt (.val t) ρ := rfl
theorem ret1_own {t : T} {ρ : Rho} : ret1 (.own t) ρ = .rt (.own t) ρ := rfl
theorem ret1_ot {xs : List (Bool × T)} {ρ : Rho} : ret1 (.ot xs) ρ = .rt (.ot xs) ρ := rfl
theorem ret1_slot {j : Nat} {ρ : Rho} : ret1 (.slot j) ρ = kRetS ρ ρ[j]? := by unfold ret1; dsimp only; cases h : ρ[j]? with | none => rfl | some s => cases s <;> rfl
theorem sRetN_v {ρ : Rho} : sRetN ρ = .rt (.val .non) ρ := rfl
theorem sDrop_v {f : EF} {ρ : Rho} : sDrop f ρ = kDrop (f ρ) := by unfold sDrop; rcases f ρ with _ | ⟨o, ρ1⟩ <;> rfl
theorem sNext_v {ρ : Rho} : sNext ρ = .nx ρ := rfl
theorem sBreak_v {ρ : Rho} : sBreak ρ = .bk ρ := rfl
theorem sCont_v {ρ : Rho} : sCont ρ = .ct ρ := rfl
theorem sFor_v {it : IF} {s : T → Rho → Option Rho} {b : SF} {ρ : Rho} : sFor it s b ρ = kFor s b (it ρ) := by unfold sFor; rcases it ρ with _ | ⟨o, ρ1⟩ <;> rfl
theorem sWhile_v {n : Rho → Nat} {c : BF} {b : SF} {ρ : Rho} : sWhile n c b ρ = whileF c b (n ρ) ρ := rfl
theorem sSetF_v {i : Nat} {f : Str} {e : EF} {ρ : Rho} : sSetF i f e ρ = kSF i f (opened e ρ) := by unfold sSetF; rcases opened e ρ with _ | ⟨t, ρ1⟩; rfl; dsimp only [kSF, kSF1]; cases h : ρ1[i]? with | none => rfl | some s => (dsimp only [kSF1]; cases h2 : s.held with | none => rfl | some u => cases u <;> rfl)
theorem sSetL_v {i : Nat} {j e : EF} {ρ : Rho} : sSetL i j e ρ = kSL i j (opened e ρ) := by unfold sSetL; rcases opened e ρ with _ | ⟨t, ρ1⟩; rfl; dsimp only [kSL]; cases h0 : ρ1[i]?.bind Sl.held with | none => rfl | some u => (rcases h1 : readI j ρ1 with _ | ⟨k, ρ2⟩; rfl; cases k <;> first | rfl | (dsimp only [kSL1]; cases h : ρ2[i]? with | none => rfl | some s => (dsimp only [kSL2]; cases h2 : s.held with | none => rfl | some u => cases u <;> first | rfl | (dsimp only [kSL3]; cases ixN _ _ <;> rfl))))
theorem bE_v {e : EF} {ρ : Rho} : bE e ρ = kBE (e ρ) := by simp only [bE]; rcases e ρ with _ | ⟨o, ρ1⟩; rfl; (show (o.tree ρ1).bind _ = kBE1 ρ1 (o.tree ρ1)); cases o.tree ρ1 with | none => rfl | some t => cases t <;> rfl
theorem bT_v {e : EF} {ρ : Rho} : bT e ρ = kBT (e ρ) := by simp only [bT]; rcases e ρ with _ | ⟨o, ρ1⟩; rfl; (show (o.tree ρ1).bind _ = kBT1 ρ1 (o.tree ρ1)); cases o.tree ρ1 with | none => rfl | some t => (show t.truth.bind _ = kBT2 ρ1 t.truth); cases t.truth <;> rfl
theorem bAnd_v {a b : BF} {ρ : Rho} : bAnd a b ρ = kBAnd b (a ρ) := by simp only [bAnd]; rcases a ρ with _ | ⟨_ | _, ρ1⟩ <;> rfl
theorem bOr_v {a b : BF} {ρ : Rho} : bOr a b ρ = kBOr b (a ρ) := by simp only [bOr]; rcases a ρ with _ | ⟨_ | _, ρ1⟩ <;> rfl
theorem bNot_v {a : BF} {ρ : Rho} : bNot a ρ = kBNot (a ρ) := by simp only [bNot]; rcases a ρ with _ | ⟨_, ρ1⟩ <;> rfl
theorem bYes_v {ρ : Rho} : bYes ρ = some (true, ρ) := rfl
theorem eIf_v {c : BF} {a b : EF} {ρ : Rho} : eIf c a b ρ = kEIf a b (c ρ) := by simp only [eIf]; rcases c ρ with _ | ⟨_ | _, ρ1⟩ <;> rfl
theorem eAnd_v {a b : EF} {ρ : Rho} : eAnd a b ρ = kEAnd b (bE a ρ) := by simp only [eAnd]; rcases bE a ρ with _ | ⟨_ | _, ρ1⟩ <;> rfl
theorem eOr_v {a b : EF} {ρ : Rho} : eOr a b ρ = kEOr b (bE a ρ) := by simp only [eOr]; rcases bE a ρ with _ | ⟨_ | _, ρ1⟩ <;> rfl
theorem eNot_v {a : EF} {ρ : Rho} : eNot a ρ = kENot (bE a ρ) := by simp only [eNot]; rcases bE a ρ with _ | ⟨_, ρ1⟩ <;> rfl
theorem aN_v {ρ : Rho} : aN ρ = some ([], ρ) := rfl
theorem aC_v {e : EF} {r : AF} {ρ : Rho} : aC e r ρ = kC1 r (e ρ) := by simp only [aC]; rcases e ρ with _ | ⟨o, ρ1⟩; rfl; (show (r ρ1).bind _ = kC2 o (r ρ1)); rcases r ρ1 with _ | ⟨os, ρ2⟩ <;> rfl
theorem eB_v {f : List T → Option Opd} {a : AF} {ρ : Rho} : eB f a ρ = kB f (a ρ) := by simp only [eB]; rcases a ρ with _ | ⟨os, ρ1⟩; rfl; (show (trees ρ1 os).bind _ = kB1 f ρ1 (trees ρ1 os)); cases trees ρ1 os with | none => rfl | some ts => (show (f ts).bind _ = kB2 ρ1 (f ts)); cases f ts <;> rfl
theorem e1_v {f : List T → Option Opd} {a : EF} {ρ : Rho} : e1 f a ρ = eB f (aC a aN) ρ := rfl
theorem e2_v {f : List T → Option Opd} {a b : EF} {ρ : Rho} : e2 f a b ρ = eB f (aC a (aC b aN)) ρ := rfl
theorem eVar_v {i : Nat} {ρ : Rho} : eVar i ρ = kVar i ρ ρ[i]? := by unfold eVar kVar; cases h : ρ[i]? with | none => rfl | some s => cases s <;> rfl
theorem eC_v {t : T} {ρ : Rho} : eC t ρ = some (.val t, ρ) := rfl
theorem trees_nil {ρ : Rho} : trees ρ [] = some [] := rfl
theorem trees_cons {ρ : Rho} {o : Opd} {r : List Opd} : trees ρ (o :: r) = kTr1 ρ r (o.tree ρ) := by simp only [trees]; cases o.tree ρ with | none => rfl | some t => (show (trees ρ r).bind _ = kTr2 t (trees ρ r)); cases trees ρ r <;> rfl
theorem tree_val {ρ : Rho} {t : T} : (Opd.val t).tree ρ = some t := rfl
theorem tree_own {ρ : Rho} {t : T} : (Opd.own t).tree ρ = some t := rfl
theorem tree_ot {ρ : Rho} {xs : List (Bool × T)} : (Opd.ot xs).tree ρ = some (.tup (xs.map (·.2))) := rfl
theorem tree_slot {ρ : Rho} {i : Nat} : (Opd.slot i).tree ρ = kTree ρ[i]? := by unfold Opd.tree; dsimp only; cases h : ρ[i]? with | none => rfl | some s => cases s <;> rfl
theorem share_val {ρ : Rho} {t : T} : share (.val t) ρ = some (t, ρ) := rfl
theorem share_own {ρ : Rho} {t : T} : share (.own t) ρ = some (t, ρ) := rfl
theorem share_ot {ρ : Rho} {xs : List (Bool × T)} : share (.ot xs) ρ = some (.tup (xs.map (·.2)), ρ) := rfl
theorem share_slot {ρ : Rho} {i : Nat} : share (.slot i) ρ = kShS i ρ ρ[i]? := by unfold share; dsimp only; cases h : ρ[i]? with | none => rfl | some s => cases s <;> rfl
theorem shareL_nil {ρ : Rho} : shareL [] ρ = some ([], ρ) := rfl
theorem shareL_cons {ρ : Rho} {o : Opd} {r : List Opd} : shareL (o :: r) ρ = kSh1 r (share o ρ) := by simp only [shareL]; rcases share o ρ with _ | ⟨t, ρ1⟩; rfl; (show (shareL r ρ1).bind _ = kSh2 t (shareL r ρ1)); rcases shareL r ρ1 with _ | ⟨ts, ρ2⟩ <;> rfl
theorem opened_v {e : EF} {ρ : Rho} : opened e ρ = kOp (e ρ) := by simp only [opened]; rcases e ρ with _ | ⟨o, ρ1⟩ <;> rfl
theorem readI_v {e : EF} {ρ : Rho} : readI e ρ = kRd (e ρ) := by unfold readI; rcases e ρ with _ | ⟨o, ρ1⟩; rfl; (show (o.tree ρ1).map _ = kT1 ρ1 (o.tree ρ1)); cases o.tree ρ1 <;> rfl
theorem eTup_v {a : AF} {ρ : Rho} : eTup a ρ = kTup1 (a ρ) := by simp only [eTup]; rcases a ρ with _ | ⟨os, ρ1⟩; rfl; (show (shareL os ρ1).bind _ = kTup (shareL os ρ1)); rcases shareL os ρ1 with _ | ⟨ts, ρ2⟩ <;> rfl
theorem eLst_v {a : AF} {ρ : Rho} : eLst a ρ = kLst1 (a ρ) := by simp only [eLst]; rcases a ρ with _ | ⟨os, ρ1⟩; rfl; (show (shareL os ρ1).bind _ = kLst (shareL os ρ1)); rcases shareL os ρ1 with _ | ⟨ts, ρ2⟩ <;> rfl
theorem eOT_v {a : AF} {ρ : Rho} : eOT a ρ = kOT1 (a ρ) := by simp only [eOT]; rcases a ρ with _ | ⟨os, ρ1⟩; rfl; (show (ocm os ρ1).bind _ = kOT (ocm os ρ1)); rcases ocm os ρ1 with _ | ⟨ts, ρ2⟩ <;> rfl
theorem ocm_nil {ρ : Rho} : ocm [] ρ = some ([], ρ) := rfl
theorem ocm_own {ρ : Rho} {t : T} {r : List Opd} : ocm (.own t :: r) ρ = kOc2 true t (ocm r ρ) := by simp only [ocm]; rcases ocm r ρ with _ | ⟨ts, ρ2⟩ <;> rfl
theorem ocm_val {ρ : Rho} {t : T} {r : List Opd} : ocm (.val t :: r) ρ = kOc1 r (share (.val t) ρ) := by simp only [ocm]; rcases share (.val t) ρ with _ | ⟨t, ρ1⟩; rfl; (show (ocm r ρ1).bind _ = kOc2 false t (ocm r ρ1)); rcases ocm r ρ1 with _ | ⟨ts, ρ2⟩ <;> rfl
theorem ocm_slot {ρ : Rho} {i : Nat} {r : List Opd} : ocm (.slot i :: r) ρ = kOc1 r (share (.slot i) ρ) := by simp only [ocm]; rcases share (.slot i) ρ with _ | ⟨t, ρ1⟩; rfl; (show (ocm r ρ1).bind _ = kOc2 false t (ocm r ρ1)); rcases ocm r ρ1 with _ | ⟨ts, ρ2⟩ <;> rfl
theorem eSl_v {f : T → Option Int → Option Int → Option Opd} {e : EF} {l h : OF} {ρ : Rho} : eSl f e l h ρ = kSl f l h (e ρ) := by simp only [eSl]; rcases e ρ with _ | ⟨o, ρ1⟩; rfl; (show (l ρ1).bind _ = kSl1 f o h (l ρ1)); rcases l ρ1 with _ | ⟨x, ρ2⟩; rfl; (show (h ρ2).bind _ = kSl2 f o x (h ρ2)); rcases h ρ2 with _ | ⟨y, ρ3⟩; rfl; (show (o.tree ρ3).bind _ = kSl3 ρ3 f x y (o.tree ρ3)); cases o.tree ρ3 with | none => rfl | some t => (show (f t x y).bind _ = kB2 ρ3 (f t x y)); cases f t x y <;> rfl
theorem oNo_v {ρ : Rho} : oNo ρ = some (none, ρ) := rfl
theorem oSome_v {e : EF} {ρ : Rho} : oSome e ρ = kOS (e ρ) := by simp only [oSome]; rcases e ρ with _ | ⟨o, ρ1⟩; rfl; (show (o.tree ρ1).bind _ = kOS1 ρ1 (o.tree ρ1)); cases o.tree ρ1 with | none => rfl | some t => cases t <;> rfl
theorem eCall_v {F : FF} {a : AF} {ρ : Rho} : eCall F a ρ = kCa F (a ρ) := by simp only [eCall]; rcases a ρ with _ | ⟨os, ρ1⟩; rfl; (show (shareL os ρ1).bind _ = kCa1 F (shareL os ρ1)); rcases shareL os ρ1 with _ | ⟨ts, ρ2⟩; rfl; (show (F (ts.map Sl.val)).bind _ = kCa2 ρ2 (F (ts.map Sl.val))); rcases F (ts.map Sl.val) with _ | ⟨o, _⟩ <;> rfl
theorem eCallL_v {F : FF} {fl : List Bool} {a : AF} {ρ : Rho} : eCallL F fl a ρ = kLe F fl (a ρ) := by simp only [eCallL]; rcases a ρ with _ | ⟨os, ρ1⟩; rfl; (show (mkA fl os ρ1).bind _ = kLe1 F (mkA fl os ρ1)); rcases mkA fl os ρ1 with _ | ⟨gs, ρ2⟩; rfl; (show (fillA ρ2 gs).bind _ = kLe2 F gs ρ2 (fillA ρ2 gs)); cases fillA ρ2 gs with | none => rfl | some as => (dsimp only [kLe2, Option.bind_some]; split; (show (F as).bind _ = kLe3 gs ρ2 (F as)); rcases F as with _ | ⟨o, as2⟩; rfl; (show (backA gs as2 ρ2).bind _ = kLe4 o (backA gs as2 ρ2)); cases backA gs as2 ρ2 <;> rfl; rfl)
theorem eMake_v {c : Nat} {F : FF} {ds : List T} {a : AF} {ρ : Rho} : eMake c F ds a ρ = kMk c F ds (a ρ) := by simp only [eMake]; rcases a ρ with _ | ⟨os, ρ1⟩; rfl; (show (shareL os ρ1).bind _ = kMk0 c F ds (shareL os ρ1)); rcases shareL os ρ1 with _ | ⟨ts, ρ2⟩; rfl; (show (F (Sl.io (.obj c []) :: (ts ++ ds).map Sl.val)).bind _ = kMk1 ρ2 (F (Sl.io (.obj c []) :: (ts ++ ds).map Sl.val))); rcases F (Sl.io (.obj c []) :: (ts ++ ds).map Sl.val) with _ | ⟨o, as2⟩; rfl; (show (as2[0]?).bind _ = kMk2 ρ2 o as2[0]?); cases as2[0]? <;> rfl
theorem eMut_v {T' : String} {g : T → List T → Option (T × T)} {i : Nat} {a : AF} {ρ : Rho} : eMut T' g i a ρ = kMu T' g i a ρ ρ[i]? := by
  simp only [eMut]
  cases ρ[i]? with
  | none => rfl
  | some s0 =>
    show s0.held.bind _ = kMuT T' g i a ρ s0.held
    cases s0.held with
    | none => rfl
    | some t0 =>
      dsimp only [kMuT, Option.bind_some]
      split
      · show (a ρ).bind _ = kMu0 g i (a ρ)
        rcases a ρ with _ | ⟨os, ρ1⟩
        · rfl
        · show (shareL os ρ1).bind _ = kMu1 g i (shareL os ρ1)
          rcases shareL os ρ1 with _ | ⟨ts, ρ2⟩
          · rfl
          · show (ρ2[i]?).bind _ = kMu2 g i ts ρ2 ρ2[i]?
            cases ρ2[i]? with
            | none => rfl
            | some s =>
              show s.held.bind _ = kMu3 g i ts ρ2 s s.held
              cases s.held with
              | none => rfl
              | some t =>
                show (g t ts).bind _ = kMu4 i ρ2 s (g t ts)
                rcases g t ts with _ | ⟨t', u⟩ <;> rfl
      · rfl
theorem eLc_v {it : IF} {s : T → Rho → Option Rho} {tt : BF} {el : EF} {vs : List Nat} {ρ : Rho} : eLc it s tt el vs ρ = kLc s tt el vs (it ρ) := by simp only [eLc]; rcases it ρ with _ | ⟨ts, ρ1⟩; rfl; dsimp only [kLc, Option.bind_eq_bind, Option.bind_some]; split; (show (compF s tt el vs ts (wipeR ρ1 vs)).bind _ = kLc2 (compF s tt el vs ts (wipeR ρ1 vs))); rcases compF s tt el vs ts (wipeR ρ1 vs) with _ | ⟨us, ρ2⟩ <;> rfl; rfl
theorem eLcX_v {en : Bool} {i : Nat} {s : T → Rho → Option Rho} {tt : BF} {el : EF} {vs : List Nat} {ρ : Rho} : eLcX en i s tt el vs ρ = kLX en i s tt el vs ρ ρ[i]? := by
  unfold eLcX
  cases ρ[i]? with
  | none => rfl
  | some s0 =>
    dsimp only [kLX]
    cases s0.held with
    | none => rfl
    | some u =>
      cases u <;> try rfl
      rename_i ts
      dsimp only [kLX1]
      split
      · rcases compF s tt el vs (if en then enumT ts else ts) (wipeR (ρ.set i .no) vs) with _ | ⟨us, ρ2⟩ <;> rfl
      · rfl
theorem iL_v {f : EF} {ρ : Rho} : iL f ρ = kIL (opened f ρ) := by simp only [iL]; rcases opened f ρ with _ | ⟨t, ρ1⟩; rfl; cases t <;> rfl
theorem iT_v {f : EF} {ρ : Rho} : iT f ρ = kIT (opened f ρ) := by simp only [iT]; rcases opened f ρ with _ | ⟨t, ρ1⟩; rfl; cases t <;> rfl
theorem iEn_v {f : EF} {ρ : Rho} : iEn f ρ = kIEn (opened f ρ) := by simp only [iEn]; rcases opened f ρ with _ | ⟨t, ρ1⟩; rfl; cases t <;> rfl
theorem iR1_v {a : AF} {ρ : Rho} : iR1 a ρ = kIR (a ρ) := by simp only [iR1]; rcases a ρ with _ | ⟨os, ρ1⟩; rfl; (show (trees ρ1 os).bind _ = kIR2 ρ1 (trees ρ1 os)); cases trees ρ1 os with | none => rfl | some ts => (unfold kIR2; dsimp only [Option.bind_some]; split <;> split <;> simp_all)
theorem eDyn_v {m : Str} {F : Nat → FF} {e : EF} {ρ : Rho} : eDyn m F e ρ = kDy m F (opened e ρ) := by
  simp only [eDyn]
  rcases opened e ρ with _ | ⟨t, ρ1⟩
  · rfl
  · cases t <;> try rfl
    rename_i c fs
    dsimp only [kDy, Option.bind_eq_bind, Option.bind_some]
    cases List.lookup m fs with
    | some _ => rfl
    | none =>
      show (F c [.val (.obj c fs)]).bind _ = kCa2 ρ1 (F c [.val (.obj c fs)])
      rcases F c [.val (.obj c fs)] with _ | ⟨o, _⟩ <;> rfl
theorem eJs_v {es : List EF} {ρ : Rho} : eJs es ρ = kJs (joinF es Str.empty ρ) := by unfold eJs; rcases joinF es Str.empty ρ with _ | ⟨z, ρ1⟩ <;> rfl
theorem joinF_nil {z : Str} {ρ : Rho} : joinF [] z ρ = some (z, ρ) := rfl
theorem joinF_cons {e : EF} {es : List EF} {z : Str} {ρ : Rho} : joinF (e :: es) z ρ = kJ1 es z (e ρ) := by simp only [joinF]; rcases e ρ with _ | ⟨o, ρ1⟩; rfl; (show (o.tree ρ1).bind _ = kJ2 es z ρ1 (o.tree ρ1)); cases o.tree ρ1 with | none => rfl | some t => cases t <;> rfl
theorem eFmt_v {e : EF} {ρ : Rho} : eFmt e ρ = eB fFmt (aC e aN) ρ := rfl
theorem eFld_v {f : Str} {e : EF} {ρ : Rho} : eFld f e ρ = eB (fFld f) (aC e aN) ρ := rfl
theorem eJoin_v {a : Str} {e : EF} {ρ : Rho} : eJoin a e ρ = kJn a (e ρ) := by simp only [eJoin]; rcases e ρ with _ | ⟨o, ρ1⟩; rfl; (show (o.tree ρ1).bind _ = kJn1 a ρ1 (o.tree ρ1)); cases o.tree ρ1 with | none => rfl | some t => (show (fJoin a t).bind _ = kB2 ρ1 (fJoin a t)); cases fJoin a t <;> rfl
theorem eDNew_v {ρ : Rho} : eDNew ρ = some (.own (.dct []), ρ) := rfl
theorem runF_v {k n : Nat} {B : SF} {as : List Sl} : runF k n B as = if as.length = k then kRun (B (as ++ List.replicate (n - k) .no)) else none := by unfold runF; split; cases B (as ++ List.replicate (n - k) .no) <;> rfl; rfl
theorem loopF_nil {s : T → Rho → Option Rho} {b : SF} {ρ : Rho} : loopF s b [] ρ = .nx ρ := rfl
theorem fFld_v {f : Str} {c : Nat} {fs : List (Str × T)} : fFld f [.obj c fs] = (fs.lookup f).map .val := rfl
end QT

set_option Elab.async false
set_option linter.all false
set_option maxRecDepth 100000
set_option maxHeartbeats 4000000
/-! Own layer: more mirrors run step by step (printed by mkqv2.py). -/
namespace QT
open PySem PySem.Spec PyProof.Rows L2 QB

def kDn3 (F : Nat → FF) (ds : List T) (c : Nat) (fs : List (Str × T)) : Option (List T × Rho) → Option (Opd × Rho)
  | some (ts, ρ3) => kCa2 ρ3 (F c ((.obj c fs :: (ts ++ ds)).map Sl.val))
  | none => none
def kDn2 (F : Nat → FF) (ds : List T) (c : Nat) (fs : List (Str × T)) : Option (List Opd × Rho) → Option (Opd × Rho)
  | some (os, ρ2) => kDn3 F ds c fs (shareL os ρ2)
  | none => none
def kDn1 (F : Nat → FF) (ds : List T) (a : AF) (ρ : Rho) (c : Nat) (fs : List (Str × T)) : Option T → Option (Opd × Rho)
  | none => kDn2 F ds c fs (a ρ)
  | some _ => none
def kDn (m : Str) (F : Nat → FF) (ds : List T) (a : AF) : Option (T × Rho) → Option (Opd × Rho)
  | some (.obj c fs, ρ1) => kDn1 F ds a ρ1 c fs (fs.lookup m)
  | _ => none
def kEo1 (F : Nat → FF) : Option (List T × Rho) → Option (Opd × Rho)
  | some ([.obj c fs, .obj d gs], ρ2) => kCa2 ρ2 (F c [.val (.obj c fs), .val (.obj d gs)])
  | _ => none
def kEo (F : Nat → FF) : Option (List Opd × Rho) → Option (Opd × Rho)
  | some (os, ρ1) => kEo1 F (shareL os ρ1)
  | none => none
def kSs2 (ρ : Rho) : Option (List Str) → Option (Opd × Rho)
  | some xs => if xs.length + 1 < scanBound ∧ (sortU xs).length < 64 then some (.own (.lst ((sortU xs).map .str)), ρ) else none
  | none => none
def kSs1 (ρ : Rho) : Option T → Option (Opd × Rho)
  | some t => kSs2 ρ (t.items.bind strL)
  | none => none
def kSs : Option (Opd × Rho) → Option (Opd × Rho)
  | some (o, ρ1) => kSs1 ρ1 (o.tree ρ1)
  | none => none
def kSc2 (ρ : Rho) : Option (List Str) → Option (Opd × Rho)
  | some xs => if (sortU xs).length < 64 then some (.own (.lst ((sortU xs).map .str)), ρ) else none
  | none => none
def kSc1 : Option (List T × Rho) → Option (Opd × Rho)
  | some (us, ρ2) => kSc2 ρ2 (strL us)
  | none => none
def kSc (s : T → Rho → Option Rho) (tt : BF) (el : EF) (vs : List Nat) : Option (List T × Rho) → Option (Opd × Rho)
  | some (ts, ρ1) => if ts.length < sizeLine ∧ ts.length + 1 < scanBound then kSc1 (compF s tt el vs ts (wipeR ρ1 vs)) else none
  | none => none
def kFi1 (s : T → Rho → Option Rho) (b : SF) (ρ : Rho) : Option T → Out
  | some (.dct kvs) => loopF s b (kvs.map pairT) ρ
  | _ => .fail
def kFi (f : Str) (s : T → Rho → Option Rho) (b : SF) (ρ : Rho) : Option T → Out
  | some (.obj _ fs) => kFi1 s b ρ (fs.lookup f)
  | _ => .fail
def kMl4 (t : T) : Option Rho → Option (Opd × Rho)
  | some ρ3 => some (.own t, ρ3)
  | none => none
def kMl3 (gs : List Ag) (ρ : Rho) : Option (Opd × List Sl) → Option (Opd × Rho)
  | some (.val .non, Sl.io t' :: r) => kMl4 t' (backA gs r ρ)
  | _ => none
def kMl2 (c : Nat) (F : FF) (gs : List Ag) (ρ : Rho) : Option (List Sl) → Option (Opd × Rho)
  | some as => if (lentA gs).Nodup then kMl3 gs ρ (F (Sl.io (.obj c []) :: as)) else none
  | none => none
def kMl1 (c : Nat) (F : FF) : Option (List Ag × Rho) → Option (Opd × Rho)
  | some (gs, ρ2) => kMl2 c F gs ρ2 (fillA ρ2 gs)
  | none => none
def kMl (c : Nat) (F : FF) (fl : List Bool) : Option (List Opd × Rho) → Option (Opd × Rho)
  | some (os, ρ1) => kMl1 c F (mkA fl os ρ1)
  | none => none
def kIEnT : Option (T × Rho) → Option (List T × Rho)
  | some (.tup ts, ρ1) => some (enumT ts, ρ1)
  | _ => none
theorem eDynN_v {m : Str} {F : Nat → FF} {ds : List T} {e : EF} {a : AF} {ρ : Rho} : eDynN m F ds e a ρ = kDn m F ds a (opened e ρ) := by
  simp only [eDynN]
  rcases opened e ρ with _ | ⟨t, ρ1⟩
  · rfl
  · cases t <;> try rfl
    rename_i c fs
    dsimp only [kDn, Option.bind_eq_bind, Option.bind_some]
    cases List.lookup m fs with
    | some _ => rfl
    | none =>
      show (a ρ1).bind _ = kDn2 F ds c fs (a ρ1)
      rcases a ρ1 with _ | ⟨os, ρ2⟩
      · rfl
      · show (shareL os ρ2).bind _ = kDn3 F ds c fs (shareL os ρ2)
        rcases shareL os ρ2 with _ | ⟨ts, ρ3⟩
        · rfl
        · show (F c ((.obj c fs :: (ts ++ ds)).map Sl.val)).bind _ = kCa2 ρ3 (F c ((.obj c fs :: (ts ++ ds)).map Sl.val))
          generalize F c ((T.obj c fs :: (ts ++ ds)).map Sl.val) = z
          rcases z with _ | ⟨o, _⟩ <;> rfl
theorem eEqO_v {F : Nat → FF} {a b : EF} {ρ : Rho} : eEqO F a b ρ = kEo F (aC a (aC b aN) ρ) := by
  simp only [eEqO]
  rcases aC a (aC b aN) ρ with _ | ⟨os, ρ1⟩
  · rfl
  · show (shareL os ρ1).bind _ = kEo1 F (shareL os ρ1)
    rcases shareL os ρ1 with _ | ⟨ts, ρ2⟩
    · rfl
    · dsimp only [Option.bind_some]
      unfold kEo1
      split
      · rename_i c fs d gs
        dsimp only
        show (F c [.val (.obj c fs), .val (.obj d gs)]).bind _ = kCa2 ρ2 (F c [.val (.obj c fs), .val (.obj d gs)])
        rcases F c [.val (.obj c fs), .val (.obj d gs)] with _ | ⟨o, _⟩ <;> rfl
      · split
        · rename_i heq
          simp only [Option.some.injEq, Prod.mk.injEq] at heq
          simp_all
          rename_i hh
          exact absurd rfl (hh _ _ _ _ rfl rfl rfl)
        · rfl
theorem eSortSet_v {e : EF} {ρ : Rho} : eSortSet e ρ = kSs (e ρ) := by
  simp only [eSortSet]
  rcases e ρ with _ | ⟨o, ρ1⟩
  · rfl
  · show (o.tree ρ1).bind _ = kSs1 ρ1 (o.tree ρ1)
    cases o.tree ρ1 with
    | none => rfl
    | some t =>
      show t.items.bind _ = kSs2 ρ1 (t.items.bind strL)
      cases t.items with
      | none => rfl
      | some ts =>
        show (strL ts).bind _ = kSs2 ρ1 (strL ts)
        cases strL ts <;> rfl
theorem eSortSc_v {it : IF} {s : T → Rho → Option Rho} {tt : BF} {el : EF} {vs : List Nat} {ρ : Rho} : eSortSc it s tt el vs ρ = kSc s tt el vs (it ρ) := by
  simp only [eSortSc]
  rcases it ρ with _ | ⟨ts, ρ1⟩
  · rfl
  · dsimp only [kSc, Option.bind_eq_bind, Option.bind_some]
    split
    · show (compF s tt el vs ts (wipeR ρ1 vs)).bind _ = kSc1 (compF s tt el vs ts (wipeR ρ1 vs))
      rcases compF s tt el vs ts (wipeR ρ1 vs) with _ | ⟨us, ρ2⟩
      · rfl
      · show (strL us).bind _ = kSc2 ρ2 (strL us)
        cases strL us <;> rfl
    · rfl
theorem sForItF_v {i : Nat} {f : Str} {s : T → Rho → Option Rho} {b : SF} {ρ : Rho} : sForItF i f s b ρ = kFi f s b ρ ((Opd.slot i).tree ρ) := by
  unfold sForItF
  cases (Opd.slot i).tree ρ with
  | none => rfl
  | some t =>
    cases t with
    | obj c fs =>
      show _ = kFi1 s b ρ (fs.lookup f)
      dsimp only
      cases List.lookup f fs with
      | none => rfl
      | some u => cases u <;> rfl
    | _ => rfl
theorem eMakeL_v {c : Nat} {F : FF} {fl : List Bool} {a : AF} {ρ : Rho} : eMakeL c F fl a ρ = kMl c F fl (a ρ) := by
  simp only [eMakeL]
  rcases a ρ with _ | ⟨os, ρ1⟩
  · rfl
  · show (mkA fl os ρ1).bind _ = kMl1 c F (mkA fl os ρ1)
    rcases mkA fl os ρ1 with _ | ⟨gs, ρ2⟩
    · rfl
    · show (fillA ρ2 gs).bind _ = kMl2 c F gs ρ2 (fillA ρ2 gs)
      cases fillA ρ2 gs with
      | none => rfl
      | some as =>
        dsimp only [kMl2, Option.bind_some]
        split
        · show (F (Sl.io (.obj c []) :: as)).bind _ = kMl3 gs ρ2 (F (Sl.io (.obj c []) :: as))
          rcases F (Sl.io (.obj c []) :: as) with _ | ⟨o, as2⟩
          · rfl
          · dsimp only [Option.bind_some]
            unfold kMl3
            split
            · rename_i t' r
              dsimp only
              cases backA gs r ρ2 <;> rfl
            · split
              · rename_i heq
                simp only [Option.some.injEq, Prod.mk.injEq] at heq
                simp_all
              · rfl
        · rfl
theorem iEnT_v {f : EF} {ρ : Rho} : iEnT f ρ = kIEnT (opened f ρ) := by simp only [iEnT]; rcases opened f ρ with _ | ⟨t, ρ1⟩; rfl; cases t <;> rfl
theorem fCat_v {xs ys : List T} : fCat [.lst xs, .lst ys] = if xs.length + ys.length ≤ sizeLine then some (.own (.lst (xs ++ ys))) else none := rfl
theorem gExtend_v {xs ys : List T} : gExtend (.lst xs) [.lst ys] = if xs.length + ys.length ≤ sizeLine then some (.lst (xs ++ ys), .non) else none := rfl
theorem fIsN_v {t : T} {b : Bool} : fIsN b [t, .non] = some (.val (.bl (if b then !t.isN else t.isN))) := rfl
end QT

set_option Elab.async false
set_option linter.all false
set_option maxRecDepth 100000
set_option maxHeartbeats 4000000
/-! Own layer: what repr needs of data, in one predicate; texts in lists and tuples; lists walked with their places. -/
namespace QT
open PySem PySem.Spec PyProof.Rows L2 QB
/-- data that repr shows in at most s signs -/
def Rs (d s : Nat) (t : T) : Prop := ∃ x, t.dat = some x ∧ x.showable = true ∧ x.hasDict = false ∧ x.depth ≤ d ∧ x.shown.length ≤ s
theorem Rs.mono {d d' s s' : Nat} {t : T} (h : Rs d s t) (h1 : d ≤ d') (h2 : s ≤ s') : Rs d' s' t := by
  obtain ⟨x, a, b, c, e, f⟩ := h
  exact ⟨x, a, b, c, by omega, by omega⟩
theorem rs_non : Rs 0 4 .non := ⟨.none, rfl, rfl, rfl, by simp [PyData.depth], by decide⟩
theorem rs_bl {b : Bool} : Rs 0 5 (.bl b) := ⟨.bool b, rfl, rfl, rfl, by simp [PyData.depth], by cases b <;> decide⟩
theorem log_of {i : Int} (h : i.natAbs < 10 ^ 18) : i.natAbs.log2 < 1920 := by
  by_cases h0 : i.natAbs = 0
  · rw [h0]; decide
  · rw [Nat.log2_lt h0]
    refine Nat.lt_of_lt_of_le h ?_
    exact Nat.le_trans (by decide : 10 ^ 18 ≤ 2 ^ 60) (Nat.pow_le_pow_right (by decide) (by decide))
theorem itx_len {i : Int} (h : i.natAbs < 10 ^ 18) : (Str.ofString (toString i)).length ≤ 19 := by
  have := int_text_length_le10 (k := 18) (by decide) h
  rw [PySem.ofString_length]
  exact this
theorem rs_int {i : Int} (h : i.natAbs < 10 ^ 18) : Rs 0 19 (.int i) := ⟨.int i, rfl, by simp only [PyData.showable]; exact decide_eq_true (log_of h), rfl, by simp [PyData.depth], itx_len h⟩
theorem rs_str {x : Str} {n : Nat} (h : PyData.strOk x = true) (hl : x.length ≤ n) : Rs 0 (10 * n + 2) (.str x) := by
  refine ⟨.str x, rfl, rfl, rfl, by simp [PyData.depth], ?_⟩
  have h2 : ∀ c ∈ x.cps.toList, c < 16 ^ 8 := fun c hc => by
    have := Array.all_eq_true_iff_forall_mem.mp h c (Array.mem_toList_iff.mp hc)
    simp at this
    omega
  have := StrLaws.reprText_len x h2
  simp only [PyData.shown]
  omega
theorem rs_list {d s : Nat} : ∀ {ts : List T}, (∀ t ∈ ts, Rs d s t) → ∃ ds, datL ts = some ds ∧ PyData.showableAll ds = true ∧ PyData.hasDictAll ds = false ∧ PyData.depthAll ds ≤ d ∧ (PyData.shownAll ds).length = ts.length ∧ ((PyData.shownAll ds).map (·.length)).sum ≤ ts.length * s
  | [], _ => ⟨[], rfl, rfl, rfl, by simp [PyData.depthAll], rfl, by simp [PyData.shownAll]⟩
  | t :: r, h => by
    obtain ⟨x, a, b, c, e, f⟩ := h t (by simp)
    obtain ⟨ds, a2, b2, c2, e2, f2, g2⟩ := rs_list (ts := r) (fun u hu => h u (by simp [hu]))
    refine ⟨x :: ds, by simp only [datL, a, a2, Option.bind_some], by simp only [PyData.showableAll, b, b2, Bool.and_self], by simp only [PyData.hasDictAll, c, c2, Bool.or_self], by simp only [PyData.depthAll]; omega, by simp only [PyData.shownAll, List.length_cons, f2], ?_⟩
    simp only [PyData.shownAll, List.map_cons, List.sum_cons, List.length_cons, Nat.succ_mul]
    omega
theorem rs_lst {d s k : Nat} {ts : List T} (h : ∀ t ∈ ts, Rs d s t) (hk : ts.length ≤ k) : Rs (d + 1) (k * (s + 2) + 3) (.lst ts) := by
  obtain ⟨ds, a, b, c, e, f, g⟩ := rs_list h
  refine ⟨.list ds, by simp only [T.dat, a, Option.map_some], by simp only [PyData.showable, b], by simp only [PyData.hasDict, c], by simp only [PyData.depth]; omega, ?_⟩
  simp only [PyData.shown]
  have h1 := listText_len_le (PyData.shownAll ds)
  rw [f] at h1
  have h2 : ts.length * (s + 2) ≤ k * (s + 2) := Nat.mul_le_mul_right _ hk
  rw [Nat.mul_add] at h2
  omega
theorem rs_tup {d s k : Nat} {ts : List T} (h : ∀ t ∈ ts, Rs d s t) (hk : ts.length ≤ k) : Rs (d + 1) (k * (s + 2) + 3) (.tup ts) := by
  obtain ⟨ds, a, b, c, e, f, g⟩ := rs_list h
  refine ⟨.tuple ds, by simp only [T.dat, a, Option.map_some], by simp only [PyData.showable, b], by simp only [PyData.hasDict, c], by simp only [PyData.depth]; omega, ?_⟩
  simp only [PyData.shown]
  have h1 := tupleText_len_le (PyData.shownAll ds)
  rw [f] at h1
  have h2 : ts.length * (s + 2) ≤ k * (s + 2) := Nat.mul_le_mul_right _ hk
  rw [Nat.mul_add] at h2
  omega
theorem rs_repr {d s : Nat} {t : T} (h : Rs d s t) (hd : d ≤ 63) (hs : s ≤ 16777216) : ∃ z, fReprV [t] = some (.val (.str z)) := by
  obtain ⟨x, a, b, c, e, f⟩ := h
  cases t with
  | non => exact ⟨_, rfl⟩
  | bl b => exact ⟨_, rfl⟩
  | int i =>
    simp only [T.dat, Option.some.injEq] at a
    subst a
    simp only [PyData.showable, decide_eq_true_eq] at b
    exact ⟨_, if_pos b⟩
  | str y =>
    simp only [T.dat, Option.some.injEq] at a
    subst a
    simp only [PyData.shown] at f
    exact ⟨_, if_pos (by rw [sizeLine_eq]; omega)⟩
  | lst xs =>
    refine ⟨x.shown, ?_⟩
    show fRepr [.lst xs] = _
    simp only [fRepr, a, Option.bind_some]
    rw [if_pos ⟨b, c, by omega, by rw [sizeLine_eq]; omega⟩]
  | tup xs =>
    refine ⟨x.shown, ?_⟩
    show fRepr [.tup xs] = _
    simp only [fRepr, a, Option.bind_some]
    rw [if_pos ⟨b, c, by omega, by rw [sizeLine_eq]; omega⟩]
  | _ => simp [T.dat] at a
theorem fvs_strs : ∀ l : List Str, fvs (l.map T.str) = some (l.map V.str)
  | [] => rfl
  | a :: r => by simp only [List.map_cons, fvs, T.fv, fvs_strs r, Option.bind_some]
theorem inV_strs {x : Str} (ns : List Str) : inV (.str x) (ns.map V.str) = decide (x ∈ ns) := by
  unfold inV
  induction ns with
  | nil => rfl
  | cons y r ih =>
    rw [List.map_cons, List.any_cons, ih]
    have : eqV (.str y) (.str x) = decide (y = x) := by
      simp [eqV]
      by_cases h : y = x <;> simp [h]
    rw [this]
    by_cases h : x = y
    · subst h; simp
    · have h' : ¬ y = x := fun e => h e.symm
      simp [h, h']
theorem fIn_L {b : Bool} {x : Str} {xs : List Str} : fIn b [.str x, .lst (xs.map .str)] = some (.val (.bl (if b then !decide (x ∈ xs) else decide (x ∈ xs)))) := by
  simp only [fIn, T.fv, T.items, Option.bind_some, fvs_strs, inV_strs]
theorem fIn_T {b : Bool} {x : Str} {xs : List Str} : fIn b [.str x, .tup (xs.map .str)] = some (.val (.bl (if b then !decide (x ∈ xs) else decide (x ∈ xs)))) := by
  simp only [fIn, T.fv, T.items, Option.bind_some, fvs_strs, inV_strs]
/-- a list with its places, from k on -/
def enF : Nat → List T → List T
  | _, [] => []
  | k, t :: r => .tup [.int (k : Int), t] :: enF (k + 1) r
theorem enF_get : ∀ {ts : List T} {k i : Nat}, (enF k ts)[i]? = ts[i]?.map fun t => .tup [.int ((k + i : Nat) : Int), t]
  | [], _, _ => by simp [enF]
  | t :: r, k, 0 => by simp [enF]
  | t :: r, k, i + 1 => by
    simp only [enF, List.getElem?_cons_succ]
    rw [enF_get (ts := r), show k + 1 + i = k + (i + 1) by omega]
theorem enumT_enF {ts : List T} : enumT ts = enF 0 ts := by
  apply List.ext_getElem?
  intro i
  rw [enF_get]
  unfold enumT
  rw [List.getElem?_map]
  by_cases hi : i < ts.length
  · rw [List.getElem?_range hi, List.getElem?_eq_getElem hi]
    simp [List.getD_eq_getElem?_getD, List.getElem?_eq_getElem hi]
  · rw [List.getElem?_eq_none (by simp; omega), List.getElem?_eq_none (by omega)]
    rfl
theorem sortU_len : ∀ {xs : List Str}, (sortU xs).length ≤ xs.length
  | [] => Nat.le_refl _
  | x :: r => by
    have ins : ∀ {l : List Str}, (insU x l).length ≤ l.length + 1 := fun {l} => by
      induction l with
      | nil => simp [insU]
      | cons y s ih =>
        unfold insU
        split
        · simp
        · split
          · simp
          · simp only [List.length_cons]; omega
    have := sortU_len (xs := r)
    have := ins (l := sortU r)
    show (insU x (sortU r)).length ≤ _
    simp only [List.length_cons]
    omega
/-- an operand that is read as the tree t, whoever reads it -/
def Shr (o : Opd) (t : T) : Prop := (∀ ρ, share o ρ = some (t, ρ)) ∧ (∀ ρ, o.tree ρ = some t) ∧ ∀ i ρ, put1 i o ρ = some (ρ.set i (.val t))
end QT

set_option Elab.async false
set_option linter.all false
set_option maxRecDepth 100000
set_option maxHeartbeats 4000000
/-! The law k16 in plain Lean: blocks, the order of first blocks. -/
namespace Fo
open PySem PySem.Spec PyProof.Rows L2
inductive Kd where
  | tell | first | member | edition
  deriving DecidableEq
inductive Bk where
  | fst (n : Str) (af : List Str) | mem (n : Str)
  deriving DecidableEq
def rdy (taken af : List Str) : Bool := af.all (fun n => decide (n ∈ taken))
def fo : Nat → List (Str × List Str) → List Str → List Str
  | 0, _, t => t
  | k + 1, l, t => match l.findIdx? (fun b => rdy t b.2) with
    | none => t
    | some i => match l[i]? with
      | none => t
      | some b => fo k (l.eraseIdx i) (t ++ [b.1])
def firsts : List Bk → List (Str × List Str)
  | [] => []
  | .fst n af :: r => (n, af) :: firsts r
  | .mem _ :: r => firsts r
def Bk.isFst : Bk → Bool
  | .fst _ _ => true
  | .mem _ => false
theorem ll0 : (Str.ofString "first ").length = 6 := by decide
theorem ll1 : (Str.ofString "routine ").length = 8 := by decide
theorem ll2 : (Str.ofString " at ").length = 4 := by decide
theorem ll3 : (Str.ofString " default").length = 8 := by decide
theorem ll4 : (Str.ofString " after ").length = 7 := by decide
theorem ll5 : (Str.ofString " ").length = 1 := by decide
theorem ll6 : (Str.ofString "abcdefghijklmnopqrstuvwxyz").length = 26 := by decide
theorem ll7 : (Str.ofString "abcdefghijklmnopqrstuvwxyz0123456789").length = 36 := by decide
theorem lle : Str.empty.length = 0 := rfl
theorem itST {A B : Prop} {x : Str} (q : A) : if decide (V.str x = V.str x) = true then A else B := by rw [if_pos (decide_eq_true rfl)]; exact q
theorem itSF {A B : Prop} {x y : Str} (h : x ≠ y) (q : B) : if decide (V.str x = V.str y) = true then A else B := by rw [if_neg (by simp [h])]; exact q
/-! names -/
def Nm (n : Str) : Prop := n.length ≤ 1000 ∧ PyData.strOk n = true
theorem sk_app {a b : Str} (h1 : PyData.strOk a = true) (h2 : PyData.strOk b = true) : PyData.strOk (a ++ b) = true := by
  unfold PyData.strOk at h1 h2 ⊢
  rw [Str.cps_append, Array.all_append, h1, h2]
  rfl
theorem ch {z : Str} {i : Int} (h : PyData.strOk z = true) (h0 : 0 ≤ i) (h1 : i < z.length) : ∃ c, atI z.cps.toList i = some c ∧ PyData.strOk ⟨#[c]⟩ = true := by
  have hl : i.toNat < z.cps.toList.length := by
    have : z.length = z.cps.size := rfl
    rw [Array.length_toList]
    omega
  have hat : atI z.cps.toList i = some z.cps.toList[i.toNat] := by
    unfold atI ixN
    rw [if_pos h0, if_pos (by omega)]
    exact List.getElem?_eq_getElem hl
  refine ⟨z.cps.toList[i.toNat], hat, ?_⟩
  have h2 : ∀ x ∈ z.cps, x < 0x110000 := by
    intro x hx
    have := Array.all_eq_true_iff_forall_mem.mp h x hx
    simpa using this
  have h3 := h2 _ (Array.mem_toList_iff.mp (List.getElem_mem hl))
  simp [PyData.strOk]
  simpa using h3
theorem sk_join {sep : Str} (h : PyData.strOk sep = true) : ∀ {ss : List Str}, (∀ s ∈ ss, PyData.strOk s = true) → PyData.strOk (Str.join sep ss) = true
  | [], _ => (by decide +kernel : PyData.strOk Str.empty = true)
  | [x], hs => hs x List.mem_cons_self
  | x :: y :: r, hs => by
    show PyData.strOk (x ++ sep ++ Str.join sep (y :: r)) = true
    exact sk_app (sk_app (hs x List.mem_cons_self) h) (sk_join h fun s h' => hs s (List.mem_cons_of_mem _ h'))
theorem sum_le {ss : List Str} {k : Nat} (h : ∀ s ∈ ss, s.length ≤ k) : (ss.map (·.length)).sum ≤ ss.length * k := by
  induction ss with
  | nil => simp
  | cons a r ih =>
    simp only [List.map_cons, List.sum_cons, List.length_cons, Nat.succ_mul]
    have h1 := h a List.mem_cons_self
    have h2 := ih fun s hs => h s (List.mem_cons_of_mem _ hs)
    omega
theorem join_nm {ss : List Str} (h : ∀ s ∈ ss, s.length ≤ 1 ∧ PyData.strOk s = true) (hl : ss.length ≤ 20) : (Txt.join (Str.ofString "") ss).length ≤ 20 ∧ PyData.strOk (Txt.join (Str.ofString "") ss) = true := by
  have e : Txt.join (Str.ofString "") ss = Str.join (Str.ofString "") ss := StrLaws.glued_eq_join _ _
  rw [e]
  refine ⟨?_, sk_join (by decide +kernel) fun s hs => (h s hs).2⟩
  have h1 := StrLaws.join_length_le (Str.ofString "") ss
  have h2 := sum_le (k := 1) fun s hs => (h s hs).1
  have h3 : (Str.ofString "").length = 0 := by decide
  rw [h3] at h1
  omega
def onS (g : Str → Str) : V → Option V := fun x => match x with | .str o => some (.str (g o)) | _ => none
theorem fm_str (g : Str → Str) : ∀ os : List Str, (os.map V.str).filterMap (onS g) = (os.map g).map V.str
  | [] => rfl
  | a :: r => by
    show V.str (g a) :: (List.filterMap (onS g) (r.map V.str)) = _
    rw [fm_str g r]
    rfl
/-! where they stand -/
section
variable {K : PySem.W.Frag} {A : Kd → Addr} {H H' : Hp}
def BkAt (A : Kd → Addr) (H : Hp) (o : Addr) : Bk → Prop
  | .fst n af => ∃ dx t r, H o = some (.ins (A .first) dx [("name", .str n), ("after", .ref t), ("rows", .ref r)]) ∧ H t = some (.tup (af.map V.str))
  | .mem n => ∃ dx r, H o = some (.ins (A .member) dx [("name", .str n), ("access", .str "open"), ("tag", .int 0), ("is_default", .bl false), ("rows", .ref r)])
def Bk.kd : Bk → Kd
  | .fst _ _ => .first
  | .mem _ => .member
def Bk.head : Bk → Str
  | .fst n af => if af = [] then "first " ++ n else "first " ++ n ++ " after " ++ Txt.join " " af
  | .mem n => "routine " ++ n ++ " " ++ "open"
def Bk.ok : Bk → Prop
  | .fst n af => Nm n ∧ af.length ≤ 3 ∧ ∀ a ∈ af, Nm a
  | .mem n => Nm n
theorem BkAt.mono {o : Addr} {b : Bk} (s : Same H H') (h : BkAt A H o b) : BkAt A H' o b := by
  cases b with
  | fst n af => obtain ⟨dx, t, r, h1, h2⟩ := h; exact ⟨dx, t, r, s _ _ h1, s _ _ h2⟩
  | mem n => obtain ⟨dx, r, h1⟩ := h; exact ⟨dx, r, s _ _ h1⟩
theorem bks_mono (s : Same H H') : ∀ {os : List Addr} {bs : List Bk}, Paired (BkAt A H) os bs → Paired (BkAt A H') os bs
  | _, _, .nil => .nil
  | _, _, .cons a b => .cons (a.mono s) (bks_mono s b)
theorem BkAt.fr {o x : Addr} {b : Bk} {C dx : Addr} (ho : H o = some (.ins C dx [])) (f : QB.Fr o H H') (h : BkAt A H x b) : BkAt A H' x b := by
  have ne : ∀ {y : Addr} {u : HO}, H y = some u → (∀ C' dx', u ≠ .ins C' dx' []) → H' y = some u := fun {y u} e n => f y u (fun e2 => by subst e2; rw [ho] at e; cases e; exact n _ _ rfl) e
  cases b with
  | fst n af => obtain ⟨dx, t, r, h1, h2⟩ := h; exact ⟨dx, t, r, ne h1 (by simp), ne h2 (by simp)⟩
  | mem n => obtain ⟨dx, r, h1⟩ := h; exact ⟨dx, r, ne h1 (by simp)⟩
theorem BkAt.ins {o : Addr} {b : Bk} (h : BkAt A H o b) : ∃ dx fs, H o = some (.ins (A b.kd) dx fs) ∧ fs.lookup ("head" : Str) = none := by
  cases b with
  | fst n af => obtain ⟨dx, t, r, h1, h2⟩ := h; exact ⟨dx, _, h1, rfl⟩
  | mem n => obtain ⟨dx, r, h1⟩ := h; exact ⟨dx, _, h1, rfl⟩
/-- the addresses of the blocks that p takes -/
def pickP (p : Bk → Bool) : List Addr → List Bk → List Addr
  | o :: os, b :: bs => if p b then o :: pickP p os bs else pickP p os bs
  | _, _ => []
abbrev pick : List Addr → List Bk → List Addr := pickP Bk.isFst
theorem pick_ok {p : Bk → Bool} : ∀ {os : List Addr} {bs : List Bk}, Paired (BkAt A H) os bs → Paired (BkAt A H) (pickP p os bs) (bs.filter p)
  | _, _, .nil => .nil
  | _, _, .cons (a := o) (b := b) a r => by
    unfold pickP
    rw [List.filter_cons]
    by_cases h : p b = true
    · rw [if_pos h, if_pos h]; exact .cons a (pick_ok r)
    · rw [if_neg h, if_neg h]; exact pick_ok r
theorem pick_snoc {p : Bk → Bool} : ∀ (os : List Addr) (bs : List Bk) (o : Addr) (b : Bk), os.length = bs.length → pickP p (os ++ [o]) (bs ++ [b]) = pickP p os bs ++ (if p b then [o] else [])
  | [], [], o, b, _ => by cases h : p b <;> simp [pickP, h]
  | x :: os, y :: bs, o, b, h => by
    have ih := pick_snoc (p := p) os bs o b (by simpa using h)
    show pickP p (x :: (os ++ [o])) (y :: (bs ++ [b])) = _
    unfold pickP
    rw [ih]
    split <;> simp
  | [], _ :: _, _, _, h => by simp at h
  | _ :: _, [], _, _, h => by simp at h
theorem pick_take {p : Bk → Bool} {os : List Addr} {bs : List Bk} {i : Nat} {o : Addr} {b : Bk} (h1 : os[i]? = some o) (h2 : bs[i]? = some b) (hl : os.length = bs.length) : pickP p (os.take (i + 1)) (bs.take (i + 1)) = pickP p (os.take i) (bs.take i) ++ (if p b then [o] else []) := by
  rw [List.take_add_one, List.take_add_one, h1, h2]
  exact pick_snoc _ _ _ _ (by simp [hl])
end
theorem in_strs (x : Str) (ns : List Str) : inV (.str x) (ns.map V.str) = decide (x ∈ ns) := by
  unfold inV
  induction ns with
  | nil => rfl
  | cons y r ih =>
    rw [List.map_cons, List.any_cons, ih]
    have : eqV (.str y) (.str x) = decide (y = x) := by
      simp [eqV]
      by_cases h : y = x <;> simp [h]
    rw [this]
    by_cases h : x = y
    · subst h; simp
    · have h' : ¬ y = x := fun e => h e.symm
      simp [h, h']
theorem flat_strs : ∀ ns : List Str, (ns.map V.str).all flatV = true
  | [] => rfl
  | y :: r => by rw [List.map_cons, List.all_cons, flat_strs r]; rfl
section
variable {K : PySem.W.Frag} {H : Hp} {Q : VK} {p : Addr} {ns : List Str} {x : Str}
theorem inSL (hp : SqL K H p (ns.map V.str)) (h : Q (.bl (decide (x ∈ ns))) H) : rIn K false (.str x) (.ref p) H Q := ⟨p, _, rfl, .inl hp, rfl, flat_strs ns, by rw [in_strs]; exact h⟩
theorem niSL (hp : SqL K H p (ns.map V.str)) (h : Q (.bl (!decide (x ∈ ns))) H) : rIn K true (.str x) (.ref p) H Q := ⟨p, _, rfl, .inl hp, rfl, flat_strs ns, by rw [in_strs]; exact h⟩
theorem inST (hp : SqT K H p (ns.map V.str)) (h : Q (.bl (decide (x ∈ ns))) H) : rIn K false (.str x) (.ref p) H Q := ⟨p, _, rfl, .inr hp, rfl, flat_strs ns, by rw [in_strs]; exact h⟩
theorem niST (hp : SqT K H p (ns.map V.str)) (h : Q (.bl (!decide (x ∈ ns))) H) : rIn K true (.str x) (.ref p) H Q := ⟨p, _, rfl, .inr hp, rfl, flat_strs ns, by rw [in_strs]; exact h⟩
theorem popat {l : Addr} {xs : List V} {i : Int} {k : Nat} {y : V} (hl : H l = some (.lst xs)) (h1 : i = (k : Int)) (h2 : xs[k]? = some y) (hk : k < 2 ^ 62) (h : Q y (upd H l (.lst (xs.eraseIdx k)))) : rPopAt (.ref l) [.int i] H Q := by
  subst h1
  refine ⟨l, xs, k, k, y, rfl, rfl, hl, by omega, by omega, ?_, h2, h⟩
  have : k < xs.length := (List.getElem?_eq_some_iff.mp h2).1
  unfold seqIndex?
  simp
  omega
end
/-! places -/
def idxs {α : Type} (q : α → Bool) : Nat → List α → List Nat
  | _, [] => []
  | k, f :: r => if q f then k :: idxs q (k + 1) r else idxs q (k + 1) r
theorem idxs_snoc {α : Type} (q : α → Bool) : ∀ (l : List α) (k : Nat) (f : α), idxs q k (l ++ [f]) = idxs q k l ++ (if q f then [k + l.length] else [])
  | [], k, f => by simp [idxs]
  | g :: r, k, f => by
    have ih := idxs_snoc q r (k + 1) f
    show (if q g then k :: idxs q (k + 1) (r ++ [f]) else idxs q (k + 1) (r ++ [f])) = _
    rw [ih]
    have e : k + 1 + r.length = k + (g :: r).length := by simp; omega
    rw [e]
    show _ = (if q g then k :: idxs q (k + 1) r else idxs q (k + 1) r) ++ _
    split <;> simp
theorem idxs_head {α : Type} (q : α → Bool) : ∀ (l : List α) (k : Nat), (idxs q k l).head? = (l.findIdx? q).map (· + k)
  | [], _ => rfl
  | f :: r, k => by
    have ih := idxs_head q r (k + 1)
    rw [List.findIdx?_cons]
    show (if q f then k :: idxs q (k + 1) r else idxs q (k + 1) r).head? = _
    cases h : q f with
    | true => simp
    | false =>
      simp only [Bool.false_eq_true, if_false]
      rw [ih]
      cases List.findIdx? q r with
      | none => rfl
      | some i => simp; omega
theorem fo_none {k : Nat} {l : List (Str × List Str)} {t : List Str} (h : idxs (fun b => rdy t b.2) 0 l = []) : fo k l t = t := by
  cases k with
  | zero => rfl
  | succ k =>
    have e := idxs_head (fun b : Str × List Str => rdy t b.2) l 0
    rw [h] at e
    unfold fo
    cases hf : l.findIdx? (fun b => rdy t b.2) with
    | none => rfl
    | some i => rw [hf] at e; simp at e
theorem fo_some {k : Nat} {l : List (Str × List Str)} {t : List Str} {i : Nat} {r : List Nat} {b : Str × List Str} (h : idxs (fun b => rdy t b.2) 0 l = i :: r) (hb : l[i]? = some b) : fo (k + 1) l t = fo k (l.eraseIdx i) (t ++ [b.1]) := by
  have e := idxs_head (fun b : Str × List Str => rdy t b.2) l 0
  rw [h] at e
  cases hf : l.findIdx? (fun b => rdy t b.2) with
  | none => rw [hf] at e; simp at e
  | some j =>
    rw [hf] at e
    simp at e
    subst e
    show (match l.findIdx? (fun b => rdy t b.2) with
      | none => t
      | some i => match l[i]? with
        | none => t
        | some b => fo k (l.eraseIdx i) (t ++ [b.1])) = _
    rw [hf]
    simp only [hb]
theorem idxs_lt {α : Type} (q : α → Bool) : ∀ (l : List α) (k i : Nat), i ∈ idxs q k l → k ≤ i ∧ i < k + l.length
  | [], _, _, h => by simp [idxs] at h
  | f :: r, k, i, h => by
    have ih := idxs_lt q r (k + 1) i
    have h' : i ∈ (if q f then k :: idxs q (k + 1) r else idxs q (k + 1) r) := h
    simp only [List.length_cons]
    split at h'
    · rcases List.mem_cons.mp h' with e | e
      · omega
      · have := ih e; omega
    · have := ih h'; omega
theorem firsts_fil : ∀ bs : List Bk, bs.filter Bk.isFst = (firsts bs).map fun f => Bk.fst f.1 f.2
  | [] => rfl
  | .fst n af :: r => by
    show Bk.fst n af :: r.filter Bk.isFst = _
    rw [firsts_fil r]
    rfl
  | .mem n :: r => firsts_fil r
theorem paired_map {α β γ : Type} {R : α → β → Prop} {g : γ → β} : ∀ {xs : List α} {ys : List γ}, Paired R xs (ys.map g) → Paired (fun a c => R a (g c)) xs ys
  | [], [], _ => .nil
  | _ :: _, _ :: _, .cons a b => .cons a (paired_map b)
theorem paired_erase {α β : Type} {R : α → β → Prop} : ∀ {xs : List α} {ys : List β} (i : Nat), Paired R xs ys → Paired R (xs.eraseIdx i) (ys.eraseIdx i)
  | _, _, _, .nil => .nil
  | _, _, 0, .cons a b => b
  | _, _, i + 1, .cons a b => .cons a (paired_erase i b)
theorem er_map {α β : Type} (f : α → β) : ∀ (xs : List α) (i : Nat), (xs.map f).eraseIdx i = (xs.eraseIdx i).map f
  | [], _ => rfl
  | _ :: _, 0 => rfl
  | a :: r, i + 1 => by
    show f a :: (r.map f).eraseIdx i = f a :: (r.eraseIdx i).map f
    rw [er_map f r i]
/-! all but lists are kept -/
section
variable {A : Kd → Addr} {H H' : Hp}
def Kp (H H' : Hp) : Prop := ∀ b u, H b = some u → (∀ xs, u ≠ .lst xs) → H' b = some u
theorem Kp.of (s : Same H H') : Kp H H' := fun b u e _ => s b u e
theorem Kp.trans {H'' : Hp} (h1 : Kp H H') (h2 : Kp H' H'') : Kp H H'' := fun b u e n => h2 b u (h1 b u e n) n
theorem Kp.fr {p : Addr} {xs : List V} (hp : H p = some (.lst xs)) (f : QB.Fr p H H') : Kp H H' := fun b u e n => f b u (fun e2 => by subst e2; rw [hp] at e; cases e; exact n _ rfl) e
theorem Kp.upd {l : Addr} {xs ys : List V} (hl : H l = some (.lst xs)) : Kp H (upd H l (.lst ys)) := fun b u e n => by
  rw [upd_ne (fun e2 => by subst e2; rw [hl] at e; cases e; exact n _ rfl)]
  exact e
theorem BkAt.kp {o : Addr} {b : Bk} (k : Kp H H') (h : BkAt A H o b) : BkAt A H' o b := by
  cases b with
  | fst n af => obtain ⟨dx, t, r, h1, h2⟩ := h; exact ⟨dx, t, r, k _ _ h1 (by simp), k _ _ h2 (by simp)⟩
  | mem n => obtain ⟨dx, r, h1⟩ := h; exact ⟨dx, r, k _ _ h1 (by simp)⟩
theorem bks_kp (k : Kp H H') : ∀ {os : List Addr} {bs : List Bk}, Paired (BkAt A H) os bs → Paired (BkAt A H') os bs
  | _, _, .nil => .nil
  | _, _, .cons a b => .cons (a.kp k) (bks_kp k b)
end
theorem firsts_app : ∀ xs ys : List Bk, firsts (xs ++ ys) = firsts xs ++ firsts ys
  | [], _ => rfl
  | .fst n af :: r, ys => by
    show (n, af) :: firsts (r ++ ys) = (n, af) :: (firsts r ++ firsts ys)
    rw [firsts_app r ys]
  | .mem n :: r, ys => firsts_app r ys
theorem firsts_ins (bs : List Bk) (i : Nat) (n : Str) : firsts (bs.take i ++ [.mem n] ++ bs.drop i) = firsts bs := by
  rw [firsts_app, firsts_app]
  show firsts (bs.take i) ++ [] ++ firsts (bs.drop i) = firsts bs
  rw [List.append_nil, ← firsts_app, List.take_append_drop]
theorem paired_ins {α β : Type} {R : α → β → Prop} : ∀ {xs : List α} {ys : List β} (i : Nat) {x : α} {y : β}, Paired R xs ys → R x y → Paired R (xs.take i ++ [x] ++ xs.drop i) (ys.take i ++ [y] ++ ys.drop i)
  | _, _, i, _, _, .nil, h => by simp; exact .cons h .nil
  | _, _, 0, _, _, .cons a b, h => by simp; exact .cons h (.cons a b)
  | _, _, i + 1, _, _, .cons a b, h => by
    simp only [List.take_succ_cons, List.drop_succ_cons, List.cons_append]
    exact .cons a (paired_ins i b h)
/-! what the law draws -/
theorem fo_one (n : Str) : fo 1 [(n, [])] [] = [n] := by simp [fo, rdy]
theorem fo_two (a b : Str) : fo 2 [(a, []), (b, [])] [] = [a, b] := by
  have h3 : ∀ t, rdy t ([] : List Str) = true := fun _ => rfl
  simp [fo, List.findIdx?_cons, h3]
theorem fo_way1 (a b x : Str) (r : List Str) (h : ∀ y ∈ x :: r, y = b) : fo 2 [(a, x :: r), (b, [])] [] = [b, a] := by
  have h1 : rdy [] (x :: r) = false := by simp [rdy]
  have h2 : rdy [b] (x :: r) = true := by
    unfold rdy
    rw [List.all_eq_true]
    intro y hy
    rw [h y hy]
    simp
  have h3 : rdy [] ([] : List Str) = true := rfl
  simp [fo, List.findIdx?_cons, h1, h2, h3]
theorem fo_way2 (a b : Str) (r : List Str) (h : ∀ y ∈ r, y = a) : fo 2 [(a, []), (b, r)] [] = [a, b] := by
  have h2 : rdy [a] r = true := by
    unfold rdy
    rw [List.all_eq_true]
    intro y hy
    rw [h y hy]
    simp
  have h3 : rdy [] ([] : List Str) = true := rfl
  simp [fo, List.findIdx?_cons, h2, h3]
end Fo

set_option Elab.async false
set_option linter.all false
set_option maxRecDepth 100000
set_option maxHeartbeats 4000000
namespace L17
open PySem PySem.Spec PyProof.Rows L2 QB QT
def sub (c d : Nat) : Bool := (([[true, false, false, false, false, false], [false, true, false, false, false, false], [false, false, true, false, false, false], [false, false, false, true, false, false], [false, false, false, false, true, false], [false, false, false, false, false, true]] : List (List Bool)).getD (min c 5) []).getD (min d 5) false
theorem sub_min {c d : Nat} : sub c d = sub (min c 5) (min d 5) := by unfold sub; rw [Nat.min_eq_left (Nat.min_le_right c 5), Nat.min_eq_left (Nat.min_le_right d 5)]
-- value_text: slots 0 value, 1 kind
def B_value_text : SF :=
  (sSeq (sAsg 1 (e2 fIxT (eVar 0) (eC (.int 0))))
  (sSeq (sIf (bE (e2 (fEq false) (eVar 1) (eC (.str "number"))))
  (sRet (eB fStrI (aC (e2 fIxT (eVar 0) (eC (.int 1))) aN)))
  sNext)
  (sSeq (sIf (bE (e2 (fEq false) (eVar 1) (eC (.str "argument"))))
  (sRet (eC (.str "it")))
  sNext)
  (sSeq (sIf (bE (e2 (fEq false) (eVar 1) (eC (.str "place"))))
  (sRet (eJs [(eFmt (e2 fIxT (eVar 0) (eC (.int 1)))), (eC (.str ".")), (eFmt (e2 fIxT (eVar 0) (eC (.int 2))))]))
  sNext)
  (sSeq (sIf (bE (e2 (fEq false) (eVar 1) (eC (.str "own"))))
  (sRet (e2 fAddS (eC (.str "$")) (e2 fIxT (eVar 0) (eC (.int 1)))))
  sNext)
  (sRet (e2 fAddS (eC (.str "#")) (e2 fIxT (eVar 0) (eC (.int 1))))))))))
def F_value_text : FF := runF 1 2 B_value_text
-- Tell.__init__: slots 0 self, 1 value
def B_Tell_init : SF :=
  (sSetF 0 "value" (eVar 1))
def F_Tell_init : FF := runF 2 2 B_Tell_init
-- Call.__init__: slots 0 self, 1 name, 2 value, 3 tag
def B_Call_init : SF :=
  (sSeq (sSetF 0 "name" (eVar 1))
  (sSeq (sSetF 0 "value" (eVar 2))
  (sSetF 0 "tag" (eVar 3))))
def F_Call_init : FF := runF 4 4 B_Call_init
-- First.__init__: slots 0 self, 1 name, 2 after, 3 rows
def B_First_init : SF :=
  (sSeq (sSetF 0 "name" (eVar 1))
  (sSeq (sSetF 0 "after" (eB fTupl (aC (eVar 2) aN)))
  (sSetF 0 "rows" (eB fTupl (aC (eVar 3) aN)))))
def F_First_init : FF := runF 4 4 B_First_init
-- First.head: slots 0 self
def B_First_head : SF :=
  (sSeq (sIf (bNot (bT (eFld "after" (eVar 0))))
  (sRet (eJs [(eC (.str "first ")), (eFmt (eFld "name" (eVar 0)))]))
  sNext)
  (sRet (eJs [(eC (.str "first ")), (eFmt (eFld "name" (eVar 0))), (eC (.str " after ")), (eFmt (eJoin " " (eFld "after" (eVar 0))))])))
def F_First_head : FF := runF 1 1 B_First_head
-- Member.__init__: slots 0 self, 1 name, 2 access, 3 tag, 4 is_default, 5 rows
def B_Member_init : SF :=
  (sSeq (sSetF 0 "name" (eVar 1))
  (sSeq (sSetF 0 "access" (eVar 2))
  (sSeq (sSetF 0 "tag" (eVar 3))
  (sSeq (sSetF 0 "is_default" (eVar 4))
  (sSetF 0 "rows" (eB fTupl (aC (eVar 5) aN)))))))
def F_Member_init : FF := runF 6 6 B_Member_init
-- Member.head: slots 0 self, 1 line
def B_Member_head : SF :=
  (sSeq (sAsg 1 (eJs [(eC (.str "routine ")), (eFmt (eFld "name" (eVar 0))), (eC (.str " ")), (eFmt (eFld "access" (eVar 0)))]))
  (sSeq (sIf (bE (e2 (fEq true) (eFld "tag" (eVar 0)) (eC (.int 0))))
  (sAsg 1 (eJs [(eFmt (eVar 1)), (eC (.str " at ")), (eFmt (eFld "tag" (eVar 0)))]))
  sNext)
  (sSeq (sIf (bE (eFld "is_default" (eVar 0)))
  (sAsg 1 (eJs [(eFmt (eVar 1)), (eC (.str " default"))]))
  sNext)
  (sRet (eVar 1)))))
def F_Member_head : FF := runF 1 2 B_Member_head
-- Edition.member: slots 0 self, 1 name, 2 tag, 3 member
def B_Edition_member : SF :=
  (sSeq (sFor (iT (eFld "members" (eVar 0))) (pN 3)
  (sIf (bAnd (bE (e2 (fEq false) (eFld "name" (eVar 3)) (eVar 1))) (bOr (bE (e2 (fEq false) (eFld "tag" (eVar 3)) (eVar 2))) (bAnd (bE (e2 (fEq false) (eVar 2) (eC (.int 0)))) (bE (eFld "is_default" (eVar 3))))))
  (sRet (eVar 3))
  sNext))
  (sRet (eC .non)))
def F_Edition_member : FF := runF 3 4 B_Edition_member
-- Scope.__init__: slots 0 self, 1 edition, 2 given
def B_Scope_init : SF :=
  (sSeq (sSetF 0 "edition" (eVar 1))
  (sSetF 0 "given" (eB fTupl (aC (eSortSet (eVar 2)) aN))))
def F_Scope_init : FF := runF 3 3 B_Scope_init
-- _law_bag: slots 0 _law_script, 1 _law_at, 2 _law_cell, 3 _law_mixed, 4 _law_k, 5 _law_each
def B_bag : SF :=
  (sSeq (sAsg 2 (eIf (bE (e2 fLt (eVar 1) (eB fLen (aC (eVar 0) aN)))) (e2 fIxL (eVar 0) (eVar 1)) (eC (.int 0))))
  (sSeq (sAsg 3 (e2 fAdd (e2 fMul (eC (.int 7411)) (eVar 1)) (eC (.int 3119))))
  (sSeq (sFor (iEn (eSl fSlL (eVar 0) oNo (oSome (eC (.int 60))))) (pT 2 (pCons (pN 4) (pCons (pN 5) pNil)))
  (sAsg 3 (e2 fMod (eB fInt (aC (e2 fAdd (e2 fAdd (e2 fMul (eVar 3) (eC (.int 40014))) (e2 fMod (eB fInt (aC (eVar 5) aN)) (eC (.int 2147483563)))) (e2 fMul (eC (.int 331)) (eVar 4))) aN)) (eC (.int 2147483399)))))
  (sRet (eLst (aC (eIf (bE (e2 fGe (eB fAbs (aC (eVar 2) aN)) (e2 fPow (eC (.int 10)) (eC (.int 18))))) (eB fAbs (aC (eVar 2) aN)) (eC (.int 0))) (aC (eVar 3) aN)))))))
def F_bag : FF := runF 2 6 B_bag
-- _law_take: slots 0 _law_bag_here, 1 _law_many, 2 _law_digit
def B_take : SF :=
  (sSeq (sIf (bE (e2 fGt (e2 fIxL (eVar 0) (eC (.int 0))) (eC (.int 0))))
  (sSeq (sAsg 2 (e2 fMod (eB fInt (aC (e2 fIxL (eVar 0) (eC (.int 0))) aN)) (eVar 1)))
  (sSeq (sSetL 0 (eC (.int 0)) (e2 fFdiv (e2 fIxL (eVar 0) (eC (.int 0))) (eVar 1)))
  (sRet (eVar 2))))
  sNext)
  (sSeq (sSetL 0 (eC (.int 1)) (e2 fMod (eB fInt (aC (e2 fAdd (e2 fMul (e2 fIxL (eVar 0) (eC (.int 1))) (eC (.int 48271))) (eC (.int 90001))) aN)) (eC (.int 2147483629))))
  (sRet (e2 fMod (e2 fFdiv (e2 fMod (eB fInt (aC (e2 fMul (e2 fFdiv (e2 fIxL (eVar 0) (eC (.int 1))) (eC (.int 11))) (eC (.int 39373))) aN)) (eC (.int 2147483647))) (eC (.int 64))) (eVar 1)))))
def F_take : FF := runF 2 3 B_take
-- _law_takes: slots 0 _law_members_here, 1 _law_found, 2 _law_name, 3 _law_access, 4 _law_tag, 5 _law_usual
def B_takes : SF :=
  (sSeq (sAsg 1 (eLcX false 0 (pT 4 (pCons (pN 2) (pCons (pN 3) (pCons (pN 4) (pCons (pN 5) pNil))))) bYes (eTup (aC (eVar 2) (aC (eVar 4) aN))) [2, 3, 4, 5]))
  (sRet (e2 fCat (eVar 1) (eLcX false 0 (pT 4 (pCons (pN 2) (pCons (pN 3) (pCons (pN 4) (pCons (pN 5) pNil))))) (bE (eVar 5)) (eTup (aC (eVar 2) (aC (eC (.int 0)) aN))) [2, 3, 4, 5]))))
def F_takes : FF := runF 1 6 B_takes
-- _law_due: slots 0 _law_members_here, 1 _law_wants, 2 _law_given, 3 _law_name, 4 _law_tag, 5 _law_own, 6 _law_access, 7 _law_real, 8 _law_usual
def B_due : SF :=
  (sSeq (sIf (bE (e2 (fIn false) (eVar 3) (eVar 1)))
  (sRet (eIf (bE (e2 (fEq false) (eVar 4) (eC (.int 0)))) (eTup (aC (eTup (aC (eC (.str "client")) (aC (eVar 3) aN))) (aC (eC (.str "wanted")) aN))) (eTup (aC (eC .non) (aC (eC .non) aN)))))
  sNext)
  (sSeq (sFor (iL (eVar 0)) (pT 4 (pCons (pN 5) (pCons (pN 6) (pCons (pN 7) (pCons (pN 8) pNil)))))
  (sIf (bAnd (bE (e2 (fEq false) (eVar 5) (eVar 3))) (bOr (bE (e2 (fEq false) (eVar 7) (eVar 4))) (bAnd (bE (e2 (fEq false) (eVar 4) (eC (.int 0)))) (bE (eVar 8)))))
  (sSeq (sIf (bAnd (bE (e2 (fEq false) (eVar 6) (eC (.str "open")))) (bE (e2 (fIn false) (eVar 3) (eVar 2))))
  (sRet (eOT (aC (eTup (aC (eC (.str "client")) (aC (eVar 3) aN))) (aC (eC (.str "taken")) aN))))
  sNext)
  (sRet (eOT (aC (eTup (aC (eC (.str "edition")) (aC (eVar 3) (aC (eVar 7) aN)))) (aC (eVar 6) aN)))))
  sNext))
  (sRet (eOT (aC (eC .non) (aC (eC .non) aN))))))
def F_due : FF := runF 5 9 B_due
-- _law_landed: slots 0 _law_members_here, 1 _law_name, 2 _law_tag, 3 _law_own, 4 _law_access, 5 _law_real, 6 _law_usual
def B_llanded : SF :=
  (sSeq (sFor (iL (eVar 0)) (pT 4 (pCons (pN 3) (pCons (pN 4) (pCons (pN 5) (pCons (pN 6) pNil)))))
  (sIf (bAnd (bE (e2 (fEq false) (eVar 3) (eVar 1))) (bAnd (bE (e2 (fEq true) (eVar 4) (eC (.str "hidden")))) (bOr (bE (e2 (fEq false) (eVar 5) (eVar 2))) (bAnd (bE (e2 (fEq false) (eVar 2) (eC (.int 0)))) (bE (eVar 6))))))
  (sRet (eVar 5))
  sNext))
  (sRet (eC .non)))
def F_llanded : FF := runF 3 7 B_llanded
-- Tell.text: slots 0 self
def B_Tell_text : SF :=
  (sRet (eJs [(eC (.str "tell ")), (eFmt (eCall F_value_text (aC (eFld "value" (eVar 0)) aN)))]))
def F_Tell_text : FF := runF 1 1 B_Tell_text
-- Call.text: slots 0 self, 1 line
def B_Call_text : SF :=
  (sSeq (sAsg 1 (eJs [(eC (.str "call ")), (eFmt (eFld "name" (eVar 0))), (eC (.str " ")), (eFmt (eCall F_value_text (aC (eFld "value" (eVar 0)) aN)))]))
  (sSeq (sIf (bE (e2 (fEq true) (eFld "tag" (eVar 0)) (eC (.int 0))))
  (sAsg 1 (eJs [(eFmt (eVar 1)), (eC (.str " at ")), (eFmt (eFld "tag" (eVar 0)))]))
  sNext)
  (sRet (eVar 1))))
def F_Call_text : FF := runF 1 2 B_Call_text
def M_member_4 (c : Nat) : FF := match c with | 4 => F_Edition_member | _ => fun _ => none
theorem M_member_4_in : ∀ c as r, M_member_4 c as = some r → (c = 4) := fun c as r h => by
  unfold M_member_4 at h
  split at h
  all_goals first | simp_all | (exact nomatch h)
-- Edition.visible: slots 0 self, 1 name, 2 tag, 3 member
def B_Edition_visible : SF :=
  (sSeq (sAsg 3 (eDynN "member" M_member_4 [] (eVar 0) (aC (eVar 1) (aC (eVar 2) aN))))
  (sSeq (sIf (bOr (bE (e2 (fIsN false) (eVar 3) (eC .non))) (bE (e2 (fEq false) (eFld "access" (eVar 3)) (eC (.str "hidden")))))
  (sRet (eC .non))
  sNext)
  (sRet (eVar 3))))
def F_Edition_visible : FF := runF 3 4 B_Edition_visible
-- Scope.why: slots 0 self, 1 name, 2 tag, 3 member
def B_Scope_why : SF :=
  (sSeq (sIf (bAnd (bE (e2 (fIn false) (eVar 1) (eFld "wants" (eFld "edition" (eVar 0))))) (bE (e2 (fEq false) (eVar 2) (eC (.int 0)))))
  (sRet (eC (.str "wanted")))
  sNext)
  (sSeq (sAsg 3 (eDynN "member" M_member_4 [] (eFld "edition" (eVar 0)) (aC (eVar 1) (aC (eVar 2) aN))))
  (sSeq (sIf (bE (e2 (fIsN false) (eVar 3) (eC .non)))
  (sRet (eC .non))
  sNext)
  (sSeq (sIf (bAnd (bE (e2 (fEq false) (eFld "access" (eVar 3)) (eC (.str "open")))) (bE (e2 (fIn false) (eVar 1) (eFld "given" (eVar 0)))))
  (sRet (eC (.str "taken")))
  sNext)
  (sRet (eFld "access" (eVar 3)))))))
def F_Scope_why : FF := runF 3 4 B_Scope_why
-- _law_of: slots 0 _law_bag_here, 1 _law_some
def B_of : SF :=
  (sRet (e2 fIxL (eVar 1) (eCallL F_take [true, false] (aC (eVar 0) (aC (eB fLen (aC (eVar 1) aN)) aN)))))
def F_of : FF := runF 2 2 B_of
-- Edition.__init__: slots 0 self, 1 name, 2 numbers, 3 cells, 4 wants, 5 blocks, 6 block
def B_Edition_init : SF :=
  (sSeq (sSetF 0 "name" (eVar 1))
  (sSeq (sSetF 0 "numbers" (eB fDcp (aC (eVar 2) aN)))
  (sSeq (sSetF 0 "cells" (eB fDcp (aC (eVar 3) aN)))
  (sSeq (sSetF 0 "wants" (eB fTupl (aC (eVar 4) aN)))
  (sSeq (sSetF 0 "blocks" (eB fTupl (aC (eVar 5) aN)))
  (sSeq (sSetF 0 "firsts" (eB fTupl (aC (eLc (iT (eVar 5)) (pN 6) (bE (eB (fIsi sub) (aC (eVar 6) (aC (eC (.cls 2)) aN)))) (eVar 6) [6]) aN)))
  (sSetF 0 "members" (eB fTupl (aC (eLc (iT (eVar 5)) (pN 6) (bE (eB (fIsi sub) (aC (eVar 6) (aC (eC (.cls 3)) aN)))) (eVar 6) [6]) aN)))))))))
def F_Edition_init : FF := runF 6 7 B_Edition_init
def M_head_2_3 (c : Nat) : FF := match c with | 2 => F_First_head | 3 => F_Member_head | _ => fun _ => none
theorem M_head_2_3_in : ∀ c as r, M_head_2_3 c as = some r → (c = 2 ∨ c = 3) := fun c as r h => by
  unfold M_head_2_3 at h
  split at h
  all_goals first | simp_all | (exact nomatch h)
def M_text_0_1 (c : Nat) : FF := match c with | 0 => F_Tell_text | 1 => F_Call_text | _ => fun _ => none
theorem M_text_0_1_in : ∀ c as r, M_text_0_1 c as = some r → (c = 0 ∨ c = 1) := fun c as r h => by
  unfold M_text_0_1 at h
  split at h
  all_goals first | simp_all | (exact nomatch h)
-- Edition.text: slots 0 self, 1 lines, 2 name, 3 number, 4 cell, 5 n, 6 block, 7 row
def B_Edition_text : SF :=
  (sSeq (sAsg 1 (eLst (aC (eJs [(eC (.str "edition ")), (eFmt (eFld "name" (eVar 0)))]) aN)))
  (sSeq (sForItF 0 "numbers" (pT 2 (pCons (pN 2) (pCons (pN 3) pNil)))
  (sDrop (eMut "list" gAppend 1 (aC (eJs [(eC (.str "number ")), (eFmt (eVar 2)), (eC (.str " ")), (eFmt (eVar 3))]) aN))))
  (sSeq (sForItF 0 "cells" (pT 2 (pCons (pN 2) (pCons (pN 4) pNil)))
  sDead)
  (sSeq (sFor (iT (eFld "wants" (eVar 0))) (pN 2)
  (sDrop (eMut "list" gAppend 1 (aC (eJs [(eC (.str "wants ")), (eFmt (eVar 2))]) aN))))
  (sSeq (sFor (iT (eFld "blocks" (eVar 0))) (pN 6)
  (sSeq (sDrop (eMut "list" gAppend 1 (aC (eDyn "head" M_head_2_3 (eVar 6)) aN)))
  (sDrop (eMut "list" gExtend 1 (aC (eLc (iT (eFld "rows" (eVar 6))) (pN 7) bYes (eDyn "text" M_text_0_1 (eVar 7)) [7]) aN)))))
  (sRet (eJoin "\n" (eVar 1))))))))
def F_Edition_text : FF := runF 1 8 B_Edition_text
def M_visible_4 (c : Nat) : FF := match c with | 4 => F_Edition_visible | _ => fun _ => none
theorem M_visible_4_in : ∀ c as r, M_visible_4 c as = some r → (c = 4) := fun c as r h => by
  unfold M_visible_4 at h
  split at h
  all_goals first | simp_all | (exact nomatch h)
-- landed: slots 0 edition, 1 name, 2 noted, 3 member
def B_landed : SF :=
  (sSeq (sAsg 3 (eDynN "visible" M_visible_4 [] (eVar 0) (aC (eVar 1) (aC (eVar 2) aN))))
  (sSeq (sIf (bE (e2 (fIsN false) (eVar 3) (eC .non)))
  (sRet (eC .non))
  sNext)
  (sRet (eFld "tag" (eVar 3)))))
def F_landed : FF := runF 3 4 B_landed
-- head_of: slots 0 block
def B_head_of : SF :=
  (sSeq (sIf (bE (eB (fIsi sub) (aC (eVar 0) (aC (eC (.cls 2)) aN))))
  (sRet (eOT (aC (eC (.str "first")) (aC (eFld "name" (eVar 0)) aN))))
  sNext)
  (sRet (eOT (aC (eC (.str "routine")) (aC (eFld "name" (eVar 0)) (aC (eFld "tag" (eVar 0)) aN))))))
def F_head_of : FF := runF 1 1 B_head_of
def M_why_5 (c : Nat) : FF := match c with | 5 => F_Scope_why | _ => fun _ => none
theorem M_why_5_in : ∀ c as r, M_why_5 c as = some r → (c = 5) := fun c as r h => by
  unfold M_why_5 at h
  split at h
  all_goals first | simp_all | (exact nomatch h)
-- Scope.reach: slots 0 self, 1 name, 2 tag, 3 reason
def B_Scope_reach : SF :=
  (sSeq (sAsg 3 (eDynN "why" M_why_5 [] (eVar 0) (aC (eVar 1) (aC (eVar 2) aN))))
  (sSeq (sIf (bE (e2 (fIsN false) (eVar 3) (eC .non)))
  (sRet (eC .non))
  sNext)
  (sSeq (sIf (bOr (bE (e2 (fEq false) (eVar 3) (eC (.str "wanted")))) (bE (e2 (fEq false) (eVar 3) (eC (.str "taken")))))
  (sRet (eOT (aC (eC (.str "client")) (aC (eVar 1) aN))))
  sNext)
  (sRet (eOT (aC (eC (.str "edition")) (aC (eVar 1) (aC (eFld "tag" (eDynN "member" M_member_4 [] (eFld "edition" (eVar 0)) (aC (eVar 1) (aC (eVar 2) aN)))) aN))))))))
def F_Scope_reach : FF := runF 3 4 B_Scope_reach
-- _law_names: slots 0 _law_bag_here, 1 _law_many, 2 _law_letters, 3 _law_signs, 4 _law_stem, 5 _law_k, 6 _law_start, 7 _law_is_behind, 8 _law_some, 9 _law_one
def B_names : SF :=
  (sSeq (sAsgT [2, 3] (eOT (aC (eC (.str "abcdefghijklmnopqrstuvwxyz")) (aC (eC (.str "abcdefghijklmnopqrstuvwxyz0123456789")) aN))))
  (sSeq (sAsg 4 (eJoin "" (eLc (iR1 (aC (eCallL F_of [true, false] (aC (eVar 0) (aC (eLst (aC (eC (.int 0)) (aC (eC (.int 0)) (aC (eC (.int 1)) (aC (eC (.int 2)) (aC (eC (.int 10)) aN)))))) aN))) aN)) (pN 5) bYes (e2 fIxS (eVar 3) (eCallL F_take [true, false] (aC (eVar 0) (aC (eC (.int 36)) aN)))) [5])))
  (sSeq (sAsgT [6, 7] (eOT (aC (eCallL F_take [true, false] (aC (eVar 0) (aC (eC (.int 26)) aN))) (aC (e2 (fEq false) (eCallL F_take [true, false] (aC (eVar 0) (aC (eC (.int 2)) aN))) (eC (.int 0))) aN))))
  (sSeq (sAsg 8 (eLc (iR1 (aC (eVar 1) aN)) (pN 5) bYes (e2 fIxS (eVar 2) (e2 fMod (e2 fAdd (eVar 6) (e2 fMul (eC (.int 7)) (eVar 5))) (eC (.int 26)))) [5]))
  (sRet (eLcX false 8 (pN 9) bYes (eIf (bE (eVar 7)) (e2 fAddS (e2 fAddS (e2 fIxS (eVar 2) (eVar 6)) (eVar 4)) (eVar 9)) (e2 fAddS (eVar 9) (eVar 4))) [9]))))))
def F_names : FF := runF 2 10 B_names
-- _law_family: slots 0 _law_bag_here, 1 _law_name, 2 _law_way, 3 _law_doors, 4 _law_many, 5 _law_usual, 6 _law_tag, 7 _law_found, 8 _law_k
def B_family : SF :=
  (sSeq (sPar [2, 3] (aC (eCallL F_take [true, false] (aC (eVar 0) (aC (eC (.int 5)) aN))) (aC (eLst (aC (eC (.str "open")) (aC (eC (.str "guarded")) (aC (eC (.str "hidden")) (aC (eC (.str "open")) aN))))) aN)))
  (sSeq (sIf (bE (e2 (fEq false) (eVar 2) (eC (.int 0))))
  (sRet (eLst aN))
  sNext)
  (sSeq (sIf (bE (e2 fLt (eVar 2) (eC (.int 3))))
  (sRet (eLst (aC (eTup (aC (eVar 1) (aC (eCallL F_of [true, false] (aC (eVar 0) (aC (eVar 3) aN))) (aC (eC (.int 0)) (aC (eC (.bl false)) aN))))) aN)))
  sNext)
  (sSeq (sAsg 4 (e2 fAdd (eC (.int 1)) (eCallL F_take [true, false] (aC (eVar 0) (aC (eC (.int 3)) aN)))))
  (sSeq (sPar [5, 6, 7] (aC (eCallL F_take [true, false] (aC (eVar 0) (aC (e2 fAdd (eVar 4) (eC (.int 1))) aN))) (aC (eCallL F_take [true, false] (aC (eVar 0) (aC (eC (.int 4)) aN))) (aC (eLst aN) aN))))
  (sSeq (sFor (iR1 (aC (eVar 4) aN)) (pN 8)
  (sSeq (sAsg 6 (e2 fAdd (e2 fAdd (eVar 6) (eC (.int 1))) (eCallL F_take [true, false] (aC (eVar 0) (aC (eC (.int 2)) aN)))))
  (sDrop (eMut "list" gAppend 7 (aC (eTup (aC (eVar 1) (aC (eCallL F_of [true, false] (aC (eVar 0) (aC (eVar 3) aN))) (aC (eVar 6) (aC (e2 (fEq false) (eVar 8) (eVar 5)) aN))))) aN)))))
  (sRet (eVar 7))))))))
def F_family : FF := runF 2 9 B_family
-- _law_rows: slots 0 _law_bag_here, 1 _law_calls, 2 _law_rows_here, 3 _law_k, 4 _law_number, 5 _law_name, 6 _law_tag
def B_rows : SF :=
  (sSeq (sAsg 2 (eLst aN))
  (sSeq (sFor (iR1 (aC (e2 fAdd (eC (.int 1)) (eCallL F_take [true, false] (aC (eVar 0) (aC (eC (.int 3)) aN)))) aN)) (pN 3)
  (sSeq (sAsg 4 (eTup (aC (eC (.str "number")) (aC (eCallL F_of [true, false] (aC (eVar 0) (aC (eLst (aC (eC (.int 0)) (aC (eC (.int 1)) (aC (eC (.int 7)) (aC (eC (.int 999999999)) (aC (e1 fNeg (eC (.int 999999999))) aN)))))) aN))) aN))))
  (sIf (bAnd (bE (e2 (fEqD true) (eVar 1) (eLst aN))) (bAnd (bE (e2 fLt (eVar 3) (eC (.int 2)))) (bE (e2 fGt (eCallL F_take [true, false] (aC (eVar 0) (aC (eC (.int 3)) aN))) (eC (.int 0))))))
  (sSeq (sAsgT [5, 6] (eCallL F_of [true, false] (aC (eVar 0) (aC (eVar 1) aN))))
  (sDrop (eMut "list" gAppend 2 (aC (eMake 1 F_Call_init [] (aC (eVar 5) (aC (eVar 4) (aC (eVar 6) aN)))) aN))))
  (sDrop (eMut "list" gAppend 2 (aC (eMake 0 F_Tell_init [] (aC (eVar 4) aN)) aN))))))
  (sRet (eVar 2))))
def F_rows : FF := runF 2 7 B_rows
-- _law_targets: slots 0 _law_edition_here, 1 _law_members_here, 2 _law_wants, 3 _law_given, 4 _law_found, 5 _law_block, 6 _law_head, 7 _law_k, 8 _law_row, 9 _law_target, 10 _law_reason
def B_ltargets : SF :=
  (sSeq (sAsg 4 (eLst aN))
  (sSeq (sFor (iT (eFld "blocks" (eVar 0))) (pN 5)
  (sSeq (sAsg 6 (eTup (aC (eC (.str "first")) (aC (eFld "name" (eVar 5)) aN))))
  (sSeq (sIf (bE (eB (fIsi sub) (aC (eVar 5) (aC (eC (.cls 3)) aN))))
  (sAsg 6 (eTup (aC (eC (.str "routine")) (aC (eFld "name" (eVar 5)) (aC (eFld "tag" (eVar 5)) aN)))))
  sNext)
  (sFor (iEnT (eFld "rows" (eVar 5))) (pT 2 (pCons (pN 7) (pCons (pN 8) pNil)))
  (sIf (bE (eB (fIsi sub) (aC (eVar 8) (aC (eC (.cls 1)) aN))))
  (sSeq (sAsgT [9, 10] (eCall F_due (aC (eVar 1) (aC (eVar 2) (aC (eVar 3) (aC (eFld "name" (eVar 8)) (aC (eFld "tag" (eVar 8)) aN)))))))
  (sDrop (eMut "list" gAppend 4 (aC (eTup (aC (eVar 6) (aC (eVar 7) (aC (eFld "name" (eVar 8)) (aC (eFld "tag" (eVar 8)) (aC (eVar 9) (aC (eVar 10) aN))))))) aN))))
  sNext)))))
  (sRet (eVar 4))))
def F_ltargets : FF := runF 4 11 B_ltargets
def M_reach_5 (c : Nat) : FF := match c with | 5 => F_Scope_reach | _ => fun _ => none
theorem M_reach_5_in : ∀ c as r, M_reach_5 c as = some r → (c = 5) := fun c as r h => by
  unfold M_reach_5 at h
  split at h
  all_goals first | simp_all | (exact nomatch h)
-- Scope.targets: slots 0 self, 1 found, 2 block, 3 at, 4 row, 5 target
def B_Scope_targets : SF :=
  (sSeq (sAsg 1 (eLst aN))
  (sSeq (sFor (iT (eFld "blocks" (eFld "edition" (eVar 0)))) (pN 2)
  (sFor (iEnT (eFld "rows" (eVar 2))) (pT 2 (pCons (pN 3) (pCons (pN 4) pNil)))
  (sIf (bE (eB (fIsi sub) (aC (eVar 4) (aC (eC (.cls 1)) aN))))
  (sSeq (sAsg 5 (eDynN "reach" M_reach_5 [] (eVar 0) (aC (eFld "name" (eVar 4)) (aC (eFld "tag" (eVar 4)) aN))))
  (sDrop (eMut "list" gAppend 1 (aC (eTup (aC (eCall F_head_of (aC (eVar 2) aN)) (aC (eVar 3) (aC (eFld "name" (eVar 4)) (aC (eFld "tag" (eVar 4)) (aC (eVar 5) (aC (eDynN "why" M_why_5 [] (eVar 0) (aC (eFld "name" (eVar 4)) (aC (eFld "tag" (eVar 4)) aN))) aN))))))) aN))))
  sNext)))
  (sRet (eVar 1))))
def F_Scope_targets : FF := runF 1 6 B_Scope_targets
-- _law_members: slots 0 _law_bag_here, 1 _law_names_here, 2 _law_found, 3 _law_name, 4 _law_family_here
def B_members : SF :=
  (sSeq (sAsg 2 (eLst aN))
  (sSeq (sFor (iL (eVar 1)) (pN 3)
  (sSeq (sAsg 4 (eCallL F_family [true, false] (aC (eVar 0) (aC (eVar 3) aN))))
  (sIf (bE (e2 fLe (e2 fAdd (eB fLen (aC (eVar 2) aN)) (eB fLen (aC (eVar 4) aN))) (eC (.int 4))))
  (sAsg 2 (e2 fCat (eVar 2) (eVar 4)))
  sNext)))
  (sRet (eVar 2))))
def F_members : FF := runF 2 5 B_members
def M_text_4 (c : Nat) : FF := match c with | 4 => F_Edition_text | _ => fun _ => none
theorem M_text_4_in : ∀ c as r, M_text_4 c as = some r → (c = 4) := fun c as r h => by
  unfold M_text_4 at h
  split at h
  all_goals first | simp_all | (exact nomatch h)
-- Edition.__eq__: slots 0 self, 1 other
def B_Edition_eq : SF :=
  (sRet (eAnd (eB (fIsi sub) (aC (eVar 1) (aC (eC (.cls 4)) aN))) (e2 (fEq false) (eDyn "text" M_text_4 (eVar 0)) (eDyn "text" M_text_4 (eVar 1)))))
def F_Edition_eq : FF := runF 2 2 B_Edition_eq
def M_targets_5 (c : Nat) : FF := match c with | 5 => F_Scope_targets | _ => fun _ => none
theorem M_targets_5_in : ∀ c as r, M_targets_5 c as = some r → (c = 5) := fun c as r h => by
  unfold M_targets_5 at h
  split at h
  all_goals first | simp_all | (exact nomatch h)
-- Scope.entered: slots 0 self, 1 head, 2 at, 3 name, 4 tag, 5 target, 6 reason
def B_Scope_entered : SF :=
  (sRet (eSortSc (iL (eDyn "targets" M_targets_5 (eVar 0))) (pT 6 (pCons (pN 1) (pCons (pN 2) (pCons (pN 3) (pCons (pN 4) (pCons (pN 5) (pCons (pN 6) pNil))))))) (bE (e2 (fEq false) (e2 fIxT (eVar 5) (eC (.int 0))) (eC (.str "client")))) (eVar 3) [1, 2, 3, 4, 5, 6]))
def F_Scope_entered : FF := runF 1 7 B_Scope_entered
-- _law_edition: slots 0 _law_bag_here, 1 _law_title, 2 _law_members_here, 3 _law_wants, 4 _law_cells, 5 _law_back, 6 _law_blocks, 7 _law_name, 8 _law_k, 9 _law_access, 10 _law_tag, 11 _law_usual, 12 _law_rows_here, 13 _law_after, 14 _law_place, 15 _law_kept, 16 _law_many
def B_ledition : SF :=
  (sSeq (sPar [5, 6] (aC (eLcX false 3 (pN 7) bYes (eTup (aC (eVar 7) (aC (eC (.int 0)) aN))) [7]) (aC (eLst aN) aN)))
  (sSeq (sFor (iEn (eVar 2)) (pT 2 (pCons (pN 8) (pCons (pT 4 (pCons (pN 7) (pCons (pN 9) (pCons (pN 10) (pCons (pN 11) pNil))))) pNil)))
  (sSeq (sAsg 12 (eCallL F_rows [true, false] (aC (eVar 0) (aC (e2 fCat (eVar 5) (eCall F_takes (aC (eSl fSlL (eVar 2) (oSome (e2 fAdd (eVar 8) (eC (.int 1)))) oNo) aN))) aN))))
  (sDrop (eMut "list" gAppend 6 (aC (eMake 3 F_Member_init [] (aC (eVar 7) (aC (eVar 9) (aC (eVar 10) (aC (eVar 11) (aC (eVar 12) aN)))))) aN)))))
  (sSeq (sFor (iL (eSl fSlL (eLst (aC (eC (.str "a")) (aC (eC (.str "b")) aN))) oNo (oSome (eCallL F_take [true, false] (aC (eVar 0) (aC (eC (.int 3)) aN)))))) (pN 7)
  (sSeq (sAsg 13 (eIf (bE (e2 (fEq false) (eVar 7) (eC (.str "b")))) (eCallL F_of [true, false] (aC (eVar 0) (aC (eLst (aC (eTup aN) (aC (eTup (aC (eC (.str "a")) aN)) aN))) aN))) (eTup aN)))
  (sSeq (sAsg 14 (eCallL F_take [true, false] (aC (eVar 0) (aC (e2 fAdd (eB fLen (aC (eVar 6) aN)) (eC (.int 1))) aN))))
  (sDrop (eMut "list" gInsert 6 (aC (eVar 14) (aC (eMake 2 F_First_init [] (aC (eVar 7) (aC (eVar 13) (aC (eCallL F_rows [true, false] (aC (eVar 0) (aC (e2 fCat (eVar 5) (eCall F_takes (aC (eVar 2) aN))) aN))) aN)))) aN)))))))
  (sSeq (sAsg 15 eDNew)
  (sSeq (sFor (iL (eVar 4)) (pT 3 (pCons (pN 7) (pCons (pN 9) (pCons (pN 16) pNil))))
  sDead)
  (sRet (eMake 4 F_Edition_init [] (aC (eVar 1) (aC eDNew (aC (eVar 15) (aC (eB fTupl (aC (eVar 3) aN)) (aC (eB fTupl (aC (eVar 6) aN)) aN))))))))))))
def F_ledition : FF := runF 5 17 B_ledition
def M_entered_5 (c : Nat) : FF := match c with | 5 => F_Scope_entered | _ => fun _ => none
theorem M_entered_5_in : ∀ c as r, M_entered_5 c as = some r → (c = 5) := fun c as r h => by
  unfold M_entered_5 at h
  split at h
  all_goals first | simp_all | (exact nomatch h)
def M_eq_4 (c : Nat) : FF := match c with | 4 => F_Edition_eq | _ => fun _ => none
theorem M_eq_4_in : ∀ c as r, M_eq_4 c as = some r → (c = 4) := fun c as r h => by
  unfold M_eq_4 at h
  split at h
  all_goals first | simp_all | (exact nomatch h)
-- _law_holds: slots 0 _law_scope, 1 _law_edition_here, 2 _law_names_here, 3 _law_members_here, 4 _law_wants, 5 _law_given, 6 _law_name, 7 _law_tag, 8 _law_due_here, 9 _law_told, 10 _law_entered, 11 _law_back, 12 _law_row
def B_holds : SF :=
  (sSeq (sFor (iL (eVar 2)) (pN 6)
  (sSeq (sFor (iR1 (aC (eC (.int 10)) aN)) (pN 7)
  (sSeq (sIf (bE (e2 (fEq true) (eB fReprV (aC (eTup (aC (eDynN "reach" M_reach_5 [] (eVar 0) (aC (eVar 6) (aC (eVar 7) aN))) (aC (eDynN "why" M_why_5 [] (eVar 0) (aC (eVar 6) (aC (eVar 7) aN))) aN))) aN)) (eB fReprV (aC (eCall F_due (aC (eVar 3) (aC (eVar 4) (aC (eVar 5) (aC (eVar 6) (aC (eVar 7) aN)))))) aN))))
  (sRet (eC (.bl false)))
  sNext)
  (sIf (bE (e2 (fEq true) (eB fReprV (aC (eCall F_landed (aC (eVar 1) (aC (eVar 6) (aC (eVar 7) aN)))) aN)) (eB fReprV (aC (eCall F_llanded (aC (eVar 3) (aC (eVar 6) (aC (eVar 7) aN)))) aN))))
  (sRet (eC (.bl false)))
  sNext)))
  (sIf (bE (e2 (fEq true) (eB fReprV (aC (eTup (aC (eDynN "reach" M_reach_5 [(.int 0)] (eVar 0) (aC (eVar 6) aN)) (aC (eDynN "why" M_why_5 [(.int 0)] (eVar 0) (aC (eVar 6) aN)) aN))) aN)) (eB fReprV (aC (eCall F_due (aC (eVar 3) (aC (eVar 4) (aC (eVar 5) (aC (eVar 6) (aC (eC (.int 0)) aN)))))) aN))))
  (sRet (eC (.bl false)))
  sNext)))
  (sSeq (sAsg 8 (eCall F_ltargets (aC (eVar 1) (aC (eVar 3) (aC (eVar 4) (aC (eVar 5) aN))))))
  (sSeq (sPar [9, 10] (aC (eDyn "targets" M_targets_5 (eVar 0)) (aC (eDyn "entered" M_entered_5 (eVar 0)) aN)))
  (sSeq (sAsg 11 (eSortSet (eLcX false 8 (pN 12) (bE (e2 (fEqD false) (e2 fIx (e2 fIx (eVar 12) (eC (.int 4))) (eC (.int 0))) (eC (.str "client")))) (e2 fIx (e2 fIx (eVar 12) (eC (.int 4))) (eC (.int 1))) [12])))
  (sSeq (sIf (bOr (bE (e2 (fEq true) (eB fReprV (aC (eVar 9) aN)) (eB fReprV (aC (eVar 8) aN)))) (bE (e2 (fEq true) (eB fReprV (aC (eVar 10) aN)) (eB fReprV (aC (eVar 11) aN)))))
  (sRet (eC (.bl false)))
  sNext)
  (sSeq (sDrop (eMut "list" gAppend 9 (aC (eC (.str "x")) aN)))
  (sSeq (sDrop (eMut "list" gAppend 10 (aC (eC (.str "x")) aN)))
  (sRet (eAnd (e2 (fEq false) (eB fReprV (aC (eFld "given" (eVar 0)) aN)) (eB fReprV (aC (eB fTupl (aC (eSortSet (eVar 5)) aN)) aN))) (eEqO M_eq_4 (eFld "edition" (eVar 0)) (eVar 1)))))))))))
def F_holds : FF := runF 6 13 B_holds
-- law: slots 0 _law_script, 1 _law_at, 2 _law_bag_here, 3 _law_names_here, 4 _law_members_here, 5 _law_place, 6 _law_wants, 7 _law_name, 8 _law_one, 9 _law_edition_here, 10 _law_text, 11 _law_scopes, 12 _law_turn, 13 _law_given, 14 _law_k, 15 _law_passed, 16 _law_scope
def B_law : SF :=
  (sSeq (sFor (iR1 (aC (eB fMax (aC (eC (.int 1)) (aC (eB fMin (aC (eC (.int 3)) (aC (eB fLen (aC (eVar 0) aN)) aN))) aN))) aN)) (pN 1)
  (sSeq (sAsg 2 (eCall F_bag (aC (eVar 0) (aC (eVar 1) aN))))
  (sSeq (sAsg 3 (eCallL F_names [true, false] (aC (eVar 2) (aC (eC (.int 8)) aN))))
  (sSeq (sAsg 4 (eCallL F_members [true, false] (aC (eVar 2) (aC (eSl fSlL (eVar 3) oNo (oSome (e2 fAdd (eC (.int 1)) (eCallL F_take [true, false] (aC (eVar 2) (aC (eC (.int 5)) aN)))))) aN))))
  (sSeq (sAsg 5 (eCallL F_take [true, false] (aC (eVar 2) (aC (e2 fAdd (eB fLen (aC (eVar 4) aN)) (eC (.int 1))) aN))))
  (sSeq (sAsg 4 (e2 fCat (eSl fSlL (eVar 4) (oSome (eVar 5)) oNo) (eSl fSlL (eVar 4) oNo (oSome (eVar 5)))))
  (sSeq (sAsg 6 (eSl fSlL (eLc (iL (eSl fSlL (eVar 3) (oSome (eC (.int 4))) (oSome (eC (.int 7))))) (pN 7) (bE (e2 (fIn true) (eVar 7) (eLcX false 4 (pN 8) bYes (e2 fIxT (eVar 8) (eC (.int 0))) [8]))) (eVar 7) [7]) oNo (oSome (eCallL F_take [true, false] (aC (eVar 2) (aC (eC (.int 3)) aN))))))
  (sSeq (sAsg 9 (eCallL F_ledition [true, false, false, false, false] (aC (eVar 2) (aC (e2 fIxL (eVar 3) (eC (.int 0))) (aC (eVar 4) (aC (eVar 6) (aC (eLst aN) aN)))))))
  (sSeq (sPar [10, 11] (aC (eDyn "text" M_text_4 (eVar 9)) (aC (eLst aN) aN)))
  (sSeq (sFor (iR1 (aC (eC (.int 2)) aN)) (pN 12)
  (sSeq (sAsg 13 (eLc (iR1 (aC (eCallL F_take [true, false] (aC (eVar 2) (aC (eC (.int 9)) aN))) aN)) (pN 14) bYes (eCallL F_of [true, false] (aC (eVar 2) (aC (eVar 3) aN))) [14]))
  (sSeq (sAsg 13 (eIf (bE (e2 (fEq false) (eCallL F_take [true, false] (aC (eVar 2) (aC (eC (.int 2)) aN))) (eC (.int 0)))) (e2 fCat (eVar 13) (eVar 6)) (eVar 13)))
  (sSeq (sAsg 15 (eB fLst (aC (eVar 13) aN)))
  (sSeq (sDrop (eMut "list" gAppend 11 (aC (eTup (aC (eMakeL 5 F_Scope_init [false, true] (aC (eVar 9) (aC (eIf (bE (e2 (fEq false) (eVar 12) (eC (.int 0)))) (eVar 15) (eB fTupl (aC (eVar 15) aN))) aN))) (aC (eVar 13) aN))) aN)))
  (sDrop (eMut "list" gExtend 15 (aC (eVar 3) aN))))))))
  (sSeq (sFor (iR1 (aC (eC (.int 2)) aN)) (pN 12)
  (sFor (iL (eVar 11)) (pT 2 (pCons (pN 16) (pCons (pN 13) pNil)))
  (sIf (bNot (bE (eCall F_holds (aC (eVar 16) (aC (eVar 9) (aC (eVar 3) (aC (eVar 4) (aC (eVar 6) (aC (eVar 13) aN)))))))))
  (sRet (eC (.bl false)))
  sNext)))
  (sIf (bE (e2 (fEq true) (eDyn "text" M_text_4 (eVar 9)) (eVar 10)))
  (sRet (eC (.bl false)))
  sNext))))))))))))
  (sRet (eC (.bl true))))
def F_law : FF := runF 1 17 B_law
end L17

set_option Elab.async false
set_option linter.all false
set_option maxRecDepth 100000
set_option maxHeartbeats 4000000
namespace L17
open PySem PySem.Spec PyProof.Rows L2 QB QT
structure Md (K : PySem.W.Frag) (C : Addr) (m qual : Str) (st : Stmt) (ps : List Str) (dvs : List V) : Prop where
  ex : ∃ (f : Addr) (fd : FuncData) (ds : List Value), Cls K C ∧ Meth K C m f ∧ C8.Fun K m qual st f fd ∧ Binds K fd ps ds ∧ Vals dvs ds
structure Mi (K : PySem.W.Frag) (mg : Str → Option Value) (x : Str) (C : Addr) (qual : Str) (st : Stmt) (ps : List Str) (dvs : List V) : Prop where
  ex : ∃ (f : Addr) (fd : FuncData) (ds : List Value), Mk K C f ∧ mg x = some (.ref C) ∧ C8.Fun K "__init__" qual st f fd ∧ Binds K fd ps ds ∧ Vals dvs ds
def topS (i : Nat) : Stmt := PySem.Challenge.pw_quietedition_k17_calls_of_editions.main.body.getD i (.Pass ⟨0, 0, 0, 0⟩)
abbrev s_value_text : Stmt := topS 5
theorem sc_value_text : FnScope ["value", "kind"] ["value"] (C8.fnScope s_value_text) := C8.fnScope_by (by decide +kernel)
abbrev s_Tell_init : Stmt := inClass (topS 7) 0
theorem sc_Tell_init : FnScope ["self", "value"] ["self", "value"] (C8.fnScope s_Tell_init) := C8.fnScope_by (by decide +kernel)
abbrev s_Call_init : Stmt := inClass (topS 11) 0
theorem sc_Call_init : FnScope ["self", "name", "value", "tag"] ["self", "name", "value", "tag"] (C8.fnScope s_Call_init) := C8.fnScope_by (by decide +kernel)
abbrev s_First_init : Stmt := inClass (topS 64) 0
theorem sc_First_init : FnScope ["self", "name", "after", "rows"] ["self", "name", "after", "rows"] (C8.fnScope s_First_init) := C8.fnScope_by (by decide +kernel)
abbrev s_First_head : Stmt := inClass (topS 64) 2
theorem sc_First_head : FnScope ["self"] ["self"] (C8.fnScope s_First_head) := C8.fnScope_by (by decide +kernel)
abbrev s_Member_init : Stmt := inClass (topS 65) 0
theorem sc_Member_init : FnScope ["self", "name", "access", "tag", "is_default", "rows"] ["self", "name", "access", "tag", "is_default", "rows"] (C8.fnScope s_Member_init) := C8.fnScope_by (by decide +kernel)
abbrev s_Member_head : Stmt := inClass (topS 65) 2
theorem sc_Member_head : FnScope ["self", "line"] ["self"] (C8.fnScope s_Member_head) := C8.fnScope_by (by decide +kernel)
abbrev s_Edition_member : Stmt := inClass (topS 66) 5
theorem sc_Edition_member : FnScope ["self", "name", "tag", "member"] ["self", "name", "tag"] (C8.fnScope s_Edition_member) := C8.fnScope_by (by decide +kernel)
abbrev s_Scope_init : Stmt := inClass (topS 72) 0
theorem sc_Scope_init : FnScope ["self", "edition", "given"] ["self", "edition", "given"] (C8.fnScope s_Scope_init) := C8.fnScope_by (by decide +kernel)
abbrev s_bag : Stmt := topS 74
theorem sc_bag : FnScope ["_law_script", "_law_at", "_law_cell", "_law_mixed", "_law_k", "_law_each"] ["_law_script", "_law_at"] (C8.fnScope s_bag) := C8.fnScope_by (by decide +kernel)
abbrev s_take : Stmt := topS 75
theorem sc_take : FnScope ["_law_bag_here", "_law_many", "_law_digit"] ["_law_bag_here", "_law_many"] (C8.fnScope s_take) := C8.fnScope_by (by decide +kernel)
abbrev s_takes : Stmt := topS 80
theorem sc_takes : FnScope ["_law_members_here", "_law_found", "_law_name", "_law_access", "_law_tag", "_law_usual"] ["_law_members_here"] (C8.fnScope s_takes) := C8.fnScope_by (by decide +kernel)
abbrev s_due : Stmt := topS 83
theorem sc_due : FnScope ["_law_members_here", "_law_wants", "_law_given", "_law_name", "_law_tag", "_law_own", "_law_access", "_law_real", "_law_usual"] ["_law_members_here", "_law_wants", "_law_given", "_law_name", "_law_tag"] (C8.fnScope s_due) := C8.fnScope_by (by decide +kernel)
abbrev s_llanded : Stmt := topS 84
theorem sc_llanded : FnScope ["_law_members_here", "_law_name", "_law_tag", "_law_own", "_law_access", "_law_real", "_law_usual"] ["_law_members_here", "_law_name", "_law_tag"] (C8.fnScope s_llanded) := C8.fnScope_by (by decide +kernel)
abbrev s_Tell_text : Stmt := inClass (topS 7) 2
theorem sc_Tell_text : FnScope ["self"] ["self"] (C8.fnScope s_Tell_text) := C8.fnScope_by (by decide +kernel)
abbrev s_Call_text : Stmt := inClass (topS 11) 2
theorem sc_Call_text : FnScope ["self", "line"] ["self"] (C8.fnScope s_Call_text) := C8.fnScope_by (by decide +kernel)
abbrev s_Edition_visible : Stmt := inClass (topS 66) 6
theorem sc_Edition_visible : FnScope ["self", "name", "tag", "member"] ["self", "name", "tag"] (C8.fnScope s_Edition_visible) := C8.fnScope_by (by decide +kernel)
abbrev s_Scope_why : Stmt := inClass (topS 72) 1
theorem sc_Scope_why : FnScope ["self", "name", "tag", "member"] ["self", "name", "tag"] (C8.fnScope s_Scope_why) := C8.fnScope_by (by decide +kernel)
abbrev s_of : Stmt := topS 76
theorem sc_of : FnScope ["_law_bag_here", "_law_some"] ["_law_bag_here", "_law_some"] (C8.fnScope s_of) := C8.fnScope_by (by decide +kernel)
abbrev s_Edition_init : Stmt := inClass (topS 66) 0
theorem sc_Edition_init : FnScope ["self", "name", "numbers", "cells", "wants", "blocks", "block"] ["self", "name", "numbers", "cells", "wants", "blocks"] (C8.fnScope s_Edition_init) := C8.fnScope_by (by decide +kernel)
abbrev s_Edition_text : Stmt := inClass (topS 66) 4
theorem sc_Edition_text : FnScope ["self", "lines", "name", "number", "cell", "n", "block", "row"] ["self"] (C8.fnScope s_Edition_text) := C8.fnScope_by (by decide +kernel)
abbrev s_landed : Stmt := topS 70
theorem sc_landed : FnScope ["edition", "name", "noted", "member"] ["edition", "name", "noted"] (C8.fnScope s_landed) := C8.fnScope_by (by decide +kernel)
abbrev s_head_of : Stmt := topS 71
theorem sc_head_of : FnScope ["block"] ["block"] (C8.fnScope s_head_of) := C8.fnScope_by (by decide +kernel)
abbrev s_Scope_reach : Stmt := inClass (topS 72) 2
theorem sc_Scope_reach : FnScope ["self", "name", "tag", "reason"] ["self", "name", "tag"] (C8.fnScope s_Scope_reach) := C8.fnScope_by (by decide +kernel)
abbrev s_names : Stmt := topS 77
theorem sc_names : FnScope ["_law_bag_here", "_law_many", "_law_letters", "_law_signs", "_law_stem", "_law_k", "_law_start", "_law_is_behind", "_law_some", "_law_one"] ["_law_bag_here", "_law_many"] (C8.fnScope s_names) := C8.fnScope_by (by decide +kernel)
abbrev s_family : Stmt := topS 78
theorem sc_family : FnScope ["_law_bag_here", "_law_name", "_law_way", "_law_doors", "_law_many", "_law_usual", "_law_tag", "_law_found", "_law_k"] ["_law_bag_here", "_law_name"] (C8.fnScope s_family) := C8.fnScope_by (by decide +kernel)
abbrev s_rows : Stmt := topS 81
theorem sc_rows : FnScope ["_law_bag_here", "_law_calls", "_law_rows_here", "_law_k", "_law_number", "_law_name", "_law_tag"] ["_law_bag_here", "_law_calls"] (C8.fnScope s_rows) := C8.fnScope_by (by decide +kernel)
abbrev s_ltargets : Stmt := topS 85
theorem sc_ltargets : FnScope ["_law_edition_here", "_law_members_here", "_law_wants", "_law_given", "_law_found", "_law_block", "_law_head", "_law_k", "_law_row", "_law_target", "_law_reason"] ["_law_edition_here", "_law_members_here", "_law_wants", "_law_given"] (C8.fnScope s_ltargets) := C8.fnScope_by (by decide +kernel)
abbrev s_Scope_targets : Stmt := inClass (topS 72) 3
theorem sc_Scope_targets : FnScope ["self", "found", "block", "at", "row", "target"] ["self"] (C8.fnScope s_Scope_targets) := C8.fnScope_by (by decide +kernel)
abbrev s_members : Stmt := topS 79
theorem sc_members : FnScope ["_law_bag_here", "_law_names_here", "_law_found", "_law_name", "_law_family_here"] ["_law_bag_here", "_law_names_here"] (C8.fnScope s_members) := C8.fnScope_by (by decide +kernel)
abbrev s_Edition_eq : Stmt := inClass (topS 66) 2
theorem sc_Edition_eq : FnScope ["self", "other"] ["self", "other"] (C8.fnScope s_Edition_eq) := C8.fnScope_by (by decide +kernel)
abbrev s_Scope_entered : Stmt := inClass (topS 72) 4
theorem sc_Scope_entered : FnScope ["self", "head", "at", "name", "tag", "target", "reason"] ["self"] (C8.fnScope s_Scope_entered) := C8.fnScope_by (by decide +kernel)
abbrev s_ledition : Stmt := topS 82
theorem sc_ledition : FnScope ["_law_bag_here", "_law_title", "_law_members_here", "_law_wants", "_law_cells", "_law_back", "_law_blocks", "_law_name", "_law_k", "_law_access", "_law_tag", "_law_usual", "_law_rows_here", "_law_after", "_law_place", "_law_kept", "_law_many"] ["_law_bag_here", "_law_title", "_law_members_here", "_law_wants", "_law_cells"] (C8.fnScope s_ledition) := C8.fnScope_by (by decide +kernel)
abbrev s_holds : Stmt := topS 86
theorem sc_holds : FnScope ["_law_scope", "_law_edition_here", "_law_names_here", "_law_members_here", "_law_wants", "_law_given", "_law_name", "_law_tag", "_law_due_here", "_law_told", "_law_entered", "_law_back", "_law_row"] ["_law_scope", "_law_edition_here", "_law_names_here", "_law_members_here", "_law_wants", "_law_given"] (C8.fnScope s_holds) := C8.fnScope_by (by decide +kernel)
abbrev s_law : Stmt := topS 87
theorem sc_law : FnScope ["_law_script", "_law_at", "_law_bag_here", "_law_names_here", "_law_members_here", "_law_place", "_law_wants", "_law_name", "_law_one", "_law_edition_here", "_law_text", "_law_scopes", "_law_turn", "_law_given", "_law_k", "_law_passed", "_law_scope"] ["_law_script"] (C8.fnScope s_law) := C8.fnScope_by (by decide +kernel)
structure Top (K : PySem.W.Frag) (mg : Str → Option Value) (A : Nat → Addr) : Prop where
  d_value_text : Dd K mg "value_text" s_value_text ["value"]
  i_Tell1 : Mi K mg "Tell" (A 0) "Tell.__init__" s_Tell_init ["self", "value"] []
  i_Call3 : Mi K mg "Call" (A 1) "Call.__init__" s_Call_init ["self", "name", "value", "tag"] []
  i_Call2 : Mi K mg "Call" (A 1) "Call.__init__" s_Call_init ["self", "name", "value", "tag"] [(.int 0)]
  i_First3 : Mi K mg "First" (A 2) "First.__init__" s_First_init ["self", "name", "after", "rows"] []
  m_First_head : Md K (A 2) "head" "First.head" s_First_head ["self"] []
  i_Member5 : Mi K mg "Member" (A 3) "Member.__init__" s_Member_init ["self", "name", "access", "tag", "is_default", "rows"] []
  m_Member_head : Md K (A 3) "head" "Member.head" s_Member_head ["self"] []
  m_Edition_member : Md K (A 4) "member" "Edition.member" s_Edition_member ["self", "name", "tag"] []
  m_Edition_memberd1 : Md K (A 4) "member" "Edition.member" s_Edition_member ["self", "name", "tag"] [(.int 0)]
  i_Scope2 : Mi K mg "Scope" (A 5) "Scope.__init__" s_Scope_init ["self", "edition", "given"] []
  d_bag : Dd K mg "_law_bag" s_bag ["_law_script", "_law_at"]
  d_take : Dd K mg "_law_take" s_take ["_law_bag_here", "_law_many"]
  d_takes : Dd K mg "_law_takes" s_takes ["_law_members_here"]
  d_due : Dd K mg "_law_due" s_due ["_law_members_here", "_law_wants", "_law_given", "_law_name", "_law_tag"]
  d_llanded : Dd K mg "_law_landed" s_llanded ["_law_members_here", "_law_name", "_law_tag"]
  m_Tell_text : Md K (A 0) "text" "Tell.text" s_Tell_text ["self"] []
  m_Call_text : Md K (A 1) "text" "Call.text" s_Call_text ["self"] []
  m_Edition_visible : Md K (A 4) "visible" "Edition.visible" s_Edition_visible ["self", "name", "tag"] []
  m_Edition_visibled1 : Md K (A 4) "visible" "Edition.visible" s_Edition_visible ["self", "name", "tag"] [(.int 0)]
  m_Scope_why : Md K (A 5) "why" "Scope.why" s_Scope_why ["self", "name", "tag"] []
  m_Scope_whyd1 : Md K (A 5) "why" "Scope.why" s_Scope_why ["self", "name", "tag"] [(.int 0)]
  d_of : Dd K mg "_law_of" s_of ["_law_bag_here", "_law_some"]
  i_Edition5 : Mi K mg "Edition" (A 4) "Edition.__init__" s_Edition_init ["self", "name", "numbers", "cells", "wants", "blocks"] []
  m_Edition_text : Md K (A 4) "text" "Edition.text" s_Edition_text ["self"] []
  d_landed : Dd K mg "landed" s_landed ["edition", "name", "noted"]
  d_head_of : Dd K mg "head_of" s_head_of ["block"]
  m_Scope_reach : Md K (A 5) "reach" "Scope.reach" s_Scope_reach ["self", "name", "tag"] []
  m_Scope_reachd1 : Md K (A 5) "reach" "Scope.reach" s_Scope_reach ["self", "name", "tag"] [(.int 0)]
  d_names : Dd K mg "_law_names" s_names ["_law_bag_here", "_law_many"]
  d_family : Dd K mg "_law_family" s_family ["_law_bag_here", "_law_name"]
  d_rows : Dd K mg "_law_rows" s_rows ["_law_bag_here", "_law_calls"]
  d_ltargets : Dd K mg "_law_targets" s_ltargets ["_law_edition_here", "_law_members_here", "_law_wants", "_law_given"]
  m_Scope_targets : Md K (A 5) "targets" "Scope.targets" s_Scope_targets ["self"] []
  d_members : Dd K mg "_law_members" s_members ["_law_bag_here", "_law_names_here"]
  m_Edition_eq : Md K (A 4) "__eq__" "Edition.__eq__" s_Edition_eq ["self", "other"] []
  m_Scope_entered : Md K (A 5) "entered" "Scope.entered" s_Scope_entered ["self"] []
  d_ledition : Dd K mg "_law_edition" s_ledition ["_law_bag_here", "_law_title", "_law_members_here", "_law_wants", "_law_cells"]
  d_holds : Dd K mg "_law_holds" s_holds ["_law_scope", "_law_edition_here", "_law_names_here", "_law_members_here", "_law_wants", "_law_given"]
  d_law : Dd K mg "law" s_law ["_law_script"]
  g_Tell : mg "Tell" = some (.ref (A 0))
  g_Call : mg "Call" = some (.ref (A 1))
  g_First : mg "First" = some (.ref (A 2))
  g_Member : mg "Member" = some (.ref (A 3))
  g_Edition : mg "Edition" = some (.ref (A 4))
  g_Scope : mg "Scope" = some (.ref (A 5))
  kits : Kits K A sub
  nf : ∀ c d, PySem.W.notFirst K (A c) (.ref (A d)) = true
  fl : ∀ c (f : Str), f ∈ ([("value" : Str), "name", "tag", "after", "rows", "access", "is_default", "numbers", "cells", "wants", "blocks", "firsts", "members", "edition", "given"] : List Str) → Cls K (A c) ∧ NoAttr K (A c) f
  z_abs : mg "abs" = none
  z_dict : mg "dict" = none
  z_enumerate : mg "enumerate" = none
  z_int : mg "int" = none
  z_isinstance : mg "isinstance" = none
  z_len : mg "len" = none
  z_list : mg "list" = none
  z_max : mg "max" = none
  z_min : mg "min" = none
  z_range : mg "range" = none
  z_repr : mg "repr" = none
  z_set : mg "set" = none
  z_sorted : mg "sorted" = none
  z_str : mg "str" = none
  z_tuple : mg "tuple" = none
end L17

set_option Elab.async false
set_option linter.all false
set_option maxRecDepth 100000
set_option maxHeartbeats 4000000
namespace L17
open PySem PySem.Spec PyProof.Rows L2 QB QT
section
variable {P : Program} {w : World} {K : PySem.W.Frag} {mg : Str → Option Value} {A : Nat → Addr} {base : Heap}
theorem met_of {m qual : Str} {C : Addr} {st : Stmt} {N ps : List Str} {k : Nat} {sp : Sp} {dvs : List V} (d : Md K C m qual st ps dvs) (S : FnScope N ps (C8.fnScope st)) (len : ∀ vs H Q E, sp vs H Q E → vs.length = ps.length)
    (hbody : ∀ (f : Addr) (cdv : Value) (A : Around) (outer : List Env) (s : Shared) (H : Hp) (vs : List V) (Q : VK) (E : XK), Room k (A.deeper (envOfC qual (C8.fnScope st) s.heap.objs.size f cdv)) → sp vs H Q E →
      ∃ t, PSs (cxOf CX0 P w K mg base N qual (C8.fnScope st) f cdv A outer s H E).nox (C8.fnBody st) t ∧ t { nx := fun _ H' => Q .non H', rt := Q } (start N vs) H) : C8.Met P w K mg base (k + 1) C m sp dvs := by
  obtain ⟨f, fd, ds, hc, hm, F, b, v⟩ := d.ex
  exact ⟨f, fd, ps, ds, hc, hm, C8.fn0 F S len (hbody f), b, v⟩
theorem mak_of {x qual : Str} {C : Addr} {st : Stmt} {N ps : List Str} {dvs : List V} {k : Nat} {sp : Sp} (d : Mi K mg x C qual st ps dvs) (S : FnScope N ps (C8.fnScope st)) (len : ∀ vs H Q E, sp vs H Q E → vs.length = ps.length)
    (hbody : ∀ (f : Addr) (cdv : Value) (A : Around) (outer : List Env) (s : Shared) (H : Hp) (vs : List V) (Q : VK) (E : XK), Room k (A.deeper (envOfC qual (C8.fnScope st) s.heap.objs.size f cdv)) → sp vs H Q E →
      ∃ t, PSs (cxOf CX0 P w K mg base N qual (C8.fnScope st) f cdv A outer s H E).nox (C8.fnBody st) t ∧ t { nx := fun _ H' => Q .non H', rt := Q } (start N vs) H) : C8.Mak P w K mg base (k + 1) x C sp dvs := by
  obtain ⟨f, fd, ds, M, hm, F, b, v⟩ := d.ex
  exact C8.mak0 M hm F b v S len (hbody f)
theorem met_mono {m : Str} {C : Addr} {j k : Nat} {sp : Sp} {dvs : List V} (h : C8.Met P w K mg base j C m sp dvs) (hk : j ≤ k) : C8.Met P w K mg base k C m sp dvs := by
  obtain ⟨f, fd, ps, ds, a, b, c, d, e⟩ := h.ex
  exact ⟨f, fd, ps, ds, a, b, c.mono hk, d, e⟩
theorem ok_value_text (T : Top K mg A) : C8.Cal P w K mg base 1 "value_text" (spF K A F_value_text) [] := by

  refine cal_of T.d_value_text sc_value_text (fun _ _ _ _ h => spF_len h) (fun f cdv AA outer s H vs Q E hr h => ⟨_, (pss_cons (ps_set (i := 1) sc_value_text.nd rfl (Or.inl rfl) (pe_ix ix_tup (pv 0) pe_int (fun _ _ => rfl)))
      (pss_cons (ps_if (pt_cmpR op_eq (pv 1) pe_str (nomark _))
      (pss_one (ps_ret (pe_callTy QC.c_strI (by rfl) T.z_str (by decide +kernel) (pa_cons (pe_ix ix_tup (pv 0) pe_int (fun _ _ => rfl)) pa_nil))))
      pss_nil)
      (pss_cons (ps_if (pt_cmpR op_eq (pv 1) pe_str (nomark _))
      (pss_one (ps_ret pe_str))
      pss_nil)
      (pss_cons (ps_if (pt_cmpR op_eq (pv 1) pe_str (nomark _))
      (pss_one (ps_ret (QC.pe_join (PJ.cons (pe_fmt (pe_ix ix_tup (pv 0) pe_int (fun _ _ => rfl))) (PJ.cons pe_str (PJ.cons (pe_fmt (pe_ix ix_tup (pv 0) pe_int (fun _ _ => rfl))) PJ.nil))))))
      pss_nil)
      (pss_cons (ps_if (pt_cmpR op_eq (pv 1) pe_str (nomark _))
      (pss_one (ps_ret (pe_op o_adds pe_str (pe_ix ix_tup (pv 0) pe_int (fun _ _ => rfl)))))
      pss_nil)
      (pss_one (ps_ret (pe_op o_adds pe_str (pe_ix ix_tup (pv 0) pe_int (fun _ _ => rfl)))))))))), ?_⟩)
  try dsimp only [cxOf]
  exact fn_run (N := ["value", "kind"]) (k := 1)
      (sv_seq (sv_asg (ev_op ev_var ev_int b_ixT))
      (sv_seq (sv_if (tv_test (ev_op ev_var ev_str b_eq))
      (sv_ret (ev_cb (av_cons (ev_op ev_var ev_int b_ixT) av_nil) b_strI))
      sv_next)
      (sv_seq (sv_if (tv_test (ev_op ev_var ev_str b_eq))
      (sv_ret ev_str)
      sv_next)
      (sv_seq (sv_if (tv_test (ev_op ev_var ev_str b_eq))
      (sv_ret (ev_js (JV.cons (ev_fmt (ev_op ev_var ev_int b_ixT)) (JV.cons ev_str (JV.cons (ev_fmt (ev_op ev_var ev_int b_ixT)) JV.nil)))))
      sv_next)
      (sv_seq (sv_if (tv_test (ev_op ev_var ev_str b_eq))
      (sv_ret (ev_op ev_str (ev_op ev_var ev_int b_ixT) b_addS))
      sv_next)
      (sv_ret (ev_op ev_str (ev_op ev_var ev_int b_ixT) b_addS))))))) h
theorem mk_Tell1 (T : Top K mg A) : C8.Mak P w K mg base 1 "Tell" (A 0) (spF K A F_Tell_init) [] := by

  refine mak_of T.i_Tell1 sc_Tell_init (fun _ _ _ _ h => spF_len h) (fun f cdv AA outer s H vs Q E hr h => ⟨_, (pss_one (ps_fld (pv 0) (pv 1) rfl)), ?_⟩)
  try dsimp only [cxOf]
  exact fn_run (N := ["self", "value"]) (k := 2)
      (sv_fld ev_var (fun c => T.fl c _ (by decide +kernel))) h
theorem mk_Call3 (T : Top K mg A) : C8.Mak P w K mg base 1 "Call" (A 1) (spF K A F_Call_init) [] := by

  refine mak_of T.i_Call3 sc_Call_init (fun _ _ _ _ h => spF_len h) (fun f cdv AA outer s H vs Q E hr h => ⟨_, (pss_cons (ps_fld (pv 0) (pv 1) rfl)
      (pss_cons (ps_fld (pv 0) (pv 2) rfl)
      (pss_one (ps_fld (pv 0) (pv 3) rfl)))), ?_⟩)
  try dsimp only [cxOf]
  exact fn_run (N := ["self", "name", "value", "tag"]) (k := 4)
      (sv_seq (sv_fld ev_var (fun c => T.fl c _ (by decide +kernel)))
      (sv_seq (sv_fld ev_var (fun c => T.fl c _ (by decide +kernel)))
      (sv_fld ev_var (fun c => T.fl c _ (by decide +kernel))))) h
theorem mk_Call2 (T : Top K mg A) : C8.Mak P w K mg base 1 "Call" (A 1) (spF K A F_Call_init) [(.int 0)] := by

  refine mak_of T.i_Call2 sc_Call_init (fun _ _ _ _ h => spF_len h) (fun f cdv AA outer s H vs Q E hr h => ⟨_, (pss_cons (ps_fld (pv 0) (pv 1) rfl)
      (pss_cons (ps_fld (pv 0) (pv 2) rfl)
      (pss_one (ps_fld (pv 0) (pv 3) rfl)))), ?_⟩)
  try dsimp only [cxOf]
  exact fn_run (N := ["self", "name", "value", "tag"]) (k := 4)
      (sv_seq (sv_fld ev_var (fun c => T.fl c _ (by decide +kernel)))
      (sv_seq (sv_fld ev_var (fun c => T.fl c _ (by decide +kernel)))
      (sv_fld ev_var (fun c => T.fl c _ (by decide +kernel))))) h
theorem mk_First3 (T : Top K mg A) : C8.Mak P w K mg base 1 "First" (A 2) (spF K A F_First_init) [] := by

  refine mak_of T.i_First3 sc_First_init (fun _ _ _ _ h => spF_len h) (fun f cdv AA outer s H vs Q E hr h => ⟨_, (pss_cons (ps_fld (pv 0) (pv 1) rfl)
      (pss_cons (ps_fld (pv 0) (pe_callTy c_tup (by rfl) T.z_tuple (by decide +kernel) (pa_cons (pv 2) pa_nil)) rfl)
      (pss_one (ps_fld (pv 0) (pe_callTy c_tup (by rfl) T.z_tuple (by decide +kernel) (pa_cons (pv 3) pa_nil)) rfl)))), ?_⟩)
  try dsimp only [cxOf]
  exact fn_run (N := ["self", "name", "after", "rows"]) (k := 4)
      (sv_seq (sv_fld ev_var (fun c => T.fl c _ (by decide +kernel)))
      (sv_seq (sv_fld (ev_cb (av_cons ev_var av_nil) b_tupl) (fun c => T.fl c _ (by decide +kernel)))
      (sv_fld (ev_cb (av_cons ev_var av_nil) b_tupl) (fun c => T.fl c _ (by decide +kernel))))) h
theorem ok_First_head (T : Top K mg A) : C8.Met P w K mg base 1 (A 2) "head" (spF K A F_First_head) [] := by

  refine met_of T.m_First_head sc_First_head (fun _ _ _ _ h => spF_len h) (fun f cdv AA outer s H vs Q E hr h => ⟨_, (pss_cons (ps_if (pt_not (pt_tru (pe_fld (pv 0) rfl) (by intro _; rfl)))
      (pss_one (ps_ret (QC.pe_join (PJ.cons pe_str (PJ.cons (pe_fmt (pe_fld (pv 0) rfl)) PJ.nil)))))
      pss_nil)
      (pss_one (ps_ret (QC.pe_join (PJ.cons pe_str (PJ.cons (pe_fmt (pe_fld (pv 0) rfl)) (PJ.cons pe_str (PJ.cons (pe_fmt (QE.pe_strJ pe_str (pe_fld (pv 0) rfl))) PJ.nil)))))))), ?_⟩)
  try dsimp only [cxOf]
  exact fn_run (N := ["self"]) (k := 1)
      (sv_seq (sv_if (tv_not (tv_tru (ev_fld ev_var (fun c => T.fl c _ (by decide +kernel)))))
      (sv_ret (ev_js (JV.cons ev_str (JV.cons (ev_fmt (ev_fld ev_var (fun c => T.fl c _ (by decide +kernel)))) JV.nil))))
      sv_next)
      (sv_ret (ev_js (JV.cons ev_str (JV.cons (ev_fmt (ev_fld ev_var (fun c => T.fl c _ (by decide +kernel)))) (JV.cons ev_str (JV.cons (ev_fmt (ev_strJ (ev_fld ev_var (fun c => T.fl c _ (by decide +kernel))))) JV.nil))))))) h
theorem mk_Member5 (T : Top K mg A) : C8.Mak P w K mg base 1 "Member" (A 3) (spF K A F_Member_init) [] := by

  refine mak_of T.i_Member5 sc_Member_init (fun _ _ _ _ h => spF_len h) (fun f cdv AA outer s H vs Q E hr h => ⟨_, (pss_cons (ps_fld (pv 0) (pv 1) rfl)
      (pss_cons (ps_fld (pv 0) (pv 2) rfl)
      (pss_cons (ps_fld (pv 0) (pv 3) rfl)
      (pss_cons (ps_fld (pv 0) (pv 4) rfl)
      (pss_one (ps_fld (pv 0) (pe_callTy c_tup (by rfl) T.z_tuple (by decide +kernel) (pa_cons (pv 5) pa_nil)) rfl)))))), ?_⟩)
  try dsimp only [cxOf]
  exact fn_run (N := ["self", "name", "access", "tag", "is_default", "rows"]) (k := 6)
      (sv_seq (sv_fld ev_var (fun c => T.fl c _ (by decide +kernel)))
      (sv_seq (sv_fld ev_var (fun c => T.fl c _ (by decide +kernel)))
      (sv_seq (sv_fld ev_var (fun c => T.fl c _ (by decide +kernel)))
      (sv_seq (sv_fld ev_var (fun c => T.fl c _ (by decide +kernel)))
      (sv_fld (ev_cb (av_cons ev_var av_nil) b_tupl) (fun c => T.fl c _ (by decide +kernel))))))) h
theorem ok_Member_head (T : Top K mg A) : C8.Met P w K mg base 1 (A 3) "head" (spF K A F_Member_head) [] := by

  refine met_of T.m_Member_head sc_Member_head (fun _ _ _ _ h => spF_len h) (fun f cdv AA outer s H vs Q E hr h => ⟨_, (pss_cons (ps_set (i := 1) sc_Member_head.nd rfl (Or.inl rfl) (QC.pe_join (PJ.cons pe_str (PJ.cons (pe_fmt (pe_fld (pv 0) rfl)) (PJ.cons pe_str (PJ.cons (pe_fmt (pe_fld (pv 0) rfl)) PJ.nil))))))
      (pss_cons (ps_if (pt_cmpR op_ne (pe_fld (pv 0) rfl) pe_int (nomark _))
      (pss_one (ps_set (i := 1) sc_Member_head.nd rfl (Or.inl rfl) (QC.pe_join (PJ.cons (pe_fmt (pv 1)) (PJ.cons pe_str (PJ.cons (pe_fmt (pe_fld (pv 0) rfl)) PJ.nil))))))
      pss_nil)
      (pss_cons (ps_if (pt_val (pe_fld (pv 0) rfl))
      (pss_one (ps_set (i := 1) sc_Member_head.nd rfl (Or.inl rfl) (QC.pe_join (PJ.cons (pe_fmt (pv 1)) (PJ.cons pe_str PJ.nil)))))
      pss_nil)
      (pss_one (ps_ret (pv 1)))))), ?_⟩)
  try dsimp only [cxOf]
  exact fn_run (N := ["self", "line"]) (k := 1)
      (sv_seq (sv_asg (ev_js (JV.cons ev_str (JV.cons (ev_fmt (ev_fld ev_var (fun c => T.fl c _ (by decide +kernel)))) (JV.cons ev_str (JV.cons (ev_fmt (ev_fld ev_var (fun c => T.fl c _ (by decide +kernel)))) JV.nil))))))
      (sv_seq (sv_if (tv_test (ev_op (ev_fld ev_var (fun c => T.fl c _ (by decide +kernel))) ev_int b_ne))
      (sv_asg (ev_js (JV.cons (ev_fmt ev_var) (JV.cons ev_str (JV.cons (ev_fmt (ev_fld ev_var (fun c => T.fl c _ (by decide +kernel)))) JV.nil)))))
      sv_next)
      (sv_seq (sv_if (tv_b (ev_fld ev_var (fun c => T.fl c _ (by decide +kernel))))
      (sv_asg (ev_js (JV.cons (ev_fmt ev_var) (JV.cons ev_str JV.nil))))
      sv_next)
      (sv_ret ev_var)))) h
theorem ok_Edition_member (T : Top K mg A) : C8.Met P w K mg base 1 (A 4) "member" (spF K A F_Edition_member) [] := by

  refine met_of T.m_Edition_member sc_Edition_member (fun _ _ _ _ h => spF_len h) (fun f cdv AA outer s H vs Q E hr h => ⟨_, (pss_cons (ps_for PassesOwn.never rfl (pi_tup (pe_fld (pv 0) rfl)) (pg_name (i := 3) sc_Edition_member.nd rfl (Or.inl rfl))
      (pss_one (ps_if (PW.pt (pw_and (pt_cmpR op_eq (pe_fld (pv 3) rfl) (pv 1) (nomark _)) (pw_and1 (PW.pt (pw_or (pt_cmpR op_eq (pe_fld (pv 3) rfl) (pv 2) (nomark _)) (pw_or1 (PW.pt (pw_and (pt_cmpR op_eq (pv 2) pe_int (nomark _)) (pw_and1 (pt_val (pe_fld (pv 3) rfl)))))))))))
      (pss_one (ps_ret (pv 3)))
      pss_nil)))
      (pss_one (ps_ret pe_non))), ?_⟩)
  try dsimp only [cxOf]
  exact fn_run (N := ["self", "name", "tag", "member"]) (k := 3)
      (sv_seq (sv_for (iv_tup (ev_fld ev_var (fun c => T.fl c _ (by decide +kernel)))) gv_name
      (sv_if (tv_and (tv_test (ev_op (ev_fld ev_var (fun c => T.fl c _ (by decide +kernel))) ev_var b_eq)) (tv_or (tv_test (ev_op (ev_fld ev_var (fun c => T.fl c _ (by decide +kernel))) ev_var b_eq)) (tv_and (tv_test (ev_op ev_var ev_int b_eq)) (tv_b (ev_fld ev_var (fun c => T.fl c _ (by decide +kernel)))))))
      (sv_ret ev_var)
      sv_next))
      (sv_ret ev_non)) h
theorem ok_Edition_memberd1 (T : Top K mg A) : C8.Met P w K mg base 1 (A 4) "member" (spF K A F_Edition_member) [(.int 0)] := by

  refine met_of T.m_Edition_memberd1 sc_Edition_member (fun _ _ _ _ h => spF_len h) (fun f cdv AA outer s H vs Q E hr h => ⟨_, (pss_cons (ps_for PassesOwn.never rfl (pi_tup (pe_fld (pv 0) rfl)) (pg_name (i := 3) sc_Edition_member.nd rfl (Or.inl rfl))
      (pss_one (ps_if (PW.pt (pw_and (pt_cmpR op_eq (pe_fld (pv 3) rfl) (pv 1) (nomark _)) (pw_and1 (PW.pt (pw_or (pt_cmpR op_eq (pe_fld (pv 3) rfl) (pv 2) (nomark _)) (pw_or1 (PW.pt (pw_and (pt_cmpR op_eq (pv 2) pe_int (nomark _)) (pw_and1 (pt_val (pe_fld (pv 3) rfl)))))))))))
      (pss_one (ps_ret (pv 3)))
      pss_nil)))
      (pss_one (ps_ret pe_non))), ?_⟩)
  try dsimp only [cxOf]
  exact fn_run (N := ["self", "name", "tag", "member"]) (k := 3)
      (sv_seq (sv_for (iv_tup (ev_fld ev_var (fun c => T.fl c _ (by decide +kernel)))) gv_name
      (sv_if (tv_and (tv_test (ev_op (ev_fld ev_var (fun c => T.fl c _ (by decide +kernel))) ev_var b_eq)) (tv_or (tv_test (ev_op (ev_fld ev_var (fun c => T.fl c _ (by decide +kernel))) ev_var b_eq)) (tv_and (tv_test (ev_op ev_var ev_int b_eq)) (tv_b (ev_fld ev_var (fun c => T.fl c _ (by decide +kernel)))))))
      (sv_ret ev_var)
      sv_next))
      (sv_ret ev_non)) h
theorem mk_Scope2 (T : Top K mg A) : C8.Mak P w K mg base 1 "Scope" (A 5) (spF K A F_Scope_init) [] := by

  refine mak_of T.i_Scope2 sc_Scope_init (fun _ _ _ _ h => spF_len h) (fun f cdv AA outer s H vs Q E hr h => ⟨_, (pss_cons (ps_fld (pv 0) (pv 1) rfl)
      (pss_one (ps_fld (pv 0) (pe_callTy c_tup (by rfl) T.z_tuple (by decide +kernel) (pa_cons (pe_callB (QU.c_sortK rfl) (by rfl) T.z_sorted (by decide +kernel) (pa_cons (pe_callTy (QU.c_setK rfl) (by rfl) T.z_set (by decide +kernel) (pa_cons (pv 2) pa_nil)) pa_nil)) pa_nil)) rfl))), ?_⟩)
  try dsimp only [cxOf]
  exact fn_run (N := ["self", "edition", "given"]) (k := 3)
      (sv_seq (sv_fld ev_var (fun c => T.fl c _ (by decide +kernel)))
      (sv_fld (ev_cb (av_cons (ev_sortSet ev_var) av_nil) b_tupl) (fun c => T.fl c _ (by decide +kernel)))) h
theorem ok_bag (T : Top K mg A) : C8.Cal P w K mg base 1 "_law_bag" (spF K A F_bag) [] := by

  refine cal_of T.d_bag sc_bag (fun _ _ _ _ h => spF_len h) (fun f cdv AA outer s H vs Q E hr h => ⟨_, (pss_cons (ps_set (i := 2) sc_bag.nd rfl (Or.inl rfl) (pe_ifExp (pt_cmpR op_lt (pv 1) (pe_callB c_len (by rfl) T.z_len (by decide +kernel) (pa_cons (pv 0) pa_nil)) (nomark _)) (pe_ix ix_list (pv 0) (pv 1) (fun _ _ => rfl)) pe_int))
      (pss_cons (ps_set (i := 3) sc_bag.nd rfl (Or.inl rfl) (pe_op op_add (pe_op op_mul pe_int (pv 1)) pe_int))
      (pss_cons (ps_for PassesOwn.never rfl (pi_enum (by rfl) T.z_enumerate (pa_cons (pe_slice sl_list (pv 0) po_none (po_some pe_int)) pa_nil)) (pg_tup (by rfl) (pgs_cons (pg_name (i := 4) sc_bag.nd rfl (Or.inl rfl)) (pgs_cons (pg_name (i := 5) sc_bag.nd rfl (Or.inl rfl)) pgs_nil)))
      (pss_one (ps_set (i := 3) sc_bag.nd rfl (Or.inl rfl) (pe_op op_mod (pe_callTy c_int (by rfl) T.z_int (by decide +kernel) (pa_cons (pe_op op_add (pe_op op_add (pe_op op_mul (pv 3) pe_int) (pe_op op_mod (pe_callTy c_int (by rfl) T.z_int (by decide +kernel) (pa_cons (pv 5) pa_nil)) pe_int)) (pe_op op_mul pe_int (pv 4))) pa_nil)) pe_int))))
      (pss_one (ps_ret (pe_lst (pa_cons (pe_ifExp (pt_cmpR op_ge (pe_callB c_abs (by rfl) T.z_abs (by decide +kernel) (pa_cons (pv 2) pa_nil)) (pe_op op_pow pe_int pe_int) (nomark _)) (pe_callB c_abs (by rfl) T.z_abs (by decide +kernel) (pa_cons (pv 2) pa_nil)) pe_int) (pa_cons (pv 3) pa_nil)))))))), ?_⟩)
  try dsimp only [cxOf]
  exact fn_run (N := ["_law_script", "_law_at", "_law_cell", "_law_mixed", "_law_k", "_law_each"]) (k := 2)
      (sv_seq (sv_asg (ev_if (tv_test (ev_op ev_var (ev_cb (av_cons ev_var av_nil) b_len) b_lt)) (ev_op ev_var ev_var b_ixL) ev_int))
      (sv_seq (sv_asg (ev_op (ev_op ev_int ev_var b_mul) ev_int b_add))
      (sv_seq (sv_for (iv_enum (ev_sl ev_var ov_no (ov_some ev_int) b_slL)) (gv_tup (gv_cons gv_name (gv_cons gv_name gv_nil)))
      (sv_asg (ev_op (ev_cb (av_cons (ev_op (ev_op (ev_op ev_var ev_int b_mul) (ev_op (ev_cb (av_cons ev_var av_nil) b_int) ev_int b_mod) b_add) (ev_op ev_int ev_var b_mul) b_add) av_nil) b_int) ev_int b_mod)))
      (sv_ret (ev_lst (av_cons (ev_if (tv_test (ev_op (ev_cb (av_cons ev_var av_nil) b_abs) (ev_op ev_int ev_int b_pow) b_ge)) (ev_cb (av_cons ev_var av_nil) b_abs) ev_int) (av_cons ev_var av_nil))))))) h
theorem ok_take (T : Top K mg A) : C8.Cal P w K mg base 1 "_law_take" (spF K A F_take) [] := by

  refine cal_of T.d_take sc_take (fun _ _ _ _ h => spF_len h) (fun f cdv AA outer s H vs Q E hr h => ⟨_, (pss_cons (ps_if (pt_cmpR op_gt (pe_ix ix_list (pv 0) pe_int (fun _ _ => rfl)) pe_int (nomark _))
      (pss_cons (ps_set (i := 2) sc_take.nd rfl (Or.inl rfl) (pe_op op_mod (pe_callTy c_int (by rfl) T.z_int (by decide +kernel) (pa_cons (pe_ix ix_list (pv 0) pe_int (fun _ _ => rfl)) pa_nil)) (pv 1)))
      (pss_cons (ps_asg (pe_op op_fdivW (pe_ix ix_list (pv 0) pe_int (fun _ _ => rfl)) (pv 1)) (pg_sub (pv 0) pe_int set_list))
      (pss_one (ps_ret (pv 2)))))
      pss_nil)
      (pss_cons (ps_asg (pe_op op_mod (pe_callTy c_int (by rfl) T.z_int (by decide +kernel) (pa_cons (pe_op op_add (pe_op op_mul (pe_ix ix_list (pv 0) pe_int (fun _ _ => rfl)) pe_int) pe_int) pa_nil)) pe_int) (pg_sub (pv 0) pe_int set_list))
      (pss_one (ps_ret (pe_op op_mod (pe_op op_fdivW (pe_op op_mod (pe_callTy c_int (by rfl) T.z_int (by decide +kernel) (pa_cons (pe_op op_mul (pe_op op_fdivW (pe_ix ix_list (pv 0) pe_int (fun _ _ => rfl)) pe_int) pe_int) pa_nil)) pe_int) pe_int) (pv 1)))))), ?_⟩)
  try dsimp only [cxOf]
  exact fn_run (N := ["_law_bag_here", "_law_many", "_law_digit"]) (k := 2)
      (sv_seq (sv_if (tv_test (ev_op (ev_op ev_var ev_int b_ixL) ev_int b_gt))
      (sv_seq (sv_asg (ev_op (ev_cb (av_cons (ev_op ev_var ev_int b_ixL) av_nil) b_int) ev_var b_mod))
      (sv_seq (sv_setL (ev_op (ev_op ev_var ev_int b_ixL) ev_var b_fdiv) ev_int)
      (sv_ret ev_var)))
      sv_next)
      (sv_seq (sv_setL (ev_op (ev_cb (av_cons (ev_op (ev_op (ev_op ev_var ev_int b_ixL) ev_int b_mul) ev_int b_add) av_nil) b_int) ev_int b_mod) ev_int)
      (sv_ret (ev_op (ev_op (ev_op (ev_cb (av_cons (ev_op (ev_op (ev_op ev_var ev_int b_ixL) ev_int b_fdiv) ev_int b_mul) av_nil) b_int) ev_int b_mod) ev_int b_fdiv) ev_var b_mod)))) h
theorem ok_takes (T : Top K mg A) : C8.Cal P w K mg base 1 "_law_takes" (spF K A F_takes) [] := by

  refine cal_of T.d_takes sc_takes (fun _ _ _ _ h => spF_len h) (fun f cdv AA outer s H vs Q E hr h => ⟨_, (pss_cons (ps_setLc (i := 1) (own := [("_law_name", 2), ("_law_access", 3), ("_law_tag", 4), ("_law_usual", 5)]) (g := (gTup K 4 (gCons (gName 2) (gCons (gName 3) (gCons (gName 4) (gCons (gName 5) gNil)))))) (tt := tYes) (by rfl) sc_takes.nd rfl rfl (sw_true rfl rfl rfl (by decide +kernel)) (pi_list (pv 0)) (blkOk_by (own := [("_law_name", 2), ("_law_access", 3), ("_law_tag", 4), ("_law_usual", 5)]) (N := ["_law_members_here", "_law_found", "_law_name", "_law_access", "_law_tag", "_law_usual"]) (sc := C8.fnScope s_takes) (by decide +kernel)) (fun _ _ _ _ _ => (pg_tup (by rfl) (pgs_cons (pg_name (i := 2) sc_takes.nd rfl (Or.inl rfl)) (pgs_cons (pg_name (i := 3) sc_takes.nd rfl (Or.inl rfl)) (pgs_cons (pg_name (i := 4) sc_takes.nd rfl (Or.inl rfl)) (pgs_cons (pg_name (i := 5) sc_takes.nd rfl (Or.inl rfl)) pgs_nil)))))) (fun _ _ _ _ _ => pts_nil) (fun _ _ _ _ _ => (pe_tup (pa_cons (pv 2) (pa_cons (pv 4) pa_nil)))))
      (pss_one (ps_ret (pe_op QT.op_catK (pv 1) (pe_lc (own := [("_law_name", 2), ("_law_access", 3), ("_law_tag", 4), ("_law_usual", 5)]) (g := (gTup K 4 (gCons (gName 2) (gCons (gName 3) (gCons (gName 4) (gCons (gName 5) gNil)))))) (by rfl) sc_takes.nd (pi_list (pv 0)) (blkOk_by (own := [("_law_name", 2), ("_law_access", 3), ("_law_tag", 4), ("_law_usual", 5)]) (N := ["_law_members_here", "_law_found", "_law_name", "_law_access", "_law_tag", "_law_usual"]) (sc := C8.fnScope s_takes) (by decide +kernel)) (fun _ _ _ _ _ => (pg_tup (by rfl) (pgs_cons (pg_name (i := 2) sc_takes.nd rfl (Or.inl rfl)) (pgs_cons (pg_name (i := 3) sc_takes.nd rfl (Or.inl rfl)) (pgs_cons (pg_name (i := 4) sc_takes.nd rfl (Or.inl rfl)) (pgs_cons (pg_name (i := 5) sc_takes.nd rfl (Or.inl rfl)) pgs_nil)))))) (fun _ _ _ _ _ => (pts_one (pt_val (pv 5)))) (fun _ _ _ _ _ => (pe_tup (pa_cons (pv 2) (pa_cons pe_int pa_nil))))))))), ?_⟩)
  try dsimp only [cxOf]
  exact fn_run (N := ["_law_members_here", "_law_found", "_law_name", "_law_access", "_law_tag", "_law_usual"]) (k := 1)
      (sv_seq (sv_asg (ev_lcX rfl (gv_tup (gv_cons gv_name (gv_cons gv_name (gv_cons gv_name (gv_cons gv_name gv_nil))))) tv_yes (ev_tup (av_cons ev_var (av_cons ev_var av_nil))) (by decide)))
      (sv_ret (ev_op ev_var (ev_lcX rfl (gv_tup (gv_cons gv_name (gv_cons gv_name (gv_cons gv_name (gv_cons gv_name gv_nil))))) (tv_b ev_var) (ev_tup (av_cons ev_var (av_cons ev_int av_nil))) (by decide)) b_cat))) h
theorem ok_due (T : Top K mg A) : C8.Cal P w K mg base 1 "_law_due" (spF K A F_due) [] := by

  refine cal_of T.d_due sc_due (fun _ _ _ _ h => spF_len h) (fun f cdv AA outer s H vs Q E hr h => ⟨_, (pss_cons (ps_if (pt_cmpR op_in_seq (pv 3) (pv 1) rfl)
      (pss_one (ps_ret (pe_ifExp (pt_cmpR op_eq (pv 4) pe_int (nomark _)) (pe_tup (pa_cons (pe_tup (pa_cons pe_str (pa_cons (pv 3) pa_nil))) (pa_cons pe_str pa_nil))) (pe_tup (pa_cons pe_non (pa_cons pe_non pa_nil))))))
      pss_nil)
      (pss_cons (ps_for PassesOwn.never rfl (pi_list (pv 0)) (pg_tup (by rfl) (pgs_cons (pg_name (i := 5) sc_due.nd rfl (Or.inl rfl)) (pgs_cons (pg_name (i := 6) sc_due.nd rfl (Or.inl rfl)) (pgs_cons (pg_name (i := 7) sc_due.nd rfl (Or.inl rfl)) (pgs_cons (pg_name (i := 8) sc_due.nd rfl (Or.inl rfl)) pgs_nil)))))
      (pss_one (ps_if (PW.pt (pw_and (pt_cmpR op_eq (pv 5) (pv 3) (nomark _)) (pw_and1 (PW.pt (pw_or (pt_cmpR op_eq (pv 7) (pv 4) (nomark _)) (pw_or1 (PW.pt (pw_and (pt_cmpR op_eq (pv 4) pe_int (nomark _)) (pw_and1 (pt_val (pv 8)))))))))))
      (pss_cons (ps_if (PW.pt (pw_and (pt_cmpR op_eq (pv 6) pe_str (nomark _)) (pw_and1 (pt_cmpR op_in_seq (pv 3) (pv 2) rfl))))
      (pss_one (ps_ret (pe_tup (pa_cons (pe_tup (pa_cons pe_str (pa_cons (pv 3) pa_nil))) (pa_cons pe_str pa_nil)))))
      pss_nil)
      (pss_one (ps_ret (pe_tup (pa_cons (pe_tup (pa_cons pe_str (pa_cons (pv 3) (pa_cons (pv 7) pa_nil)))) (pa_cons (pv 6) pa_nil))))))
      pss_nil)))
      (pss_one (ps_ret (pe_tup (pa_cons pe_non (pa_cons pe_non pa_nil))))))), ?_⟩)
  try dsimp only [cxOf]
  exact fn_run (N := ["_law_members_here", "_law_wants", "_law_given", "_law_name", "_law_tag", "_law_own", "_law_access", "_law_real", "_law_usual"]) (k := 5)
      (sv_seq (sv_if (tv_test (ev_op ev_var ev_var b_in))
      (sv_ret (ev_if (tv_test (ev_op ev_var ev_int b_eq)) (ev_tup (av_cons (ev_tup (av_cons ev_str (av_cons ev_var av_nil))) (av_cons ev_str av_nil))) (ev_tup (av_cons ev_non (av_cons ev_non av_nil)))))
      sv_next)
      (sv_seq (sv_for (iv_lst ev_var) (gv_tup (gv_cons gv_name (gv_cons gv_name (gv_cons gv_name (gv_cons gv_name gv_nil)))))
      (sv_if (tv_and (tv_test (ev_op ev_var ev_var b_eq)) (tv_or (tv_test (ev_op ev_var ev_var b_eq)) (tv_and (tv_test (ev_op ev_var ev_int b_eq)) (tv_b ev_var))))
      (sv_seq (sv_if (tv_and (tv_test (ev_op ev_var ev_str b_eq)) (tv_test (ev_op ev_var ev_var b_in)))
      (sv_ret (ev_ot (av_cons (ev_tup (av_cons ev_str (av_cons ev_var av_nil))) (av_cons ev_str av_nil))))
      sv_next)
      (sv_ret (ev_ot (av_cons (ev_tup (av_cons ev_str (av_cons ev_var (av_cons ev_var av_nil)))) (av_cons ev_var av_nil)))))
      sv_next))
      (sv_ret (ev_ot (av_cons ev_non (av_cons ev_non av_nil)))))) h
theorem ok_llanded (T : Top K mg A) : C8.Cal P w K mg base 1 "_law_landed" (spF K A F_llanded) [] := by

  refine cal_of T.d_llanded sc_llanded (fun _ _ _ _ h => spF_len h) (fun f cdv AA outer s H vs Q E hr h => ⟨_, (pss_cons (ps_for PassesOwn.never rfl (pi_list (pv 0)) (pg_tup (by rfl) (pgs_cons (pg_name (i := 3) sc_llanded.nd rfl (Or.inl rfl)) (pgs_cons (pg_name (i := 4) sc_llanded.nd rfl (Or.inl rfl)) (pgs_cons (pg_name (i := 5) sc_llanded.nd rfl (Or.inl rfl)) (pgs_cons (pg_name (i := 6) sc_llanded.nd rfl (Or.inl rfl)) pgs_nil)))))
      (pss_one (ps_if (PW.pt (pw_and (pt_cmpR op_eq (pv 3) (pv 1) (nomark _)) (pw_and (pt_cmpR op_ne (pv 4) pe_str (nomark _)) (pw_and1 (PW.pt (pw_or (pt_cmpR op_eq (pv 5) (pv 2) (nomark _)) (pw_or1 (PW.pt (pw_and (pt_cmpR op_eq (pv 2) pe_int (nomark _)) (pw_and1 (pt_val (pv 6))))))))))))
      (pss_one (ps_ret (pv 5)))
      pss_nil)))
      (pss_one (ps_ret pe_non))), ?_⟩)
  try dsimp only [cxOf]
  exact fn_run (N := ["_law_members_here", "_law_name", "_law_tag", "_law_own", "_law_access", "_law_real", "_law_usual"]) (k := 3)
      (sv_seq (sv_for (iv_lst ev_var) (gv_tup (gv_cons gv_name (gv_cons gv_name (gv_cons gv_name (gv_cons gv_name gv_nil)))))
      (sv_if (tv_and (tv_test (ev_op ev_var ev_var b_eq)) (tv_and (tv_test (ev_op ev_var ev_str b_ne)) (tv_or (tv_test (ev_op ev_var ev_var b_eq)) (tv_and (tv_test (ev_op ev_var ev_int b_eq)) (tv_b ev_var)))))
      (sv_ret ev_var)
      sv_next))
      (sv_ret ev_non)) h
theorem ok_Tell_text (T : Top K mg A) : C8.Met P w K mg base 2 (A 0) "text" (spF K A F_Tell_text) [] := by
  have c_value_text := ok_value_text (P := P) (w := w) (base := base) T
  refine met_of T.m_Tell_text sc_Tell_text (fun _ _ _ _ h => spF_len h) (fun f cdv AA outer s H vs Q E hr h => ⟨_, (pss_one (ps_ret (QC.pe_join (PJ.cons pe_str (PJ.cons (pe_fmt (C8.pe_c c_value_text hr (by decide) (by rfl) (pa_cons (pe_fld (pv 0) rfl) pa_nil))) PJ.nil))))), ?_⟩)
  try dsimp only [cxOf]
  exact fn_run (N := ["self"]) (k := 1)
      (sv_ret (ev_js (JV.cons ev_str (JV.cons (ev_fmt (ev_call (av_cons (ev_fld ev_var (fun c => T.fl c _ (by decide +kernel))) av_nil))) JV.nil)))) h
theorem ok_Call_text (T : Top K mg A) : C8.Met P w K mg base 2 (A 1) "text" (spF K A F_Call_text) [] := by
  have c_value_text := ok_value_text (P := P) (w := w) (base := base) T
  refine met_of T.m_Call_text sc_Call_text (fun _ _ _ _ h => spF_len h) (fun f cdv AA outer s H vs Q E hr h => ⟨_, (pss_cons (ps_set (i := 1) sc_Call_text.nd rfl (Or.inl rfl) (QC.pe_join (PJ.cons pe_str (PJ.cons (pe_fmt (pe_fld (pv 0) rfl)) (PJ.cons pe_str (PJ.cons (pe_fmt (C8.pe_c c_value_text hr (by decide) (by rfl) (pa_cons (pe_fld (pv 0) rfl) pa_nil))) PJ.nil))))))
      (pss_cons (ps_if (pt_cmpR op_ne (pe_fld (pv 0) rfl) pe_int (nomark _))
      (pss_one (ps_set (i := 1) sc_Call_text.nd rfl (Or.inl rfl) (QC.pe_join (PJ.cons (pe_fmt (pv 1)) (PJ.cons pe_str (PJ.cons (pe_fmt (pe_fld (pv 0) rfl)) PJ.nil))))))
      pss_nil)
      (pss_one (ps_ret (pv 1))))), ?_⟩)
  try dsimp only [cxOf]
  exact fn_run (N := ["self", "line"]) (k := 1)
      (sv_seq (sv_asg (ev_js (JV.cons ev_str (JV.cons (ev_fmt (ev_fld ev_var (fun c => T.fl c _ (by decide +kernel)))) (JV.cons ev_str (JV.cons (ev_fmt (ev_call (av_cons (ev_fld ev_var (fun c => T.fl c _ (by decide +kernel))) av_nil))) JV.nil))))))
      (sv_seq (sv_if (tv_test (ev_op (ev_fld ev_var (fun c => T.fl c _ (by decide +kernel))) ev_int b_ne))
      (sv_asg (ev_js (JV.cons (ev_fmt ev_var) (JV.cons ev_str (JV.cons (ev_fmt (ev_fld ev_var (fun c => T.fl c _ (by decide +kernel)))) JV.nil)))))
      sv_next)
      (sv_ret ev_var))) h
theorem ok_Edition_visible (T : Top K mg A) : C8.Met P w K mg base 2 (A 4) "visible" (spF K A F_Edition_visible) [] := by
  have c_member_4 : ∀ i : { c : Nat // c = 4 }, C8.Met P w K mg base 1 (A i.1) "member" (spF K A (M_member_4 i.1)) [] := fun i => by
    obtain ⟨c, h⟩ := i
    rcases h with rfl
    exact met_mono (ok_Edition_member T) (by decide)
  have c_member_4d1 : ∀ i : { c : Nat // c = 4 }, C8.Met P w K mg base 1 (A i.1) "member" (spF K A (M_member_4 i.1)) [(.int 0)] := fun i => by
    obtain ⟨c, h⟩ := i
    rcases h with rfl
    exact met_mono (ok_Edition_memberd1 T) (by decide)
  refine met_of T.m_Edition_visible sc_Edition_visible (fun _ _ _ _ h => spF_len h) (fun f cdv AA outer s H vs Q E hr h => ⟨_, (pss_cons (ps_set (i := 3) sc_Edition_visible.nd rfl (Or.inl rfl) (QT.pe_dynN (pl := _) c_member_4 hr (by decide) (pv 0) (pa_cons (pv 1) (pa_cons (pv 2) pa_nil))))
      (pss_cons (ps_if (PW.pt (pw_or (pt_cmpR op_isN (pv 3) pe_non (nomark _)) (pw_or1 (pt_cmpR op_eq (pe_fld (pv 3) rfl) pe_str (nomark _)))))
      (pss_one (ps_ret pe_non))
      pss_nil)
      (pss_one (ps_ret (pv 3))))), ?_⟩)
  try dsimp only [cxOf]
  exact fn_run (N := ["self", "name", "tag", "member"]) (k := 3)
      (sv_seq (sv_asg (ev_dynN ev_var (av_cons ev_var (av_cons ev_var av_nil)) (fun _ => .nil) M_member_4_in))
      (sv_seq (sv_if (tv_or (tv_test (ev_op ev_var ev_non b_isN)) (tv_test (ev_op (ev_fld ev_var (fun c => T.fl c _ (by decide +kernel))) ev_str b_eq)))
      (sv_ret ev_non)
      sv_next)
      (sv_ret ev_var))) h
theorem ok_Edition_visibled1 (T : Top K mg A) : C8.Met P w K mg base 2 (A 4) "visible" (spF K A F_Edition_visible) [(.int 0)] := by
  have c_member_4 : ∀ i : { c : Nat // c = 4 }, C8.Met P w K mg base 1 (A i.1) "member" (spF K A (M_member_4 i.1)) [] := fun i => by
    obtain ⟨c, h⟩ := i
    rcases h with rfl
    exact met_mono (ok_Edition_member T) (by decide)
  have c_member_4d1 : ∀ i : { c : Nat // c = 4 }, C8.Met P w K mg base 1 (A i.1) "member" (spF K A (M_member_4 i.1)) [(.int 0)] := fun i => by
    obtain ⟨c, h⟩ := i
    rcases h with rfl
    exact met_mono (ok_Edition_memberd1 T) (by decide)
  refine met_of T.m_Edition_visibled1 sc_Edition_visible (fun _ _ _ _ h => spF_len h) (fun f cdv AA outer s H vs Q E hr h => ⟨_, (pss_cons (ps_set (i := 3) sc_Edition_visible.nd rfl (Or.inl rfl) (QT.pe_dynN (pl := _) c_member_4 hr (by decide) (pv 0) (pa_cons (pv 1) (pa_cons (pv 2) pa_nil))))
      (pss_cons (ps_if (PW.pt (pw_or (pt_cmpR op_isN (pv 3) pe_non (nomark _)) (pw_or1 (pt_cmpR op_eq (pe_fld (pv 3) rfl) pe_str (nomark _)))))
      (pss_one (ps_ret pe_non))
      pss_nil)
      (pss_one (ps_ret (pv 3))))), ?_⟩)
  try dsimp only [cxOf]
  exact fn_run (N := ["self", "name", "tag", "member"]) (k := 3)
      (sv_seq (sv_asg (ev_dynN ev_var (av_cons ev_var (av_cons ev_var av_nil)) (fun _ => .nil) M_member_4_in))
      (sv_seq (sv_if (tv_or (tv_test (ev_op ev_var ev_non b_isN)) (tv_test (ev_op (ev_fld ev_var (fun c => T.fl c _ (by decide +kernel))) ev_str b_eq)))
      (sv_ret ev_non)
      sv_next)
      (sv_ret ev_var))) h
theorem ok_Scope_why (T : Top K mg A) : C8.Met P w K mg base 2 (A 5) "why" (spF K A F_Scope_why) [] := by
  have c_member_4 : ∀ i : { c : Nat // c = 4 }, C8.Met P w K mg base 1 (A i.1) "member" (spF K A (M_member_4 i.1)) [] := fun i => by
    obtain ⟨c, h⟩ := i
    rcases h with rfl
    exact met_mono (ok_Edition_member T) (by decide)
  have c_member_4d1 : ∀ i : { c : Nat // c = 4 }, C8.Met P w K mg base 1 (A i.1) "member" (spF K A (M_member_4 i.1)) [(.int 0)] := fun i => by
    obtain ⟨c, h⟩ := i
    rcases h with rfl
    exact met_mono (ok_Edition_memberd1 T) (by decide)
  refine met_of T.m_Scope_why sc_Scope_why (fun _ _ _ _ h => spF_len h) (fun f cdv AA outer s H vs Q E hr h => ⟨_, (pss_cons (ps_if (PW.pt (pw_and (pt_cmpR op_in_seq (pv 1) (pe_fld (pe_fld (pv 0) rfl) rfl) rfl) (pw_and1 (pt_cmpR op_eq (pv 2) pe_int (nomark _)))))
      (pss_one (ps_ret pe_str))
      pss_nil)
      (pss_cons (ps_set (i := 3) sc_Scope_why.nd rfl (Or.inl rfl) (QT.pe_dynN (pl := _) c_member_4 hr (by decide) (pe_fld (pv 0) rfl) (pa_cons (pv 1) (pa_cons (pv 2) pa_nil))))
      (pss_cons (ps_if (pt_cmpR op_isN (pv 3) pe_non (nomark _))
      (pss_one (ps_ret pe_non))
      pss_nil)
      (pss_cons (ps_if (PW.pt (pw_and (pt_cmpR op_eq (pe_fld (pv 3) rfl) pe_str (nomark _)) (pw_and1 (pt_cmpR op_in_seq (pv 1) (pe_fld (pv 0) rfl) rfl))))
      (pss_one (ps_ret pe_str))
      pss_nil)
      (pss_one (ps_ret (pe_fld (pv 3) rfl))))))), ?_⟩)
  try dsimp only [cxOf]
  exact fn_run (N := ["self", "name", "tag", "member"]) (k := 3)
      (sv_seq (sv_if (tv_and (tv_test (ev_op ev_var (ev_fld (ev_fld ev_var (fun c => T.fl c _ (by decide +kernel))) (fun c => T.fl c _ (by decide +kernel))) b_in)) (tv_test (ev_op ev_var ev_int b_eq)))
      (sv_ret ev_str)
      sv_next)
      (sv_seq (sv_asg (ev_dynN (ev_fld ev_var (fun c => T.fl c _ (by decide +kernel))) (av_cons ev_var (av_cons ev_var av_nil)) (fun _ => .nil) M_member_4_in))
      (sv_seq (sv_if (tv_test (ev_op ev_var ev_non b_isN))
      (sv_ret ev_non)
      sv_next)
      (sv_seq (sv_if (tv_and (tv_test (ev_op (ev_fld ev_var (fun c => T.fl c _ (by decide +kernel))) ev_str b_eq)) (tv_test (ev_op ev_var (ev_fld ev_var (fun c => T.fl c _ (by decide +kernel))) b_in)))
      (sv_ret ev_str)
      sv_next)
      (sv_ret (ev_fld ev_var (fun c => T.fl c _ (by decide +kernel)))))))) h
theorem ok_Scope_whyd1 (T : Top K mg A) : C8.Met P w K mg base 2 (A 5) "why" (spF K A F_Scope_why) [(.int 0)] := by
  have c_member_4 : ∀ i : { c : Nat // c = 4 }, C8.Met P w K mg base 1 (A i.1) "member" (spF K A (M_member_4 i.1)) [] := fun i => by
    obtain ⟨c, h⟩ := i
    rcases h with rfl
    exact met_mono (ok_Edition_member T) (by decide)
  have c_member_4d1 : ∀ i : { c : Nat // c = 4 }, C8.Met P w K mg base 1 (A i.1) "member" (spF K A (M_member_4 i.1)) [(.int 0)] := fun i => by
    obtain ⟨c, h⟩ := i
    rcases h with rfl
    exact met_mono (ok_Edition_memberd1 T) (by decide)
  refine met_of T.m_Scope_whyd1 sc_Scope_why (fun _ _ _ _ h => spF_len h) (fun f cdv AA outer s H vs Q E hr h => ⟨_, (pss_cons (ps_if (PW.pt (pw_and (pt_cmpR op_in_seq (pv 1) (pe_fld (pe_fld (pv 0) rfl) rfl) rfl) (pw_and1 (pt_cmpR op_eq (pv 2) pe_int (nomark _)))))
      (pss_one (ps_ret pe_str))
      pss_nil)
      (pss_cons (ps_set (i := 3) sc_Scope_why.nd rfl (Or.inl rfl) (QT.pe_dynN (pl := _) c_member_4 hr (by decide) (pe_fld (pv 0) rfl) (pa_cons (pv 1) (pa_cons (pv 2) pa_nil))))
      (pss_cons (ps_if (pt_cmpR op_isN (pv 3) pe_non (nomark _))
      (pss_one (ps_ret pe_non))
      pss_nil)
      (pss_cons (ps_if (PW.pt (pw_and (pt_cmpR op_eq (pe_fld (pv 3) rfl) pe_str (nomark _)) (pw_and1 (pt_cmpR op_in_seq (pv 1) (pe_fld (pv 0) rfl) rfl))))
      (pss_one (ps_ret pe_str))
      pss_nil)
      (pss_one (ps_ret (pe_fld (pv 3) rfl))))))), ?_⟩)
  try dsimp only [cxOf]
  exact fn_run (N := ["self", "name", "tag", "member"]) (k := 3)
      (sv_seq (sv_if (tv_and (tv_test (ev_op ev_var (ev_fld (ev_fld ev_var (fun c => T.fl c _ (by decide +kernel))) (fun c => T.fl c _ (by decide +kernel))) b_in)) (tv_test (ev_op ev_var ev_int b_eq)))
      (sv_ret ev_str)
      sv_next)
      (sv_seq (sv_asg (ev_dynN (ev_fld ev_var (fun c => T.fl c _ (by decide +kernel))) (av_cons ev_var (av_cons ev_var av_nil)) (fun _ => .nil) M_member_4_in))
      (sv_seq (sv_if (tv_test (ev_op ev_var ev_non b_isN))
      (sv_ret ev_non)
      sv_next)
      (sv_seq (sv_if (tv_and (tv_test (ev_op (ev_fld ev_var (fun c => T.fl c _ (by decide +kernel))) ev_str b_eq)) (tv_test (ev_op ev_var (ev_fld ev_var (fun c => T.fl c _ (by decide +kernel))) b_in)))
      (sv_ret ev_str)
      sv_next)
      (sv_ret (ev_fld ev_var (fun c => T.fl c _ (by decide +kernel)))))))) h
theorem ok_of (T : Top K mg A) : C8.Cal P w K mg base 2 "_law_of" (spF K A F_of) [] := by
  have c_take := ok_take (P := P) (w := w) (base := base) T
  refine cal_of T.d_of sc_of (fun _ _ _ _ h => spF_len h) (fun f cdv AA outer s H vs Q E hr h => ⟨_, (pss_one (ps_ret (pe_ix ix_list (pv 1) (C8.pe_c c_take hr (by decide) (by rfl) (pa_cons (pv 0) (pa_cons (pe_callB c_len (by rfl) T.z_len (by decide +kernel) (pa_cons (pv 1) pa_nil)) pa_nil))) (fun _ _ => rfl)))), ?_⟩)
  try dsimp only [cxOf]
  exact fn_run (N := ["_law_bag_here", "_law_some"]) (k := 2)
      (sv_ret (ev_op ev_var (ev_callL (av_cons ev_var (av_cons (ev_cb (av_cons ev_var av_nil) b_len) av_nil))) b_ixL)) h
theorem mk_Edition5 (T : Top K mg A) : C8.Mak P w K mg base 3 "Edition" (A 4) (spF K A F_Edition_init) [] := by
  have mk_First3 := mk_First3 (P := P) (w := w) (base := base) T
  have mk_Member5 := mk_Member5 (P := P) (w := w) (base := base) T
  refine mak_of T.i_Edition5 sc_Edition_init (fun _ _ _ _ h => spF_len h) (fun f cdv AA outer s H vs Q E hr h => ⟨_, (pss_cons (ps_fld (pv 0) (pv 1) rfl)
      (pss_cons (ps_fld (pv 0) (pe_callTy QE.c_dcp (by rfl) T.z_dict (by decide +kernel) (pa_cons (pv 2) pa_nil)) rfl)
      (pss_cons (ps_fld (pv 0) (pe_callTy QE.c_dcp (by rfl) T.z_dict (by decide +kernel) (pa_cons (pv 3) pa_nil)) rfl)
      (pss_cons (ps_fld (pv 0) (pe_callTy c_tup (by rfl) T.z_tuple (by decide +kernel) (pa_cons (pv 4) pa_nil)) rfl)
      (pss_cons (ps_fld (pv 0) (pe_callTy c_tup (by rfl) T.z_tuple (by decide +kernel) (pa_cons (pv 5) pa_nil)) rfl)
      (pss_cons (ps_fld (pv 0) (pe_callTy c_tup (by rfl) T.z_tuple (by decide +kernel) (pa_cons (pe_lc (own := [("block", 6)]) (g := (gName 6)) (by rfl) sc_Edition_init.nd (pi_tup (pv 5)) (blkOk_by (own := [("block", 6)]) (N := ["self", "name", "numbers", "cells", "wants", "blocks", "block"]) (sc := C8.fnScope s_Edition_init) (by decide +kernel)) (fun _ _ _ _ _ => (pg_name (i := 6) sc_Edition_init.nd rfl (Or.inl rfl))) (fun _ _ _ _ _ => (pts_one (pt_val (pe_callB (kcIsi K rfl) (by rfl) T.z_isinstance (by decide +kernel) (pa_cons (pv 6) (pa_cons (pe_glob (v := .ref (A 2)) (by rfl) T.g_First rfl) pa_nil)))))) (fun _ _ _ _ _ => (pv 6))) pa_nil)) rfl)
      (pss_one (ps_fld (pv 0) (pe_callTy c_tup (by rfl) T.z_tuple (by decide +kernel) (pa_cons (pe_lc (own := [("block", 6)]) (g := (gName 6)) (by rfl) sc_Edition_init.nd (pi_tup (pv 5)) (blkOk_by (own := [("block", 6)]) (N := ["self", "name", "numbers", "cells", "wants", "blocks", "block"]) (sc := C8.fnScope s_Edition_init) (by decide +kernel)) (fun _ _ _ _ _ => (pg_name (i := 6) sc_Edition_init.nd rfl (Or.inl rfl))) (fun _ _ _ _ _ => (pts_one (pt_val (pe_callB (kcIsi K rfl) (by rfl) T.z_isinstance (by decide +kernel) (pa_cons (pv 6) (pa_cons (pe_glob (v := .ref (A 3)) (by rfl) T.g_Member rfl) pa_nil)))))) (fun _ _ _ _ _ => (pv 6))) pa_nil)) rfl)))))))), ?_⟩)
  try dsimp only [cxOf]
  exact fn_run (N := ["self", "name", "numbers", "cells", "wants", "blocks", "block"]) (k := 6)
      (sv_seq (sv_fld ev_var (fun c => T.fl c _ (by decide +kernel)))
      (sv_seq (sv_fld (ev_cb (av_cons ev_var av_nil) b_dcp) (fun c => T.fl c _ (by decide +kernel)))
      (sv_seq (sv_fld (ev_cb (av_cons ev_var av_nil) b_dcp) (fun c => T.fl c _ (by decide +kernel)))
      (sv_seq (sv_fld (ev_cb (av_cons ev_var av_nil) b_tupl) (fun c => T.fl c _ (by decide +kernel)))
      (sv_seq (sv_fld (ev_cb (av_cons ev_var av_nil) b_tupl) (fun c => T.fl c _ (by decide +kernel)))
      (sv_seq (sv_fld (ev_cb (av_cons (ev_lc (iv_tup ev_var) gv_name (tv_b (ev_cb (av_cons ev_var (av_cons ev_cls av_nil)) (b_isi T.kits))) ev_var (by decide)) av_nil) b_tupl) (fun c => T.fl c _ (by decide +kernel)))
      (sv_fld (ev_cb (av_cons (ev_lc (iv_tup ev_var) gv_name (tv_b (ev_cb (av_cons ev_var (av_cons ev_cls av_nil)) (b_isi T.kits))) ev_var (by decide)) av_nil) b_tupl) (fun c => T.fl c _ (by decide +kernel))))))))) h
theorem ok_Edition_text (T : Top K mg A) : C8.Met P w K mg base 3 (A 4) "text" (spF K A F_Edition_text) [] := by
  have c_head_2_3 : ∀ i : { c : Nat // c = 2 ∨ c = 3 }, C8.Met P w K mg base 1 (A i.1) "head" (spF K A (M_head_2_3 i.1)) [] := fun i => by
    obtain ⟨c, h⟩ := i
    rcases h with rfl | rfl
    exact met_mono (ok_First_head T) (by decide)
    exact met_mono (ok_Member_head T) (by decide)
  have c_text_0_1 : ∀ i : { c : Nat // c = 0 ∨ c = 1 }, C8.Met P w K mg base 2 (A i.1) "text" (spF K A (M_text_0_1 i.1)) [] := fun i => by
    obtain ⟨c, h⟩ := i
    rcases h with rfl | rfl
    exact met_mono (ok_Tell_text T) (by decide)
    exact met_mono (ok_Call_text T) (by decide)
  refine met_of T.m_Edition_text sc_Edition_text (fun _ _ _ _ h => spF_len h) (fun f cdv AA outer s H vs Q E hr h => ⟨_, (pss_cons (ps_set (i := 1) sc_Edition_text.nd rfl (Or.inl rfl) (pe_lst (pa_cons (QC.pe_join (PJ.cons pe_str (PJ.cons (pe_fmt (pe_fld (pv 0) rfl)) PJ.nil))) pa_nil)))
      (pss_cons (ps_lkor (ps_for PassesOwn.never rfl (pi_items (pe_fld (pv 0) rfl)) (pg_tup (by rfl) (pgs_cons (pg_name (i := 2) sc_Edition_text.nd rfl (Or.inl rfl)) (pgs_cons (pg_name (i := 3) sc_Edition_text.nd rfl (Or.inl rfl)) pgs_nil)))
      (pss_one (ps_expr (pe_bm PySem.F.plainAttrs_list PySem.F.slot_list_append PySem.F.type_list_append mt_append (pv 1) (pa_cons (QC.pe_join (PJ.cons pe_str (PJ.cons (pe_fmt (pv 2)) (PJ.cons pe_str (PJ.cons (pe_fmt (pv 3)) PJ.nil))))) pa_nil))))))
      (pss_cons (ps_lkor (ps_for PassesOwn.never rfl (pi_items (pe_fld (pv 0) rfl)) (pg_tup (by rfl) (pgs_cons (pg_name (i := 2) sc_Edition_text.nd rfl (Or.inl rfl)) (pgs_cons (pg_name (i := 4) sc_Edition_text.nd rfl (Or.inl rfl)) pgs_nil)))
      (pss_one ps_never)))
      (pss_cons (ps_for PassesOwn.never rfl (pi_tup (pe_fld (pv 0) rfl)) (pg_name (i := 2) sc_Edition_text.nd rfl (Or.inl rfl))
      (pss_one (ps_expr (pe_bm PySem.F.plainAttrs_list PySem.F.slot_list_append PySem.F.type_list_append mt_append (pv 1) (pa_cons (QC.pe_join (PJ.cons pe_str (PJ.cons (pe_fmt (pv 2)) PJ.nil))) pa_nil)))))
      (pss_cons (ps_for PassesOwn.never rfl (pi_tup (pe_fld (pv 0) rfl)) (pg_name (i := 6) sc_Edition_text.nd rfl (Or.inl rfl))
      (pss_cons (ps_expr (pe_bm PySem.F.plainAttrs_list PySem.F.slot_list_append PySem.F.type_list_append mt_append (pv 1) (pa_cons (QC.pe_dyn0 (pl := _) c_head_2_3 hr (by decide) (pv 6)) pa_nil)))
      (pss_one (ps_expr (pe_bm PySem.F.plainAttrs_list PySem.F.slot_list_extend PySem.F.type_list_extend QT.mt_extK (pv 1) (pa_cons (pe_lc (own := [("row", 7)]) (g := (gName 7)) (tt := tYes) (by rfl) sc_Edition_text.nd (pi_tup (pe_fld (pv 6) rfl)) (blkOk_by (own := [("row", 7)]) (N := ["self", "lines", "name", "number", "cell", "n", "block", "row"]) (sc := C8.fnScope s_Edition_text) (by decide +kernel)) (fun _ _ _ _ _ => (pg_name (i := 7) sc_Edition_text.nd rfl (Or.inl rfl))) (fun _ _ _ _ _ => pts_nil) (fun _ _ _ _ _ => (QC.pe_dyn0 (pl := _) c_text_0_1 hr (by decide) (pv 7)))) pa_nil))))))
      (pss_one (ps_ret (QE.pe_strJ pe_str (pv 1))))))))), ?_⟩)
  try dsimp only [cxOf]
  exact fn_run (N := ["self", "lines", "name", "number", "cell", "n", "block", "row"]) (k := 1)
      (sv_seq (sv_asg (ev_lst (av_cons (ev_js (JV.cons ev_str (JV.cons (ev_fmt (ev_fld ev_var (fun c => T.fl c _ (by decide +kernel)))) JV.nil))) av_nil)))
      (sv_seq (sv_forItF (fun c => T.fl c _ (by decide +kernel)) (gv_tup (gv_cons gv_name (gv_cons gv_name gv_nil)))
      (sv_drop (ev_mut (av_cons (ev_js (JV.cons ev_str (JV.cons (ev_fmt ev_var) (JV.cons ev_str (JV.cons (ev_fmt ev_var) JV.nil))))) av_nil) m_append)))
      (sv_seq (sv_forItF (fun c => T.fl c _ (by decide +kernel)) (gv_tup (gv_cons gv_name (gv_cons gv_name gv_nil)))
      sv_dead)
      (sv_seq (sv_for (iv_tup (ev_fld ev_var (fun c => T.fl c _ (by decide +kernel)))) gv_name
      (sv_drop (ev_mut (av_cons (ev_js (JV.cons ev_str (JV.cons (ev_fmt ev_var) JV.nil))) av_nil) m_append)))
      (sv_seq (sv_for (iv_tup (ev_fld ev_var (fun c => T.fl c _ (by decide +kernel)))) gv_name
      (sv_seq (sv_drop (ev_mut (av_cons (ev_dyn ev_var M_head_2_3_in) av_nil) m_append))
      (sv_drop (ev_mut (av_cons (ev_lc (iv_tup (ev_fld ev_var (fun c => T.fl c _ (by decide +kernel)))) gv_name tv_yes (ev_dyn ev_var M_text_0_1_in) (by decide)) av_nil) m_extend))))
      (sv_ret (ev_strJ ev_var))))))) h
theorem ok_landed (T : Top K mg A) : C8.Cal P w K mg base 3 "landed" (spF K A F_landed) [] := by
  have c_visible_4 : ∀ i : { c : Nat // c = 4 }, C8.Met P w K mg base 2 (A i.1) "visible" (spF K A (M_visible_4 i.1)) [] := fun i => by
    obtain ⟨c, h⟩ := i
    rcases h with rfl
    exact met_mono (ok_Edition_visible T) (by decide)
  have c_visible_4d1 : ∀ i : { c : Nat // c = 4 }, C8.Met P w K mg base 2 (A i.1) "visible" (spF K A (M_visible_4 i.1)) [(.int 0)] := fun i => by
    obtain ⟨c, h⟩ := i
    rcases h with rfl
    exact met_mono (ok_Edition_visibled1 T) (by decide)
  refine cal_of T.d_landed sc_landed (fun _ _ _ _ h => spF_len h) (fun f cdv AA outer s H vs Q E hr h => ⟨_, (pss_cons (ps_set (i := 3) sc_landed.nd rfl (Or.inl rfl) (QT.pe_dynN (pl := _) c_visible_4 hr (by decide) (pv 0) (pa_cons (pv 1) (pa_cons (pv 2) pa_nil))))
      (pss_cons (ps_if (pt_cmpR op_isN (pv 3) pe_non (nomark _))
      (pss_one (ps_ret pe_non))
      pss_nil)
      (pss_one (ps_ret (pe_fld (pv 3) rfl))))), ?_⟩)
  try dsimp only [cxOf]
  exact fn_run (N := ["edition", "name", "noted", "member"]) (k := 3)
      (sv_seq (sv_asg (ev_dynN ev_var (av_cons ev_var (av_cons ev_var av_nil)) (fun _ => .nil) M_visible_4_in))
      (sv_seq (sv_if (tv_test (ev_op ev_var ev_non b_isN))
      (sv_ret ev_non)
      sv_next)
      (sv_ret (ev_fld ev_var (fun c => T.fl c _ (by decide +kernel)))))) h
theorem ok_head_of (T : Top K mg A) : C8.Cal P w K mg base 3 "head_of" (spF K A F_head_of) [] := by
  have mk_First3 := mk_First3 (P := P) (w := w) (base := base) T
  refine cal_of T.d_head_of sc_head_of (fun _ _ _ _ h => spF_len h) (fun f cdv AA outer s H vs Q E hr h => ⟨_, (pss_cons (ps_if (pt_val (pe_callB call_isi (by rfl) T.z_isinstance (by decide +kernel) (pa_cons (pv 0) (pa_cons (pe_glob (v := .ref (A 2)) (by rfl) T.g_First rfl) pa_nil))))
      (pss_one (ps_ret (pe_tup (pa_cons pe_str (pa_cons (pe_fld (pv 0) rfl) pa_nil)))))
      pss_nil)
      (pss_one (ps_ret (pe_tup (pa_cons pe_str (pa_cons (pe_fld (pv 0) rfl) (pa_cons (pe_fld (pv 0) rfl) pa_nil))))))), ?_⟩)
  try dsimp only [cxOf]
  exact fn_run (N := ["block"]) (k := 1)
      (sv_seq (sv_if (tv_b (ev_cb (av_cons ev_var (av_cons ev_cls av_nil)) (b_isi T.kits)))
      (sv_ret (ev_ot (av_cons ev_str (av_cons (ev_fld ev_var (fun c => T.fl c _ (by decide +kernel))) av_nil))))
      sv_next)
      (sv_ret (ev_ot (av_cons ev_str (av_cons (ev_fld ev_var (fun c => T.fl c _ (by decide +kernel))) (av_cons (ev_fld ev_var (fun c => T.fl c _ (by decide +kernel))) av_nil)))))) h
theorem ok_Scope_reach (T : Top K mg A) : C8.Met P w K mg base 3 (A 5) "reach" (spF K A F_Scope_reach) [] := by
  have c_why_5 : ∀ i : { c : Nat // c = 5 }, C8.Met P w K mg base 2 (A i.1) "why" (spF K A (M_why_5 i.1)) [] := fun i => by
    obtain ⟨c, h⟩ := i
    rcases h with rfl
    exact met_mono (ok_Scope_why T) (by decide)
  have c_why_5d1 : ∀ i : { c : Nat // c = 5 }, C8.Met P w K mg base 2 (A i.1) "why" (spF K A (M_why_5 i.1)) [(.int 0)] := fun i => by
    obtain ⟨c, h⟩ := i
    rcases h with rfl
    exact met_mono (ok_Scope_whyd1 T) (by decide)
  have c_member_4 : ∀ i : { c : Nat // c = 4 }, C8.Met P w K mg base 1 (A i.1) "member" (spF K A (M_member_4 i.1)) [] := fun i => by
    obtain ⟨c, h⟩ := i
    rcases h with rfl
    exact met_mono (ok_Edition_member T) (by decide)
  have c_member_4d1 : ∀ i : { c : Nat // c = 4 }, C8.Met P w K mg base 1 (A i.1) "member" (spF K A (M_member_4 i.1)) [(.int 0)] := fun i => by
    obtain ⟨c, h⟩ := i
    rcases h with rfl
    exact met_mono (ok_Edition_memberd1 T) (by decide)
  refine met_of T.m_Scope_reach sc_Scope_reach (fun _ _ _ _ h => spF_len h) (fun f cdv AA outer s H vs Q E hr h => ⟨_, (pss_cons (ps_set (i := 3) sc_Scope_reach.nd rfl (Or.inl rfl) (QT.pe_dynN (pl := _) c_why_5 hr (by decide) (pv 0) (pa_cons (pv 1) (pa_cons (pv 2) pa_nil))))
      (pss_cons (ps_if (pt_cmpR op_isN (pv 3) pe_non (nomark _))
      (pss_one (ps_ret pe_non))
      pss_nil)
      (pss_cons (ps_if (PW.pt (pw_or (pt_cmpR op_eq (pv 3) pe_str (nomark _)) (pw_or1 (pt_cmpR op_eq (pv 3) pe_str (nomark _)))))
      (pss_one (ps_ret (pe_tup (pa_cons pe_str (pa_cons (pv 1) pa_nil)))))
      pss_nil)
      (pss_one (ps_ret (pe_tup (pa_cons pe_str (pa_cons (pv 1) (pa_cons (pe_fld (QT.pe_dynN (pl := _) c_member_4 hr (by decide) (pe_fld (pv 0) rfl) (pa_cons (pv 1) (pa_cons (pv 2) pa_nil))) rfl) pa_nil))))))))), ?_⟩)
  try dsimp only [cxOf]
  exact fn_run (N := ["self", "name", "tag", "reason"]) (k := 3)
      (sv_seq (sv_asg (ev_dynN ev_var (av_cons ev_var (av_cons ev_var av_nil)) (fun _ => .nil) M_why_5_in))
      (sv_seq (sv_if (tv_test (ev_op ev_var ev_non b_isN))
      (sv_ret ev_non)
      sv_next)
      (sv_seq (sv_if (tv_or (tv_test (ev_op ev_var ev_str b_eq)) (tv_test (ev_op ev_var ev_str b_eq)))
      (sv_ret (ev_ot (av_cons ev_str (av_cons ev_var av_nil))))
      sv_next)
      (sv_ret (ev_ot (av_cons ev_str (av_cons ev_var (av_cons (ev_fld (ev_dynN (ev_fld ev_var (fun c => T.fl c _ (by decide +kernel))) (av_cons ev_var (av_cons ev_var av_nil)) (fun _ => .nil) M_member_4_in) (fun c => T.fl c _ (by decide +kernel))) av_nil)))))))) h
theorem ok_Scope_reachd1 (T : Top K mg A) : C8.Met P w K mg base 3 (A 5) "reach" (spF K A F_Scope_reach) [(.int 0)] := by
  have c_why_5 : ∀ i : { c : Nat // c = 5 }, C8.Met P w K mg base 2 (A i.1) "why" (spF K A (M_why_5 i.1)) [] := fun i => by
    obtain ⟨c, h⟩ := i
    rcases h with rfl
    exact met_mono (ok_Scope_why T) (by decide)
  have c_why_5d1 : ∀ i : { c : Nat // c = 5 }, C8.Met P w K mg base 2 (A i.1) "why" (spF K A (M_why_5 i.1)) [(.int 0)] := fun i => by
    obtain ⟨c, h⟩ := i
    rcases h with rfl
    exact met_mono (ok_Scope_whyd1 T) (by decide)
  have c_member_4 : ∀ i : { c : Nat // c = 4 }, C8.Met P w K mg base 1 (A i.1) "member" (spF K A (M_member_4 i.1)) [] := fun i => by
    obtain ⟨c, h⟩ := i
    rcases h with rfl
    exact met_mono (ok_Edition_member T) (by decide)
  have c_member_4d1 : ∀ i : { c : Nat // c = 4 }, C8.Met P w K mg base 1 (A i.1) "member" (spF K A (M_member_4 i.1)) [(.int 0)] := fun i => by
    obtain ⟨c, h⟩ := i
    rcases h with rfl
    exact met_mono (ok_Edition_memberd1 T) (by decide)
  refine met_of T.m_Scope_reachd1 sc_Scope_reach (fun _ _ _ _ h => spF_len h) (fun f cdv AA outer s H vs Q E hr h => ⟨_, (pss_cons (ps_set (i := 3) sc_Scope_reach.nd rfl (Or.inl rfl) (QT.pe_dynN (pl := _) c_why_5 hr (by decide) (pv 0) (pa_cons (pv 1) (pa_cons (pv 2) pa_nil))))
      (pss_cons (ps_if (pt_cmpR op_isN (pv 3) pe_non (nomark _))
      (pss_one (ps_ret pe_non))
      pss_nil)
      (pss_cons (ps_if (PW.pt (pw_or (pt_cmpR op_eq (pv 3) pe_str (nomark _)) (pw_or1 (pt_cmpR op_eq (pv 3) pe_str (nomark _)))))
      (pss_one (ps_ret (pe_tup (pa_cons pe_str (pa_cons (pv 1) pa_nil)))))
      pss_nil)
      (pss_one (ps_ret (pe_tup (pa_cons pe_str (pa_cons (pv 1) (pa_cons (pe_fld (QT.pe_dynN (pl := _) c_member_4 hr (by decide) (pe_fld (pv 0) rfl) (pa_cons (pv 1) (pa_cons (pv 2) pa_nil))) rfl) pa_nil))))))))), ?_⟩)
  try dsimp only [cxOf]
  exact fn_run (N := ["self", "name", "tag", "reason"]) (k := 3)
      (sv_seq (sv_asg (ev_dynN ev_var (av_cons ev_var (av_cons ev_var av_nil)) (fun _ => .nil) M_why_5_in))
      (sv_seq (sv_if (tv_test (ev_op ev_var ev_non b_isN))
      (sv_ret ev_non)
      sv_next)
      (sv_seq (sv_if (tv_or (tv_test (ev_op ev_var ev_str b_eq)) (tv_test (ev_op ev_var ev_str b_eq)))
      (sv_ret (ev_ot (av_cons ev_str (av_cons ev_var av_nil))))
      sv_next)
      (sv_ret (ev_ot (av_cons ev_str (av_cons ev_var (av_cons (ev_fld (ev_dynN (ev_fld ev_var (fun c => T.fl c _ (by decide +kernel))) (av_cons ev_var (av_cons ev_var av_nil)) (fun _ => .nil) M_member_4_in) (fun c => T.fl c _ (by decide +kernel))) av_nil)))))))) h
theorem ok_names (T : Top K mg A) : C8.Cal P w K mg base 3 "_law_names" (spF K A F_names) [] := by
  have c_take := ok_take (P := P) (w := w) (base := base) T
  have c_of := ok_of (P := P) (w := w) (base := base) T
  refine cal_of T.d_names sc_names (fun _ _ _ _ h => spF_len h) (fun f cdv AA outer s H vs Q E hr h => ⟨_, (pss_cons (ps_asg (pe_tup (pa_cons pe_str (pa_cons pe_str pa_nil))) (pg_tup (by rfl) (pgs_cons (pg_name (i := 2) sc_names.nd rfl (Or.inr rfl)) (pgs_cons (pg_name (i := 3) sc_names.nd rfl (Or.inr rfl)) pgs_nil))))
      (pss_cons (ps_set (i := 4) sc_names.nd rfl (Or.inr rfl) (QE.pe_strJ pe_str (pe_lc (own := [("_law_k", 5)]) (g := (gName 5)) (tt := tYes) (by rfl) sc_names.nd (pi_range1 (by rfl) T.z_range (pa_cons (C8.pe_c c_of hr (by decide) (by rfl) (pa_cons (pv 0) (pa_cons (pe_lst (pa_cons pe_int (pa_cons pe_int (pa_cons pe_int (pa_cons pe_int (pa_cons pe_int pa_nil)))))) pa_nil))) pa_nil)) (blkOk_by (own := [("_law_k", 5)]) (N := ["_law_bag_here", "_law_many", "_law_letters", "_law_signs", "_law_stem", "_law_k", "_law_start", "_law_is_behind", "_law_some", "_law_one"]) (sc := C8.fnScope s_names) (by decide +kernel)) (fun _ _ _ _ _ => (pg_name (i := 5) sc_names.nd rfl (Or.inl rfl))) (fun _ _ _ _ _ => pts_nil) (fun _ _ _ _ _ => (pe_ix ix_str (pv 3) (C8.pe_c c_take hr (by decide) (by rfl) (pa_cons (pv 0) (pa_cons pe_int pa_nil))) (fun _ _ => rfl))))))
      (pss_cons (ps_asg (pe_tup (pa_cons (C8.pe_c c_take hr (by decide) (by rfl) (pa_cons (pv 0) (pa_cons pe_int pa_nil))) (pa_cons (pe_cmpR op_eq (C8.pe_c c_take hr (by decide) (by rfl) (pa_cons (pv 0) (pa_cons pe_int pa_nil))) pe_int (nomark _)) pa_nil))) (pg_tup (by rfl) (pgs_cons (pg_name (i := 6) sc_names.nd rfl (Or.inr rfl)) (pgs_cons (pg_name (i := 7) sc_names.nd rfl (Or.inr rfl)) pgs_nil))))
      (pss_cons (ps_setLc (i := 8) (own := [("_law_k", 5)]) (g := (gName 5)) (tt := tYes) (by rfl) sc_names.nd rfl rfl (sw_true rfl rfl rfl (by decide +kernel)) (pi_range1 (by rfl) T.z_range (pa_cons (pv 1) pa_nil)) (blkOk_by (own := [("_law_k", 5)]) (N := ["_law_bag_here", "_law_many", "_law_letters", "_law_signs", "_law_stem", "_law_k", "_law_start", "_law_is_behind", "_law_some", "_law_one"]) (sc := C8.fnScope s_names) (by decide +kernel)) (fun _ _ _ _ _ => (pg_name (i := 5) sc_names.nd rfl (Or.inl rfl))) (fun _ _ _ _ _ => pts_nil) (fun _ _ _ _ _ => (pe_ix ix_str (pv 2) (pe_op op_mod (pe_op op_add (pv 6) (pe_op op_mul pe_int (pv 5))) pe_int) (fun _ _ => rfl))))
      (pss_one (ps_ret (pe_lc (own := [("_law_one", 9)]) (g := (gName 9)) (tt := tYes) (by rfl) sc_names.nd (pi_list (pv 8)) (blkOk_by (own := [("_law_one", 9)]) (N := ["_law_bag_here", "_law_many", "_law_letters", "_law_signs", "_law_stem", "_law_k", "_law_start", "_law_is_behind", "_law_some", "_law_one"]) (sc := C8.fnScope s_names) (by decide +kernel)) (fun _ _ _ _ _ => (pg_name (i := 9) sc_names.nd rfl (Or.inl rfl))) (fun _ _ _ _ _ => pts_nil) (fun _ _ _ _ _ => (pe_ifExp (pt_val (pv 7)) (pe_op o_adds (pe_op o_adds (pe_ix ix_str (pv 2) (pv 6) (fun _ _ => rfl)) (pv 4)) (pv 9)) (pe_op o_adds (pv 9) (pv 4))))))))))), ?_⟩)
  try dsimp only [cxOf]
  exact fn_run (N := ["_law_bag_here", "_law_many", "_law_letters", "_law_signs", "_law_stem", "_law_k", "_law_start", "_law_is_behind", "_law_some", "_law_one"]) (k := 2)
      (sv_seq (sv_asgT (is := [2, 3]) (ev_ot (av_cons ev_str (av_cons ev_str av_nil))) rfl)
      (sv_seq (sv_asg (ev_strJ (ev_lc (iv_r1 (av_cons (ev_callL (av_cons ev_var (av_cons (ev_lst (av_cons ev_int (av_cons ev_int (av_cons ev_int (av_cons ev_int (av_cons ev_int av_nil)))))) av_nil))) av_nil)) gv_name tv_yes (ev_op ev_var (ev_callL (av_cons ev_var (av_cons ev_int av_nil))) b_ixS) (by decide))))
      (sv_seq (sv_asgT (is := [6, 7]) (ev_ot (av_cons (ev_callL (av_cons ev_var (av_cons ev_int av_nil))) (av_cons (ev_op (ev_callL (av_cons ev_var (av_cons ev_int av_nil))) ev_int b_eq) av_nil))) rfl)
      (sv_seq (sv_asg (ev_lc (iv_r1 (av_cons ev_var av_nil)) gv_name tv_yes (ev_op ev_var (ev_op (ev_op ev_var (ev_op ev_int ev_var b_mul) b_add) ev_int b_mod) b_ixS) (by decide)))
      (sv_ret (ev_lcX rfl gv_name tv_yes (ev_if (tv_b ev_var) (ev_op (ev_op (ev_op ev_var ev_var b_ixS) ev_var b_addS) ev_var b_addS) (ev_op ev_var ev_var b_addS)) (by decide))))))) h
theorem ok_family (T : Top K mg A) : C8.Cal P w K mg base 3 "_law_family" (spF K A F_family) [] := by
  have c_take := ok_take (P := P) (w := w) (base := base) T
  have c_of := ok_of (P := P) (w := w) (base := base) T
  refine cal_of T.d_family sc_family (fun _ _ _ _ h => spF_len h) (fun f cdv AA outer s H vs Q E hr h => ⟨_, (pss_cons (ps_par (i := 2) (j := 3) (by rfl) sc_family.nd rfl rfl (by decide) rfl rfl (pa_cons (C8.pe_c c_take hr (by decide) (by rfl) (pa_cons (pv 0) (pa_cons pe_int pa_nil))) (pa_cons (pe_lst (pa_cons pe_str (pa_cons pe_str (pa_cons pe_str (pa_cons pe_str pa_nil))))) pa_nil)) (by rfl))
      (pss_cons (ps_if (pt_cmpR op_eq (pv 2) pe_int (nomark _))
      (pss_one (ps_ret (pe_lst pa_nil)))
      pss_nil)
      (pss_cons (ps_if (pt_cmpR op_lt (pv 2) pe_int (nomark _))
      (pss_one (ps_ret (pe_lst (pa_cons (pe_tup (pa_cons (pv 1) (pa_cons (C8.pe_c c_of hr (by decide) (by rfl) (pa_cons (pv 0) (pa_cons (pv 3) pa_nil))) (pa_cons pe_int (pa_cons pe_bl pa_nil))))) pa_nil))))
      pss_nil)
      (pss_cons (ps_set (i := 4) sc_family.nd rfl (Or.inl rfl) (pe_op op_add pe_int (C8.pe_c c_take hr (by decide) (by rfl) (pa_cons (pv 0) (pa_cons pe_int pa_nil)))))
      (pss_cons (ps_par3 (i := 5) (j := 6) (l := 7) (by rfl) sc_family.nd rfl rfl rfl (by decide) (by decide) (by decide) rfl rfl rfl (pa_cons (C8.pe_c c_take hr (by decide) (by rfl) (pa_cons (pv 0) (pa_cons (pe_op op_add (pv 4) pe_int) pa_nil))) (pa_cons (C8.pe_c c_take hr (by decide) (by rfl) (pa_cons (pv 0) (pa_cons pe_int pa_nil))) (pa_cons (pe_lst pa_nil) pa_nil))) (by rfl))
      (pss_cons (ps_for PassesOwn.never rfl (pi_range1 (by rfl) T.z_range (pa_cons (pv 4) pa_nil)) (pg_name (i := 8) sc_family.nd rfl (Or.inl rfl))
      (pss_cons (ps_set (i := 6) sc_family.nd rfl (Or.inl rfl) (pe_op op_add (pe_op op_add (pv 6) pe_int) (C8.pe_c c_take hr (by decide) (by rfl) (pa_cons (pv 0) (pa_cons pe_int pa_nil)))))
      (pss_one (ps_expr (pe_bm PySem.F.plainAttrs_list PySem.F.slot_list_append PySem.F.type_list_append mt_append (pv 7) (pa_cons (pe_tup (pa_cons (pv 1) (pa_cons (C8.pe_c c_of hr (by decide) (by rfl) (pa_cons (pv 0) (pa_cons (pv 3) pa_nil))) (pa_cons (pv 6) (pa_cons (pe_cmpR op_eq (pv 8) (pv 5) (nomark _)) pa_nil))))) pa_nil))))))
      (pss_one (ps_ret (pv 7))))))))), ?_⟩)
  try dsimp only [cxOf]
  exact fn_run (N := ["_law_bag_here", "_law_name", "_law_way", "_law_doors", "_law_many", "_law_usual", "_law_tag", "_law_found", "_law_k"]) (k := 2)
      (sv_seq (sv_par (av_cons (ev_callL (av_cons ev_var (av_cons ev_int av_nil))) (av_cons (ev_lst (av_cons ev_str (av_cons ev_str (av_cons ev_str (av_cons ev_str av_nil))))) av_nil)))
      (sv_seq (sv_if (tv_test (ev_op ev_var ev_int b_eq))
      (sv_ret (ev_lst av_nil))
      sv_next)
      (sv_seq (sv_if (tv_test (ev_op ev_var ev_int b_lt))
      (sv_ret (ev_lst (av_cons (ev_tup (av_cons ev_var (av_cons (ev_callL (av_cons ev_var (av_cons ev_var av_nil))) (av_cons ev_int (av_cons ev_bl av_nil))))) av_nil)))
      sv_next)
      (sv_seq (sv_asg (ev_op ev_int (ev_callL (av_cons ev_var (av_cons ev_int av_nil))) b_add))
      (sv_seq (sv_par3 (av_cons (ev_callL (av_cons ev_var (av_cons (ev_op ev_var ev_int b_add) av_nil))) (av_cons (ev_callL (av_cons ev_var (av_cons ev_int av_nil))) (av_cons (ev_lst av_nil) av_nil))))
      (sv_seq (sv_for (iv_r1 (av_cons ev_var av_nil)) gv_name
      (sv_seq (sv_asg (ev_op (ev_op ev_var ev_int b_add) (ev_callL (av_cons ev_var (av_cons ev_int av_nil))) b_add))
      (sv_drop (ev_mut (av_cons (ev_tup (av_cons ev_var (av_cons (ev_callL (av_cons ev_var (av_cons ev_var av_nil))) (av_cons ev_var (av_cons (ev_op ev_var ev_var b_eq) av_nil))))) av_nil) m_append))))
      (sv_ret ev_var))))))) h
theorem ok_rows (T : Top K mg A) : C8.Cal P w K mg base 3 "_law_rows" (spF K A F_rows) [] := by
  have mk_Tell1 := mk_Tell1 (P := P) (w := w) (base := base) T
  have mk_Call3 := mk_Call3 (P := P) (w := w) (base := base) T
  have mk_Call2 := mk_Call2 (P := P) (w := w) (base := base) T
  have c_take := ok_take (P := P) (w := w) (base := base) T
  have c_of := ok_of (P := P) (w := w) (base := base) T
  refine cal_of T.d_rows sc_rows (fun _ _ _ _ h => spF_len h) (fun f cdv AA outer s H vs Q E hr h => ⟨_, (pss_cons (ps_set (i := 2) sc_rows.nd rfl (Or.inl rfl) (pe_lst pa_nil))
      (pss_cons (ps_for PassesOwn.never rfl (pi_range1 (by rfl) T.z_range (pa_cons (pe_op op_add pe_int (C8.pe_c c_take hr (by decide) (by rfl) (pa_cons (pv 0) (pa_cons pe_int pa_nil)))) pa_nil)) (pg_name (i := 3) sc_rows.nd rfl (Or.inl rfl))
      (pss_cons (ps_set (i := 4) sc_rows.nd rfl (Or.inl rfl) (pe_tup (pa_cons pe_str (pa_cons (C8.pe_c c_of hr (by decide) (by rfl) (pa_cons (pv 0) (pa_cons (pe_lst (pa_cons pe_int (pa_cons pe_int (pa_cons pe_int (pa_cons pe_int (pa_cons (pe_un un_neg pe_int) pa_nil)))))) pa_nil))) pa_nil))))
      (pss_one (ps_if (PW.pt (pw_and (pt_cmpR (op_neD hr.units) (pv 1) (pe_lst pa_nil) (nomark _)) (pw_and (pt_cmpR op_lt (pv 3) pe_int (nomark _)) (pw_and1 (pt_cmpR op_gt (C8.pe_c c_take hr (by decide) (by rfl) (pa_cons (pv 0) (pa_cons pe_int pa_nil))) pe_int (nomark _))))))
      (pss_cons (ps_asg (C8.pe_c c_of hr (by decide) (by rfl) (pa_cons (pv 0) (pa_cons (pv 1) pa_nil))) (pg_tup (by rfl) (pgs_cons (pg_name (i := 5) sc_rows.nd rfl (Or.inl rfl)) (pgs_cons (pg_name (i := 6) sc_rows.nd rfl (Or.inl rfl)) pgs_nil))))
      (pss_one (ps_expr (pe_bm PySem.F.plainAttrs_list PySem.F.slot_list_append PySem.F.type_list_append mt_append (pv 2) (pa_cons (C8.pe_mk mk_Call3 hr (by decide) (by rfl) (pa_cons (pv 5) (pa_cons (pv 4) (pa_cons (pv 6) pa_nil)))) pa_nil)))))
      (pss_one (ps_expr (pe_bm PySem.F.plainAttrs_list PySem.F.slot_list_append PySem.F.type_list_append mt_append (pv 2) (pa_cons (C8.pe_mk mk_Tell1 hr (by decide) (by rfl) (pa_cons (pv 4) pa_nil)) pa_nil))))))))
      (pss_one (ps_ret (pv 2))))), ?_⟩)
  try dsimp only [cxOf]
  exact fn_run (N := ["_law_bag_here", "_law_calls", "_law_rows_here", "_law_k", "_law_number", "_law_name", "_law_tag"]) (k := 2)
      (sv_seq (sv_asg (ev_lst av_nil))
      (sv_seq (sv_for (iv_r1 (av_cons (ev_op ev_int (ev_callL (av_cons ev_var (av_cons ev_int av_nil))) b_add) av_nil)) gv_name
      (sv_seq (sv_asg (ev_tup (av_cons ev_str (av_cons (ev_callL (av_cons ev_var (av_cons (ev_lst (av_cons ev_int (av_cons ev_int (av_cons ev_int (av_cons ev_int (av_cons (ev_un ev_int b_neg) av_nil)))))) av_nil))) av_nil))))
      (sv_if (tv_and (tv_test (ev_op ev_var (ev_lst av_nil) b_neD)) (tv_and (tv_test (ev_op ev_var ev_int b_lt)) (tv_test (ev_op (ev_callL (av_cons ev_var (av_cons ev_int av_nil))) ev_int b_gt))))
      (sv_seq (sv_asgT (is := [5, 6]) (ev_callL (av_cons ev_var (av_cons ev_var av_nil))) rfl)
      (sv_drop (ev_mut (av_cons (ev_make (av_cons ev_var (av_cons ev_var (av_cons ev_var av_nil))) (fun _ => .nil)) av_nil) m_append)))
      (sv_drop (ev_mut (av_cons (ev_make (av_cons ev_var av_nil) (fun _ => .nil)) av_nil) m_append)))))
      (sv_ret ev_var))) h
theorem ok_ltargets (T : Top K mg A) : C8.Cal P w K mg base 3 "_law_targets" (spF K A F_ltargets) [] := by
  have mk_Call3 := mk_Call3 (P := P) (w := w) (base := base) T
  have mk_Call2 := mk_Call2 (P := P) (w := w) (base := base) T
  have mk_Member5 := mk_Member5 (P := P) (w := w) (base := base) T
  have c_due := ok_due (P := P) (w := w) (base := base) T
  refine cal_of T.d_ltargets sc_ltargets (fun _ _ _ _ h => spF_len h) (fun f cdv AA outer s H vs Q E hr h => ⟨_, (pss_cons (ps_set (i := 4) sc_ltargets.nd rfl (Or.inl rfl) (pe_lst pa_nil))
      (pss_cons (ps_for PassesOwn.never rfl (pi_tup (pe_fld (pv 0) rfl)) (pg_name (i := 5) sc_ltargets.nd rfl (Or.inl rfl))
      (pss_cons (ps_set (i := 6) sc_ltargets.nd rfl (Or.inl rfl) (pe_tup (pa_cons pe_str (pa_cons (pe_fld (pv 5) rfl) pa_nil))))
      (pss_cons (ps_if (pt_val (pe_callB call_isi (by rfl) T.z_isinstance (by decide +kernel) (pa_cons (pv 5) (pa_cons (pe_glob (v := .ref (A 3)) (by rfl) T.g_Member rfl) pa_nil))))
      (pss_one (ps_set (i := 6) sc_ltargets.nd rfl (Or.inl rfl) (pe_tup (pa_cons pe_str (pa_cons (pe_fld (pv 5) rfl) (pa_cons (pe_fld (pv 5) rfl) pa_nil))))))
      pss_nil)
      (pss_one (ps_for PassesOwn.never rfl (QT.pi_enumT (by rfl) T.z_enumerate (pa_cons (pe_fld (pv 5) rfl) pa_nil)) (pg_tup (by rfl) (pgs_cons (pg_name (i := 7) sc_ltargets.nd rfl (Or.inl rfl)) (pgs_cons (pg_name (i := 8) sc_ltargets.nd rfl (Or.inl rfl)) pgs_nil)))
      (pss_one (ps_if (pt_val (pe_callB call_isi (by rfl) T.z_isinstance (by decide +kernel) (pa_cons (pv 8) (pa_cons (pe_glob (v := .ref (A 1)) (by rfl) T.g_Call rfl) pa_nil))))
      (pss_cons (ps_asg (C8.pe_c c_due hr (by decide) (by rfl) (pa_cons (pv 1) (pa_cons (pv 2) (pa_cons (pv 3) (pa_cons (pe_fld (pv 8) rfl) (pa_cons (pe_fld (pv 8) rfl) pa_nil)))))) (pg_tup (by rfl) (pgs_cons (pg_name (i := 9) sc_ltargets.nd rfl (Or.inl rfl)) (pgs_cons (pg_name (i := 10) sc_ltargets.nd rfl (Or.inl rfl)) pgs_nil))))
      (pss_one (ps_expr (pe_bm PySem.F.plainAttrs_list PySem.F.slot_list_append PySem.F.type_list_append mt_append (pv 4) (pa_cons (pe_tup (pa_cons (pv 6) (pa_cons (pv 7) (pa_cons (pe_fld (pv 8) rfl) (pa_cons (pe_fld (pv 8) rfl) (pa_cons (pv 9) (pa_cons (pv 10) pa_nil))))))) pa_nil)))))
      pss_nil)))))))
      (pss_one (ps_ret (pv 4))))), ?_⟩)
  try dsimp only [cxOf]
  exact fn_run (N := ["_law_edition_here", "_law_members_here", "_law_wants", "_law_given", "_law_found", "_law_block", "_law_head", "_law_k", "_law_row", "_law_target", "_law_reason"]) (k := 4)
      (sv_seq (sv_asg (ev_lst av_nil))
      (sv_seq (sv_for (iv_tup (ev_fld ev_var (fun c => T.fl c _ (by decide +kernel)))) gv_name
      (sv_seq (sv_asg (ev_tup (av_cons ev_str (av_cons (ev_fld ev_var (fun c => T.fl c _ (by decide +kernel))) av_nil))))
      (sv_seq (sv_if (tv_b (ev_cb (av_cons ev_var (av_cons ev_cls av_nil)) (b_isi T.kits)))
      (sv_asg (ev_tup (av_cons ev_str (av_cons (ev_fld ev_var (fun c => T.fl c _ (by decide +kernel))) (av_cons (ev_fld ev_var (fun c => T.fl c _ (by decide +kernel))) av_nil)))))
      sv_next)
      (sv_for (iv_enumT (ev_fld ev_var (fun c => T.fl c _ (by decide +kernel)))) (gv_tup (gv_cons gv_name (gv_cons gv_name gv_nil)))
      (sv_if (tv_b (ev_cb (av_cons ev_var (av_cons ev_cls av_nil)) (b_isi T.kits)))
      (sv_seq (sv_asgT (is := [9, 10]) (ev_call (av_cons ev_var (av_cons ev_var (av_cons ev_var (av_cons (ev_fld ev_var (fun c => T.fl c _ (by decide +kernel))) (av_cons (ev_fld ev_var (fun c => T.fl c _ (by decide +kernel))) av_nil)))))) rfl)
      (sv_drop (ev_mut (av_cons (ev_tup (av_cons ev_var (av_cons ev_var (av_cons (ev_fld ev_var (fun c => T.fl c _ (by decide +kernel))) (av_cons (ev_fld ev_var (fun c => T.fl c _ (by decide +kernel))) (av_cons ev_var (av_cons ev_var av_nil))))))) av_nil) m_append)))
      sv_next)))))
      (sv_ret ev_var))) h
theorem ok_Scope_targets (T : Top K mg A) : C8.Met P w K mg base 4 (A 5) "targets" (spF K A F_Scope_targets) [] := by
  have mk_Call3 := mk_Call3 (P := P) (w := w) (base := base) T
  have mk_Call2 := mk_Call2 (P := P) (w := w) (base := base) T
  have c_head_of := ok_head_of (P := P) (w := w) (base := base) T
  have c_reach_5 : ∀ i : { c : Nat // c = 5 }, C8.Met P w K mg base 3 (A i.1) "reach" (spF K A (M_reach_5 i.1)) [] := fun i => by
    obtain ⟨c, h⟩ := i
    rcases h with rfl
    exact met_mono (ok_Scope_reach T) (by decide)
  have c_reach_5d1 : ∀ i : { c : Nat // c = 5 }, C8.Met P w K mg base 3 (A i.1) "reach" (spF K A (M_reach_5 i.1)) [(.int 0)] := fun i => by
    obtain ⟨c, h⟩ := i
    rcases h with rfl
    exact met_mono (ok_Scope_reachd1 T) (by decide)
  have c_why_5 : ∀ i : { c : Nat // c = 5 }, C8.Met P w K mg base 2 (A i.1) "why" (spF K A (M_why_5 i.1)) [] := fun i => by
    obtain ⟨c, h⟩ := i
    rcases h with rfl
    exact met_mono (ok_Scope_why T) (by decide)
  have c_why_5d1 : ∀ i : { c : Nat // c = 5 }, C8.Met P w K mg base 2 (A i.1) "why" (spF K A (M_why_5 i.1)) [(.int 0)] := fun i => by
    obtain ⟨c, h⟩ := i
    rcases h with rfl
    exact met_mono (ok_Scope_whyd1 T) (by decide)
  refine met_of T.m_Scope_targets sc_Scope_targets (fun _ _ _ _ h => spF_len h) (fun f cdv AA outer s H vs Q E hr h => ⟨_, (pss_cons (ps_set (i := 1) sc_Scope_targets.nd rfl (Or.inl rfl) (pe_lst pa_nil))
      (pss_cons (ps_for PassesOwn.never rfl (pi_tup (pe_fld (pe_fld (pv 0) rfl) rfl)) (pg_name (i := 2) sc_Scope_targets.nd rfl (Or.inl rfl))
      (pss_one (ps_for PassesOwn.never rfl (QT.pi_enumT (by rfl) T.z_enumerate (pa_cons (pe_fld (pv 2) rfl) pa_nil)) (pg_tup (by rfl) (pgs_cons (pg_name (i := 3) sc_Scope_targets.nd rfl (Or.inl rfl)) (pgs_cons (pg_name (i := 4) sc_Scope_targets.nd rfl (Or.inl rfl)) pgs_nil)))
      (pss_one (ps_if (pt_val (pe_callB call_isi (by rfl) T.z_isinstance (by decide +kernel) (pa_cons (pv 4) (pa_cons (pe_glob (v := .ref (A 1)) (by rfl) T.g_Call rfl) pa_nil))))
      (pss_cons (ps_set (i := 5) sc_Scope_targets.nd rfl (Or.inl rfl) (QT.pe_dynN (pl := _) c_reach_5 hr (by decide) (pv 0) (pa_cons (pe_fld (pv 4) rfl) (pa_cons (pe_fld (pv 4) rfl) pa_nil))))
      (pss_one (ps_expr (pe_bm PySem.F.plainAttrs_list PySem.F.slot_list_append PySem.F.type_list_append mt_append (pv 1) (pa_cons (pe_tup (pa_cons (C8.pe_c c_head_of hr (by decide) (by rfl) (pa_cons (pv 2) pa_nil)) (pa_cons (pv 3) (pa_cons (pe_fld (pv 4) rfl) (pa_cons (pe_fld (pv 4) rfl) (pa_cons (pv 5) (pa_cons (QT.pe_dynN (pl := _) c_why_5 hr (by decide) (pv 0) (pa_cons (pe_fld (pv 4) rfl) (pa_cons (pe_fld (pv 4) rfl) pa_nil))) pa_nil))))))) pa_nil)))))
      pss_nil)))))
      (pss_one (ps_ret (pv 1))))), ?_⟩)
  try dsimp only [cxOf]
  exact fn_run (N := ["self", "found", "block", "at", "row", "target"]) (k := 1)
      (sv_seq (sv_asg (ev_lst av_nil))
      (sv_seq (sv_for (iv_tup (ev_fld (ev_fld ev_var (fun c => T.fl c _ (by decide +kernel))) (fun c => T.fl c _ (by decide +kernel)))) gv_name
      (sv_for (iv_enumT (ev_fld ev_var (fun c => T.fl c _ (by decide +kernel)))) (gv_tup (gv_cons gv_name (gv_cons gv_name gv_nil)))
      (sv_if (tv_b (ev_cb (av_cons ev_var (av_cons ev_cls av_nil)) (b_isi T.kits)))
      (sv_seq (sv_asg (ev_dynN ev_var (av_cons (ev_fld ev_var (fun c => T.fl c _ (by decide +kernel))) (av_cons (ev_fld ev_var (fun c => T.fl c _ (by decide +kernel))) av_nil)) (fun _ => .nil) M_reach_5_in))
      (sv_drop (ev_mut (av_cons (ev_tup (av_cons (ev_call (av_cons ev_var av_nil)) (av_cons ev_var (av_cons (ev_fld ev_var (fun c => T.fl c _ (by decide +kernel))) (av_cons (ev_fld ev_var (fun c => T.fl c _ (by decide +kernel))) (av_cons ev_var (av_cons (ev_dynN ev_var (av_cons (ev_fld ev_var (fun c => T.fl c _ (by decide +kernel))) (av_cons (ev_fld ev_var (fun c => T.fl c _ (by decide +kernel))) av_nil)) (fun _ => .nil) M_why_5_in) av_nil))))))) av_nil) m_append)))
      sv_next)))
      (sv_ret ev_var))) h
theorem ok_members (T : Top K mg A) : C8.Cal P w K mg base 4 "_law_members" (spF K A F_members) [] := by
  have c_family := ok_family (P := P) (w := w) (base := base) T
  refine cal_of T.d_members sc_members (fun _ _ _ _ h => spF_len h) (fun f cdv AA outer s H vs Q E hr h => ⟨_, (pss_cons (ps_set (i := 2) sc_members.nd rfl (Or.inl rfl) (pe_lst pa_nil))
      (pss_cons (ps_for PassesOwn.never rfl (pi_list (pv 1)) (pg_name (i := 3) sc_members.nd rfl (Or.inl rfl))
      (pss_cons (ps_set (i := 4) sc_members.nd rfl (Or.inl rfl) (C8.pe_c c_family hr (by decide) (by rfl) (pa_cons (pv 0) (pa_cons (pv 3) pa_nil))))
      (pss_one (ps_if (pt_cmpR op_le (pe_op op_add (pe_callB c_len (by rfl) T.z_len (by decide +kernel) (pa_cons (pv 2) pa_nil)) (pe_callB c_len (by rfl) T.z_len (by decide +kernel) (pa_cons (pv 4) pa_nil))) pe_int (nomark _))
      (pss_one (ps_set (i := 2) sc_members.nd rfl (Or.inl rfl) (pe_op QT.op_catK (pv 2) (pv 4))))
      pss_nil))))
      (pss_one (ps_ret (pv 2))))), ?_⟩)
  try dsimp only [cxOf]
  exact fn_run (N := ["_law_bag_here", "_law_names_here", "_law_found", "_law_name", "_law_family_here"]) (k := 2)
      (sv_seq (sv_asg (ev_lst av_nil))
      (sv_seq (sv_for (iv_lst ev_var) gv_name
      (sv_seq (sv_asg (ev_callL (av_cons ev_var (av_cons ev_var av_nil))))
      (sv_if (tv_test (ev_op (ev_op (ev_cb (av_cons ev_var av_nil) b_len) (ev_cb (av_cons ev_var av_nil) b_len) b_add) ev_int b_le))
      (sv_asg (ev_op ev_var ev_var b_cat))
      sv_next)))
      (sv_ret ev_var))) h
theorem ok_Edition_eq (T : Top K mg A) : C8.Met P w K mg base 5 (A 4) "__eq__" (spF K A F_Edition_eq) [] := by
  have mk_Edition5 := mk_Edition5 (P := P) (w := w) (base := base) T
  have c_text_4 : ∀ i : { c : Nat // c = 4 }, C8.Met P w K mg base 3 (A i.1) "text" (spF K A (M_text_4 i.1)) [] := fun i => by
    obtain ⟨c, h⟩ := i
    rcases h with rfl
    exact met_mono (ok_Edition_text T) (by decide)
  refine met_of T.m_Edition_eq sc_Edition_eq (fun _ _ _ _ h => spF_len h) (fun f cdv AA outer s H vs Q E hr h => ⟨_, (pss_one (ps_ret (pe_and (pe_callB call_isi (by rfl) T.z_isinstance (by decide +kernel) (pa_cons (pv 1) (pa_cons (pe_glob (v := .ref (A 4)) (by rfl) T.g_Edition rfl) pa_nil))) (pe_one (pe_cmpR op_eq (QC.pe_dyn0 (pl := _) c_text_4 hr (by decide) (pv 0)) (QC.pe_dyn0 (pl := _) c_text_4 hr (by decide) (pv 1)) (nomark _)))))), ?_⟩)
  try dsimp only [cxOf]
  exact fn_run (N := ["self", "other"]) (k := 2)
      (sv_ret (ev_and (ev_cb (av_cons ev_var (av_cons ev_cls av_nil)) (b_isi T.kits)) (ev_op (ev_dyn ev_var M_text_4_in) (ev_dyn ev_var M_text_4_in) b_eq))) h
theorem ok_Scope_entered (T : Top K mg A) : C8.Met P w K mg base 5 (A 5) "entered" (spF K A F_Scope_entered) [] := by
  have c_targets_5 : ∀ i : { c : Nat // c = 5 }, C8.Met P w K mg base 4 (A i.1) "targets" (spF K A (M_targets_5 i.1)) [] := fun i => by
    obtain ⟨c, h⟩ := i
    rcases h with rfl
    exact met_mono (ok_Scope_targets T) (by decide)
  refine met_of T.m_Scope_entered sc_Scope_entered (fun _ _ _ _ h => spF_len h) (fun f cdv AA outer s H vs Q E hr h => ⟨_, (pss_one (ps_ret (pe_callB (QU.c_sortK rfl) (by rfl) T.z_sorted (by decide +kernel) (pa_cons (QU.pe_sk (own := [("head", 1), ("at", 2), ("name", 3), ("tag", 4), ("target", 5), ("reason", 6)]) (g := (gTup K 6 (gCons (gName 1) (gCons (gName 2) (gCons (gName 3) (gCons (gName 4) (gCons (gName 5) (gCons (gName 6) gNil)))))))) (by rfl) sc_Scope_entered.nd (pi_list (QC.pe_dyn0 (pl := _) c_targets_5 hr (by decide) (pv 0))) (blkOk_by (own := [("head", 1), ("at", 2), ("name", 3), ("tag", 4), ("target", 5), ("reason", 6)]) (N := ["self", "head", "at", "name", "tag", "target", "reason"]) (sc := C8.fnScope s_Scope_entered) (by decide +kernel)) (fun _ _ _ _ _ => (pg_tup (by rfl) (pgs_cons (pg_name (i := 1) sc_Scope_entered.nd rfl (Or.inl rfl)) (pgs_cons (pg_name (i := 2) sc_Scope_entered.nd rfl (Or.inl rfl)) (pgs_cons (pg_name (i := 3) sc_Scope_entered.nd rfl (Or.inl rfl)) (pgs_cons (pg_name (i := 4) sc_Scope_entered.nd rfl (Or.inl rfl)) (pgs_cons (pg_name (i := 5) sc_Scope_entered.nd rfl (Or.inl rfl)) (pgs_cons (pg_name (i := 6) sc_Scope_entered.nd rfl (Or.inl rfl)) pgs_nil)))))))) (fun _ _ _ _ _ => (pts_one (pt_cmpR op_eq (pe_ix (kixT K rfl) (pv 5) pe_int (fun _ _ => rfl)) pe_str (nomark _)))) (fun _ _ _ _ _ => (pv 3))) pa_nil)))), ?_⟩)
  try dsimp only [cxOf]
  exact fn_run (N := ["self", "head", "at", "name", "tag", "target", "reason"]) (k := 1)
      (sv_ret (ev_sortSc (iv_lst (ev_dyn ev_var M_targets_5_in)) (gv_tup (gv_cons gv_name (gv_cons gv_name (gv_cons gv_name (gv_cons gv_name (gv_cons gv_name (gv_cons gv_name gv_nil))))))) (tv_test (ev_op (ev_op ev_var ev_int b_ixT) ev_str b_eq)) ev_var (by decide))) h
theorem ok_ledition (T : Top K mg A) : C8.Cal P w K mg base 5 "_law_edition" (spF K A F_ledition) [] := by
  have mk_First3 := mk_First3 (P := P) (w := w) (base := base) T
  have mk_Member5 := mk_Member5 (P := P) (w := w) (base := base) T
  have c_take := ok_take (P := P) (w := w) (base := base) T
  have c_takes := ok_takes (P := P) (w := w) (base := base) T
  have c_of := ok_of (P := P) (w := w) (base := base) T
  have mk_Edition5 := mk_Edition5 (P := P) (w := w) (base := base) T
  have c_rows := ok_rows (P := P) (w := w) (base := base) T
  refine cal_of T.d_ledition sc_ledition (fun _ _ _ _ h => spF_len h) (fun f cdv AA outer s H vs Q E hr h => ⟨_, (pss_cons (ps_par (i := 5) (j := 6) (by rfl) sc_ledition.nd rfl rfl (by decide) rfl rfl (pa_cons (pe_lc (own := [("_law_name", 7)]) (g := (gName 7)) (tt := tYes) (by rfl) sc_ledition.nd (pi_list (pv 3)) (blkOk_by (own := [("_law_name", 7)]) (N := ["_law_bag_here", "_law_title", "_law_members_here", "_law_wants", "_law_cells", "_law_back", "_law_blocks", "_law_name", "_law_k", "_law_access", "_law_tag", "_law_usual", "_law_rows_here", "_law_after", "_law_place", "_law_kept", "_law_many"]) (sc := C8.fnScope s_ledition) (by decide +kernel)) (fun _ _ _ _ _ => (pg_name (i := 7) sc_ledition.nd rfl (Or.inl rfl))) (fun _ _ _ _ _ => pts_nil) (fun _ _ _ _ _ => (pe_tup (pa_cons (pv 7) (pa_cons pe_int pa_nil))))) (pa_cons (pe_lst pa_nil) pa_nil)) (by rfl))
      (pss_cons (ps_for PassesOwn.never rfl (pi_enum (by rfl) T.z_enumerate (pa_cons (pv 2) pa_nil)) (pg_tup (by rfl) (pgs_cons (pg_name (i := 8) sc_ledition.nd rfl (Or.inl rfl)) (pgs_cons (pg_tup (by rfl) (pgs_cons (pg_name (i := 7) sc_ledition.nd rfl (Or.inl rfl)) (pgs_cons (pg_name (i := 9) sc_ledition.nd rfl (Or.inl rfl)) (pgs_cons (pg_name (i := 10) sc_ledition.nd rfl (Or.inl rfl)) (pgs_cons (pg_name (i := 11) sc_ledition.nd rfl (Or.inl rfl)) pgs_nil))))) pgs_nil)))
      (pss_cons (ps_set (i := 12) sc_ledition.nd rfl (Or.inl rfl) (C8.pe_c c_rows hr (by decide) (by rfl) (pa_cons (pv 0) (pa_cons (pe_op QT.op_catK (pv 5) (C8.pe_c c_takes hr (by decide) (by rfl) (pa_cons (pe_slice sl_list (pv 2) (po_some (pe_op op_add (pv 8) pe_int)) po_none) pa_nil))) pa_nil))))
      (pss_one (ps_expr (pe_bm PySem.F.plainAttrs_list PySem.F.slot_list_append PySem.F.type_list_append mt_append (pv 6) (pa_cons (C8.pe_mk mk_Member5 hr (by decide) (by rfl) (pa_cons (pv 7) (pa_cons (pv 9) (pa_cons (pv 10) (pa_cons (pv 11) (pa_cons (pv 12) pa_nil)))))) pa_nil))))))
      (pss_cons (ps_for PassesOwn.never rfl (pi_list (pe_slice sl_list (pe_lst (pa_cons pe_str (pa_cons pe_str pa_nil))) po_none (po_some (C8.pe_c c_take hr (by decide) (by rfl) (pa_cons (pv 0) (pa_cons pe_int pa_nil)))))) (pg_name (i := 7) sc_ledition.nd rfl (Or.inl rfl))
      (pss_cons (ps_set (i := 13) sc_ledition.nd rfl (Or.inl rfl) (pe_ifExp (pt_cmpR op_eq (pv 7) pe_str (nomark _)) (C8.pe_c c_of hr (by decide) (by rfl) (pa_cons (pv 0) (pa_cons (pe_lst (pa_cons (pe_tup pa_nil) (pa_cons (pe_tup (pa_cons pe_str pa_nil)) pa_nil))) pa_nil))) (pe_tup pa_nil)))
      (pss_cons (ps_set (i := 14) sc_ledition.nd rfl (Or.inl rfl) (C8.pe_c c_take hr (by decide) (by rfl) (pa_cons (pv 0) (pa_cons (pe_op op_add (pe_callB c_len (by rfl) T.z_len (by decide +kernel) (pa_cons (pv 6) pa_nil)) pe_int) pa_nil))))
      (pss_one (ps_expr (pe_bm PySem.F.plainAttrs_list PySem.F.slot_list_insert PySem.F.type_list_insert QE.m_ins (pv 6) (pa_cons (pv 14) (pa_cons (C8.pe_mk mk_First3 hr (by decide) (by rfl) (pa_cons (pv 7) (pa_cons (pv 13) (pa_cons (C8.pe_c c_rows hr (by decide) (by rfl) (pa_cons (pv 0) (pa_cons (pe_op QT.op_catK (pv 5) (C8.pe_c c_takes hr (by decide) (by rfl) (pa_cons (pv 2) pa_nil))) pa_nil))) pa_nil)))) pa_nil))))))))
      (pss_cons (ps_set (i := 15) sc_ledition.nd rfl (Or.inl rfl) pe_dnewK)
      (pss_cons (ps_for PassesOwn.never rfl (pi_list (pv 4)) (pg_tup (by rfl) (pgs_cons (pg_name (i := 7) sc_ledition.nd rfl (Or.inl rfl)) (pgs_cons (pg_name (i := 9) sc_ledition.nd rfl (Or.inl rfl)) (pgs_cons (pg_name (i := 16) sc_ledition.nd rfl (Or.inl rfl)) pgs_nil))))
      (pss_one ps_never))
      (pss_one (ps_ret (C8.pe_mk mk_Edition5 hr (by decide) (by rfl) (pa_cons (pv 1) (pa_cons pe_dnewK (pa_cons (pv 15) (pa_cons (pe_callTy c_tup (by rfl) T.z_tuple (by decide +kernel) (pa_cons (pv 3) pa_nil)) (pa_cons (pe_callTy c_tup (by rfl) T.z_tuple (by decide +kernel) (pa_cons (pv 6) pa_nil)) pa_nil))))))))))))), ?_⟩)
  try dsimp only [cxOf]
  exact fn_run (N := ["_law_bag_here", "_law_title", "_law_members_here", "_law_wants", "_law_cells", "_law_back", "_law_blocks", "_law_name", "_law_k", "_law_access", "_law_tag", "_law_usual", "_law_rows_here", "_law_after", "_law_place", "_law_kept", "_law_many"]) (k := 5)
      (sv_seq (sv_par (av_cons (ev_lcX rfl gv_name tv_yes (ev_tup (av_cons ev_var (av_cons ev_int av_nil))) (by decide)) (av_cons (ev_lst av_nil) av_nil)))
      (sv_seq (sv_for (iv_enum ev_var) (gv_tup (gv_cons gv_name (gv_cons (gv_tup (gv_cons gv_name (gv_cons gv_name (gv_cons gv_name (gv_cons gv_name gv_nil))))) gv_nil)))
      (sv_seq (sv_asg (ev_callL (av_cons ev_var (av_cons (ev_op ev_var (ev_call (av_cons (ev_sl ev_var (ov_some (ev_op ev_var ev_int b_add)) ov_no b_slL) av_nil)) b_cat) av_nil))))
      (sv_drop (ev_mut (av_cons (ev_make (av_cons ev_var (av_cons ev_var (av_cons ev_var (av_cons ev_var (av_cons ev_var av_nil))))) (fun _ => .nil)) av_nil) m_append))))
      (sv_seq (sv_for (iv_lst (ev_sl (ev_lst (av_cons ev_str (av_cons ev_str av_nil))) ov_no (ov_some (ev_callL (av_cons ev_var (av_cons ev_int av_nil)))) b_slL)) gv_name
      (sv_seq (sv_asg (ev_if (tv_test (ev_op ev_var ev_str b_eq)) (ev_callL (av_cons ev_var (av_cons (ev_lst (av_cons (ev_tup av_nil) (av_cons (ev_tup (av_cons ev_str av_nil)) av_nil))) av_nil))) (ev_tup av_nil)))
      (sv_seq (sv_asg (ev_callL (av_cons ev_var (av_cons (ev_op (ev_cb (av_cons ev_var av_nil) b_len) ev_int b_add) av_nil))))
      (sv_drop (ev_mut (av_cons ev_var (av_cons (ev_make (av_cons ev_var (av_cons ev_var (av_cons (ev_callL (av_cons ev_var (av_cons (ev_op ev_var (ev_call (av_cons ev_var av_nil)) b_cat) av_nil))) av_nil))) (fun _ => .nil)) av_nil)) m_insert)))))
      (sv_seq (sv_asg ev_dnew)
      (sv_seq (sv_for (iv_lst ev_var) (gv_tup (gv_cons gv_name (gv_cons gv_name (gv_cons gv_name gv_nil))))
      sv_dead)
      (sv_ret (ev_make (av_cons ev_var (av_cons ev_dnew (av_cons ev_var (av_cons (ev_cb (av_cons ev_var av_nil) b_tupl) (av_cons (ev_cb (av_cons ev_var av_nil) b_tupl) av_nil))))) (fun _ => .nil)))))))) h
theorem ok_holds (T : Top K mg A) : QG.CalG P w K mg base 6 "_law_holds" (spF K A F_holds) := by
  have c_due := ok_due (P := P) (w := w) (base := base) T
  have c_llanded := ok_llanded (P := P) (w := w) (base := base) T
  have c_landed := ok_landed (P := P) (w := w) (base := base) T
  have c_ltargets := ok_ltargets (P := P) (w := w) (base := base) T
  have c_targets_5 : ∀ i : { c : Nat // c = 5 }, C8.Met P w K mg base 4 (A i.1) "targets" (spF K A (M_targets_5 i.1)) [] := fun i => by
    obtain ⟨c, h⟩ := i
    rcases h with rfl
    exact met_mono (ok_Scope_targets T) (by decide)
  have c_entered_5 : ∀ i : { c : Nat // c = 5 }, C8.Met P w K mg base 5 (A i.1) "entered" (spF K A (M_entered_5 i.1)) [] := fun i => by
    obtain ⟨c, h⟩ := i
    rcases h with rfl
    exact met_mono (ok_Scope_entered T) (by decide)
  have c_reach_5 : ∀ i : { c : Nat // c = 5 }, C8.Met P w K mg base 3 (A i.1) "reach" (spF K A (M_reach_5 i.1)) [] := fun i => by
    obtain ⟨c, h⟩ := i
    rcases h with rfl
    exact met_mono (ok_Scope_reach T) (by decide)
  have c_reach_5d1 : ∀ i : { c : Nat // c = 5 }, C8.Met P w K mg base 3 (A i.1) "reach" (spF K A (M_reach_5 i.1)) [(.int 0)] := fun i => by
    obtain ⟨c, h⟩ := i
    rcases h with rfl
    exact met_mono (ok_Scope_reachd1 T) (by decide)
  have c_why_5 : ∀ i : { c : Nat // c = 5 }, C8.Met P w K mg base 2 (A i.1) "why" (spF K A (M_why_5 i.1)) [] := fun i => by
    obtain ⟨c, h⟩ := i
    rcases h with rfl
    exact met_mono (ok_Scope_why T) (by decide)
  have c_why_5d1 : ∀ i : { c : Nat // c = 5 }, C8.Met P w K mg base 2 (A i.1) "why" (spF K A (M_why_5 i.1)) [(.int 0)] := fun i => by
    obtain ⟨c, h⟩ := i
    rcases h with rfl
    exact met_mono (ok_Scope_whyd1 T) (by decide)
  have c_eq_4 : ∀ i : { c : Nat // c = 4 }, C8.Met P w K mg base 5 (A i.1) "__eq__" (spF K A (M_eq_4 i.1)) [] := fun i => by
    obtain ⟨c, h⟩ := i
    rcases h with rfl
    exact met_mono (ok_Edition_eq T) (by decide)
  refine QG.calG_of T.d_holds sc_holds (fun _ _ _ _ h => spF_len h) (fun f cdv AA outer s H vs Q E hG hr h => ⟨_, (pss_cons (ps_for PassesOwn.never rfl (pi_list (pv 2)) (pg_name (i := 6) sc_holds.nd rfl (Or.inl rfl))
      (pss_cons (ps_for PassesOwn.never rfl (pi_range1 (by rfl) T.z_range (pa_cons pe_int pa_nil)) (pg_name (i := 7) sc_holds.nd rfl (Or.inl rfl))
      (pss_cons (ps_if (pt_cmpR op_ne (pe_callB (QT.c_reprV hG hr) (by rfl) T.z_repr (by decide +kernel) (pa_cons (pe_tup (pa_cons (QT.pe_dynN (pl := _) c_reach_5 hr (by decide) (pv 0) (pa_cons (pv 6) (pa_cons (pv 7) pa_nil))) (pa_cons (QT.pe_dynN (pl := _) c_why_5 hr (by decide) (pv 0) (pa_cons (pv 6) (pa_cons (pv 7) pa_nil))) pa_nil))) pa_nil)) (pe_callB (QT.c_reprV hG hr) (by rfl) T.z_repr (by decide +kernel) (pa_cons (C8.pe_c c_due hr (by decide) (by rfl) (pa_cons (pv 3) (pa_cons (pv 4) (pa_cons (pv 5) (pa_cons (pv 6) (pa_cons (pv 7) pa_nil)))))) pa_nil)) (nomark _))
      (pss_one (ps_ret pe_bl))
      pss_nil)
      (pss_one (ps_if (pt_cmpR op_ne (pe_callB (QT.c_reprV hG hr) (by rfl) T.z_repr (by decide +kernel) (pa_cons (C8.pe_c c_landed hr (by decide) (by rfl) (pa_cons (pv 1) (pa_cons (pv 6) (pa_cons (pv 7) pa_nil)))) pa_nil)) (pe_callB (QT.c_reprV hG hr) (by rfl) T.z_repr (by decide +kernel) (pa_cons (C8.pe_c c_llanded hr (by decide) (by rfl) (pa_cons (pv 3) (pa_cons (pv 6) (pa_cons (pv 7) pa_nil)))) pa_nil)) (nomark _))
      (pss_one (ps_ret pe_bl))
      pss_nil))))
      (pss_one (ps_if (pt_cmpR op_ne (pe_callB (QT.c_reprV hG hr) (by rfl) T.z_repr (by decide +kernel) (pa_cons (pe_tup (pa_cons (QT.pe_dynN (pl := _) c_reach_5d1 hr (by decide) (pv 0) (pa_cons (pv 6) pa_nil)) (pa_cons (QT.pe_dynN (pl := _) c_why_5d1 hr (by decide) (pv 0) (pa_cons (pv 6) pa_nil)) pa_nil))) pa_nil)) (pe_callB (QT.c_reprV hG hr) (by rfl) T.z_repr (by decide +kernel) (pa_cons (C8.pe_c c_due hr (by decide) (by rfl) (pa_cons (pv 3) (pa_cons (pv 4) (pa_cons (pv 5) (pa_cons (pv 6) (pa_cons pe_int pa_nil)))))) pa_nil)) (nomark _))
      (pss_one (ps_ret pe_bl))
      pss_nil))))
      (pss_cons (ps_set (i := 8) sc_holds.nd rfl (Or.inl rfl) (C8.pe_c c_ltargets hr (by decide) (by rfl) (pa_cons (pv 1) (pa_cons (pv 3) (pa_cons (pv 4) (pa_cons (pv 5) pa_nil))))))
      (pss_cons (ps_par (i := 9) (j := 10) (by rfl) sc_holds.nd rfl rfl (by decide) rfl rfl (pa_cons (QC.pe_dyn0 (pl := _) c_targets_5 hr (by decide) (pv 0)) (pa_cons (QC.pe_dyn0 (pl := _) c_entered_5 hr (by decide) (pv 0)) pa_nil)) (by rfl))
      (pss_cons (ps_set (i := 11) sc_holds.nd rfl (Or.inl rfl) (pe_callB (QU.c_sortK rfl) (by rfl) T.z_sorted (by decide +kernel) (pa_cons (pe_callTy (QU.c_setK rfl) (by rfl) T.z_set (by decide +kernel) (pa_cons (pe_lc (own := [("_law_row", 12)]) (g := (gName 12)) (by rfl) sc_holds.nd (pi_list (pv 8)) (blkOk_by (own := [("_law_row", 12)]) (N := ["_law_scope", "_law_edition_here", "_law_names_here", "_law_members_here", "_law_wants", "_law_given", "_law_name", "_law_tag", "_law_due_here", "_law_told", "_law_entered", "_law_back", "_law_row"]) (sc := C8.fnScope s_holds) (by decide +kernel)) (fun _ _ _ _ _ => (pg_name (i := 12) sc_holds.nd rfl (Or.inl rfl))) (fun _ _ _ _ _ => (pts_one (pt_cmpR (koEq K rfl hr.units) (pe_ix (kixQ K rfl) (pe_ix (kixQ K rfl) (pv 12) pe_int (fun _ _ => rfl)) pe_int (fun _ _ => rfl)) pe_str (nomark _)))) (fun _ _ _ _ _ => (pe_ix (kixQ K rfl) (pe_ix (kixQ K rfl) (pv 12) pe_int (fun _ _ => rfl)) pe_int (fun _ _ => rfl)))) pa_nil)) pa_nil)))
      (pss_cons (ps_if (PW.pt (pw_or (pt_cmpR op_ne (pe_callB (QT.c_reprV hG hr) (by rfl) T.z_repr (by decide +kernel) (pa_cons (pv 9) pa_nil)) (pe_callB (QT.c_reprV hG hr) (by rfl) T.z_repr (by decide +kernel) (pa_cons (pv 8) pa_nil)) (nomark _)) (pw_or1 (pt_cmpR op_ne (pe_callB (QT.c_reprV hG hr) (by rfl) T.z_repr (by decide +kernel) (pa_cons (pv 10) pa_nil)) (pe_callB (QT.c_reprV hG hr) (by rfl) T.z_repr (by decide +kernel) (pa_cons (pv 11) pa_nil)) (nomark _)))))
      (pss_one (ps_ret pe_bl))
      pss_nil)
      (pss_cons (ps_expr (pe_bm PySem.F.plainAttrs_list PySem.F.slot_list_append PySem.F.type_list_append mt_append (pv 9) (pa_cons pe_str pa_nil)))
      (pss_cons (ps_expr (pe_bm PySem.F.plainAttrs_list PySem.F.slot_list_append PySem.F.type_list_append mt_append (pv 10) (pa_cons pe_str pa_nil)))
      (pss_one (ps_ret (pe_and (pe_cmpR op_eq (pe_callB (QT.c_reprV hG hr) (by rfl) T.z_repr (by decide +kernel) (pa_cons (pe_fld (pv 0) rfl) pa_nil)) (pe_callB (QT.c_reprV hG hr) (by rfl) T.z_repr (by decide +kernel) (pa_cons (pe_callTy c_tup (by rfl) T.z_tuple (by decide +kernel) (pa_cons (pe_callB (QU.c_sortK rfl) (by rfl) T.z_sorted (by decide +kernel) (pa_cons (pe_callTy (QU.c_setK rfl) (by rfl) T.z_set (by decide +kernel) (pa_cons (pv 5) pa_nil)) pa_nil)) pa_nil)) pa_nil)) (nomark _)) (pe_one (pe_cmpR (QC.op_dynEq c_eq_4 hr (by decide)) (pe_fld (pv 0) rfl) (pv 1) (nomark _))))))))))))), ?_⟩)
  try dsimp only [cxOf]
  exact fn_run (N := ["_law_scope", "_law_edition_here", "_law_names_here", "_law_members_here", "_law_wants", "_law_given", "_law_name", "_law_tag", "_law_due_here", "_law_told", "_law_entered", "_law_back", "_law_row"]) (k := 6)
      (sv_seq (sv_for (iv_lst ev_var) gv_name
      (sv_seq (sv_for (iv_r1 (av_cons ev_int av_nil)) gv_name
      (sv_seq (sv_if (tv_test (ev_op (ev_cb (av_cons (ev_tup (av_cons (ev_dynN ev_var (av_cons ev_var (av_cons ev_var av_nil)) (fun _ => .nil) M_reach_5_in) (av_cons (ev_dynN ev_var (av_cons ev_var (av_cons ev_var av_nil)) (fun _ => .nil) M_why_5_in) av_nil))) av_nil) b_reprV) (ev_cb (av_cons (ev_call (av_cons ev_var (av_cons ev_var (av_cons ev_var (av_cons ev_var (av_cons ev_var av_nil)))))) av_nil) b_reprV) b_ne))
      (sv_ret ev_bl)
      sv_next)
      (sv_if (tv_test (ev_op (ev_cb (av_cons (ev_call (av_cons ev_var (av_cons ev_var (av_cons ev_var av_nil)))) av_nil) b_reprV) (ev_cb (av_cons (ev_call (av_cons ev_var (av_cons ev_var (av_cons ev_var av_nil)))) av_nil) b_reprV) b_ne))
      (sv_ret ev_bl)
      sv_next)))
      (sv_if (tv_test (ev_op (ev_cb (av_cons (ev_tup (av_cons (ev_dynN ev_var (av_cons ev_var av_nil) (fun _ => (.cons (.int _) .nil)) M_reach_5_in) (av_cons (ev_dynN ev_var (av_cons ev_var av_nil) (fun _ => (.cons (.int _) .nil)) M_why_5_in) av_nil))) av_nil) b_reprV) (ev_cb (av_cons (ev_call (av_cons ev_var (av_cons ev_var (av_cons ev_var (av_cons ev_var (av_cons ev_int av_nil)))))) av_nil) b_reprV) b_ne))
      (sv_ret ev_bl)
      sv_next)))
      (sv_seq (sv_asg (ev_call (av_cons ev_var (av_cons ev_var (av_cons ev_var (av_cons ev_var av_nil))))))
      (sv_seq (sv_par (av_cons (ev_dyn ev_var M_targets_5_in) (av_cons (ev_dyn ev_var M_entered_5_in) av_nil)))
      (sv_seq (sv_asg (ev_sortSet (ev_lcX rfl gv_name (tv_test (ev_op (ev_op (ev_op ev_var ev_int b_ix) ev_int b_ix) ev_str b_eqD)) (ev_op (ev_op ev_var ev_int b_ix) ev_int b_ix) (by decide))))
      (sv_seq (sv_if (tv_or (tv_test (ev_op (ev_cb (av_cons ev_var av_nil) b_reprV) (ev_cb (av_cons ev_var av_nil) b_reprV) b_ne)) (tv_test (ev_op (ev_cb (av_cons ev_var av_nil) b_reprV) (ev_cb (av_cons ev_var av_nil) b_reprV) b_ne)))
      (sv_ret ev_bl)
      sv_next)
      (sv_seq (sv_drop (ev_mut (av_cons ev_str av_nil) m_append))
      (sv_seq (sv_drop (ev_mut (av_cons ev_str av_nil) m_append))
      (sv_ret (ev_and (ev_op (ev_cb (av_cons (ev_fld ev_var (fun c => T.fl c _ (by decide +kernel))) av_nil) b_reprV) (ev_cb (av_cons (ev_cb (av_cons (ev_sortSet ev_var) av_nil) b_tupl) av_nil) b_reprV) b_eq) (ev_eqO (ev_fld ev_var (fun c => T.fl c _ (by decide +kernel))) ev_var T.nf M_eq_4_in)))))))))) h
theorem ok_law (T : Top K mg A) {f : Addr} {fd : FuncData} (F : C8.Fun K "law" "law" s_law f fd) : QG.FnG P w K mg base 7 f fd ["_law_script"] (spF K A F_law) := by
  have mk_Scope2 := mk_Scope2 (P := P) (w := w) (base := base) T
  have c_bag := ok_bag (P := P) (w := w) (base := base) T
  have c_take := ok_take (P := P) (w := w) (base := base) T
  have c_of := ok_of (P := P) (w := w) (base := base) T
  have c_names := ok_names (P := P) (w := w) (base := base) T
  have c_members := ok_members (P := P) (w := w) (base := base) T
  have c_ledition := ok_ledition (P := P) (w := w) (base := base) T
  have c_holds := ok_holds (P := P) (w := w) (base := base) T
  have c_text_4 : ∀ i : { c : Nat // c = 4 }, C8.Met P w K mg base 3 (A i.1) "text" (spF K A (M_text_4 i.1)) [] := fun i => by
    obtain ⟨c, h⟩ := i
    rcases h with rfl
    exact met_mono (ok_Edition_text T) (by decide)
  refine QG.fnG F sc_law (fun _ _ _ _ h => spF_len h) (fun cdv AA outer s H vs Q E hG hr h => ⟨_, (pss_cons (ps_for PassesOwn.never rfl (pi_range1 (by rfl) T.z_range (pa_cons (pe_callB (c_max rfl) (by rfl) T.z_max (by decide +kernel) (pa_cons pe_int (pa_cons (pe_callB (c_min rfl) (by rfl) T.z_min (by decide +kernel) (pa_cons pe_int (pa_cons (pe_callB c_len (by rfl) T.z_len (by decide +kernel) (pa_cons (pv 0) pa_nil)) pa_nil))) pa_nil))) pa_nil)) (pg_name (i := 1) sc_law.nd rfl (Or.inl rfl))
      (pss_cons (ps_set (i := 2) sc_law.nd rfl (Or.inr rfl) (C8.pe_c c_bag hr (by decide) (by rfl) (pa_cons (pv 0) (pa_cons (pv 1) pa_nil))))
      (pss_cons (ps_set (i := 3) sc_law.nd rfl (Or.inr rfl) (C8.pe_c c_names hr (by decide) (by rfl) (pa_cons (pv 2) (pa_cons pe_int pa_nil))))
      (pss_cons (ps_set (i := 4) sc_law.nd rfl (Or.inr rfl) (C8.pe_c c_members hr (by decide) (by rfl) (pa_cons (pv 2) (pa_cons (pe_slice sl_list (pv 3) po_none (po_some (pe_op op_add pe_int (C8.pe_c c_take hr (by decide) (by rfl) (pa_cons (pv 2) (pa_cons pe_int pa_nil)))))) pa_nil))))
      (pss_cons (ps_set (i := 5) sc_law.nd rfl (Or.inl rfl) (C8.pe_c c_take hr (by decide) (by rfl) (pa_cons (pv 2) (pa_cons (pe_op op_add (pe_callB c_len (by rfl) T.z_len (by decide +kernel) (pa_cons (pv 4) pa_nil)) pe_int) pa_nil))))
      (pss_cons (ps_set (i := 4) sc_law.nd rfl (Or.inr rfl) (pe_op QT.op_catK (pe_slice sl_list (pv 4) (po_some (pv 5)) po_none) (pe_slice sl_list (pv 4) po_none (po_some (pv 5)))))
      (pss_cons (ps_set (i := 6) sc_law.nd rfl (Or.inl rfl) (pe_slice sl_list (pe_lc (own := [("_law_name", 7)]) (g := (gName 7)) (by rfl) sc_law.nd (pi_list (pe_slice sl_list (pv 3) (po_some pe_int) (po_some pe_int))) (blkOk_by (own := [("_law_name", 7)]) (N := ["_law_script", "_law_at", "_law_bag_here", "_law_names_here", "_law_members_here", "_law_place", "_law_wants", "_law_name", "_law_one", "_law_edition_here", "_law_text", "_law_scopes", "_law_turn", "_law_given", "_law_k", "_law_passed", "_law_scope"]) (sc := C8.fnScope s_law) (by decide +kernel)) (fun _ _ _ _ _ => (pg_name (i := 7) sc_law.nd rfl (Or.inl rfl))) (fun _ _ _ _ _ => (pts_one (pt_cmpR (koNi K rfl) (pv 7) (pe_lc (own := [("_law_one", 8)]) (g := (gName 8)) (tt := tYes) (by rfl) sc_law.nd (kpi_list K rfl (pv 4)) (by dsimp only [L2.Cx.blk, compEnvC, relabel, Env.kindOf, cxOf, L2.Cx.nox, envOfC]; exact blkOk_by (own := [("_law_one", 8)]) (N := ["_law_script", "_law_at", "_law_bag_here", "_law_names_here", "_law_members_here", "_law_place", "_law_wants", "_law_name", "_law_one", "_law_edition_here", "_law_text", "_law_scopes", "_law_turn", "_law_given", "_law_k", "_law_passed", "_law_scope"]) (by rfl)) (fun _ _ _ _ _ => (pg_name (i := 8) sc_law.nd rfl (Or.inl rfl))) (fun _ _ _ _ _ => pts_nil) (fun _ _ _ _ _ => (pe_ix (kixT K rfl) (pv 8) pe_int (fun _ _ => rfl)))) rfl))) (fun _ _ _ _ _ => (pv 7))) po_none (po_some (C8.pe_c c_take hr (by decide) (by rfl) (pa_cons (pv 2) (pa_cons pe_int pa_nil))))))
      (pss_cons (ps_set (i := 9) sc_law.nd rfl (Or.inl rfl) (C8.pe_c c_ledition hr (by decide) (by rfl) (pa_cons (pv 2) (pa_cons (pe_ix ix_list (pv 3) pe_int (fun _ _ => rfl)) (pa_cons (pv 4) (pa_cons (pv 6) (pa_cons (pe_lst pa_nil) pa_nil)))))))
      (pss_cons (ps_par (i := 10) (j := 11) (by rfl) sc_law.nd rfl rfl (by decide) rfl rfl (pa_cons (QC.pe_dyn0 (pl := _) c_text_4 hr (by decide) (pv 9)) (pa_cons (pe_lst pa_nil) pa_nil)) (by rfl))
      (pss_cons (ps_for PassesOwn.never rfl (pi_range1 (by rfl) T.z_range (pa_cons pe_int pa_nil)) (pg_name (i := 12) sc_law.nd rfl (Or.inl rfl))
      (pss_cons (ps_setLc (i := 13) (own := [("_law_k", 14)]) (g := (gName 14)) (tt := tYes) (by rfl) sc_law.nd rfl rfl (sw_true rfl rfl rfl (by decide +kernel)) (pi_range1 (by rfl) T.z_range (pa_cons (C8.pe_c c_take hr (by decide) (by rfl) (pa_cons (pv 2) (pa_cons pe_int pa_nil))) pa_nil)) (blkOk_by (own := [("_law_k", 14)]) (N := ["_law_script", "_law_at", "_law_bag_here", "_law_names_here", "_law_members_here", "_law_place", "_law_wants", "_law_name", "_law_one", "_law_edition_here", "_law_text", "_law_scopes", "_law_turn", "_law_given", "_law_k", "_law_passed", "_law_scope"]) (sc := C8.fnScope s_law) (by decide +kernel)) (fun _ _ _ _ _ => (pg_name (i := 14) sc_law.nd rfl (Or.inl rfl))) (fun _ _ _ _ _ => pts_nil) (fun _ _ _ _ _ => (C8.pe_c c_of hr (by decide) (by rfl) (pa_cons (pv 2) (pa_cons (pv 3) pa_nil)))))
      (pss_cons (ps_set (i := 13) sc_law.nd rfl (Or.inl rfl) (pe_ifExp (pt_cmpR op_eq (C8.pe_c c_take hr (by decide) (by rfl) (pa_cons (pv 2) (pa_cons pe_int pa_nil))) pe_int (nomark _)) (pe_op QT.op_catK (pv 13) (pv 6)) (pv 13)))
      (pss_cons (ps_set (i := 15) sc_law.nd rfl (Or.inl rfl) (pe_callTy c_lst (by rfl) T.z_list (by decide +kernel) (pa_cons (pv 13) pa_nil)))
      (pss_cons (ps_expr (pe_bm PySem.F.plainAttrs_list PySem.F.slot_list_append PySem.F.type_list_append mt_append (pv 11) (pa_cons (pe_tup (pa_cons (C8.pe_mk mk_Scope2 hr (by decide) (by rfl) (pa_cons (pv 9) (pa_cons (pe_ifExp (pt_cmpR op_eq (pv 12) pe_int (nomark _)) (pv 15) (pe_callTy c_tup (by rfl) T.z_tuple (by decide +kernel) (pa_cons (pv 15) pa_nil))) pa_nil))) (pa_cons (pv 13) pa_nil))) pa_nil)))
      (pss_one (ps_expr (pe_bm PySem.F.plainAttrs_list PySem.F.slot_list_extend PySem.F.type_list_extend QT.mt_extK (pv 15) (pa_cons (pv 3) pa_nil)))))))))
      (pss_cons (ps_for PassesOwn.never rfl (pi_range1 (by rfl) T.z_range (pa_cons pe_int pa_nil)) (pg_name (i := 12) sc_law.nd rfl (Or.inl rfl))
      (pss_one (ps_for PassesOwn.never rfl (pi_list (pv 11)) (pg_tup (by rfl) (pgs_cons (pg_name (i := 16) sc_law.nd rfl (Or.inl rfl)) (pgs_cons (pg_name (i := 13) sc_law.nd rfl (Or.inl rfl)) pgs_nil)))
      (pss_one (ps_if (pt_not (pt_val (QG.pe_cG c_holds hG hr (by decide) (by rfl) (pa_cons (pv 16) (pa_cons (pv 9) (pa_cons (pv 3) (pa_cons (pv 4) (pa_cons (pv 6) (pa_cons (pv 13) pa_nil)))))))))
      (pss_one (ps_ret pe_bl))
      pss_nil)))))
      (pss_one (ps_if (pt_cmpR op_ne (QC.pe_dyn0 (pl := _) c_text_4 hr (by decide) (pv 9)) (pv 10) (nomark _))
      (pss_one (ps_ret pe_bl))
      pss_nil)))))))))))))
      (pss_one (ps_ret pe_bl))), ?_⟩)
  try dsimp only [cxOf]
  exact fn_run (N := ["_law_script", "_law_at", "_law_bag_here", "_law_names_here", "_law_members_here", "_law_place", "_law_wants", "_law_name", "_law_one", "_law_edition_here", "_law_text", "_law_scopes", "_law_turn", "_law_given", "_law_k", "_law_passed", "_law_scope"]) (k := 1)
      (sv_seq (sv_for (iv_r1 (av_cons (ev_cb (av_cons ev_int (av_cons (ev_cb (av_cons ev_int (av_cons (ev_cb (av_cons ev_var av_nil) b_len) av_nil)) b_min) av_nil)) b_max) av_nil)) gv_name
      (sv_seq (sv_asg (ev_call (av_cons ev_var (av_cons ev_var av_nil))))
      (sv_seq (sv_asg (ev_callL (av_cons ev_var (av_cons ev_int av_nil))))
      (sv_seq (sv_asg (ev_callL (av_cons ev_var (av_cons (ev_sl ev_var ov_no (ov_some (ev_op ev_int (ev_callL (av_cons ev_var (av_cons ev_int av_nil))) b_add)) b_slL) av_nil))))
      (sv_seq (sv_asg (ev_callL (av_cons ev_var (av_cons (ev_op (ev_cb (av_cons ev_var av_nil) b_len) ev_int b_add) av_nil))))
      (sv_seq (sv_asg (ev_op (ev_sl ev_var (ov_some ev_var) ov_no b_slL) (ev_sl ev_var ov_no (ov_some ev_var) b_slL) b_cat))
      (sv_seq (sv_asg (ev_sl (ev_lc (iv_lst (ev_sl ev_var (ov_some ev_int) (ov_some ev_int) b_slL)) gv_name (tv_test (ev_op ev_var (ev_lcX rfl gv_name tv_yes (ev_op ev_var ev_int b_ixT) (by decide)) b_in)) ev_var (by decide)) ov_no (ov_some (ev_callL (av_cons ev_var (av_cons ev_int av_nil)))) b_slL))
      (sv_seq (sv_asg (ev_callL (av_cons ev_var (av_cons (ev_op ev_var ev_int b_ixL) (av_cons ev_var (av_cons ev_var (av_cons (ev_lst av_nil) av_nil)))))))
      (sv_seq (sv_par (av_cons (ev_dyn ev_var M_text_4_in) (av_cons (ev_lst av_nil) av_nil)))
      (sv_seq (sv_for (iv_r1 (av_cons ev_int av_nil)) gv_name
      (sv_seq (sv_asg (ev_lc (iv_r1 (av_cons (ev_callL (av_cons ev_var (av_cons ev_int av_nil))) av_nil)) gv_name tv_yes (ev_callL (av_cons ev_var (av_cons ev_var av_nil))) (by decide)))
      (sv_seq (sv_asg (ev_if (tv_test (ev_op (ev_callL (av_cons ev_var (av_cons ev_int av_nil))) ev_int b_eq)) (ev_op ev_var ev_var b_cat) ev_var))
      (sv_seq (sv_asg (ev_cb (av_cons ev_var av_nil) b_lst))
      (sv_seq (sv_drop (ev_mut (av_cons (ev_tup (av_cons (ev_makeL (av_cons ev_var (av_cons (ev_if (tv_test (ev_op ev_var ev_int b_eq)) ev_var (ev_cb (av_cons ev_var av_nil) b_tupl)) av_nil))) (av_cons ev_var av_nil))) av_nil) m_append))
      (sv_drop (ev_mut (av_cons ev_var av_nil) m_extend)))))))
      (sv_seq (sv_for (iv_r1 (av_cons ev_int av_nil)) gv_name
      (sv_for (iv_lst ev_var) (gv_tup (gv_cons gv_name (gv_cons gv_name gv_nil)))
      (sv_if (tv_not (tv_b (ev_call (av_cons ev_var (av_cons ev_var (av_cons ev_var (av_cons ev_var (av_cons ev_var (av_cons ev_var av_nil)))))))))
      (sv_ret ev_bl)
      sv_next)))
      (sv_if (tv_test (ev_op (ev_dyn ev_var M_text_4_in) ev_var b_ne))
      (sv_ret ev_bl)
      sv_next))))))))))))
      (sv_ret ev_bl)) h
end
end L17

set_option Elab.async false
set_option linter.all false
set_option maxRecDepth 100000
set_option maxHeartbeats 4000000
namespace L17
open PySem PySem.Spec PyProof.Rows L2 QB QT
local macro_rules | `(tactic| walk_at "ev") => `(tactic| simp only [sSeq_v, sIf_v, sAsg_v, put1_own, put1_val, put1_ot, put1_slot, sAsgT_v, sPar_v, sRet_v, ret1_val, ret1_own, ret1_ot, ret1_slot, sRetN_v, sDrop_v, sNext_v, sBreak_v, sCont_v, sFor_v, sWhile_v, sSetF_v, sSetL_v, bE_v, bT_v, bAnd_v, bOr_v, bNot_v, bYes_v, eIf_v, eAnd_v, eOr_v, eNot_v, aN_v, aC_v, eB_v, e1_v, e2_v, eVar_v, eC_v, trees_nil, trees_cons, tree_val, tree_own, tree_ot, tree_slot, share_val, share_own, share_ot, share_slot, shareL_nil, shareL_cons, opened_v, readI_v, eTup_v, eLst_v, eOT_v, ocm_nil, ocm_own, ocm_val, ocm_slot, eSl_v, oNo_v, oSome_v, eCall_v, eCallL_v, eMake_v, eMut_v, eLc_v, eLcX_v, iL_v, iT_v, iEn_v, iR1_v, eDyn_v, eJs_v, joinF_nil, joinF_cons, eFmt_v, eFld_v, eJoin_v, eDNew_v, runF_v, loopF_nil, fFld_v, eDynN_v, eEqO_v, eSortSet_v, eSortSc_v, sForItF_v, eMakeL_v, iEnT_v, fCat_v, gExtend_v, fIsN_v, T.isN,
  QT.kSeq, QT.kIf, QT.kPut, QT.kAsg, QT.kMapS, QT.kShS, QT.kAsgT1, QT.kAsgT, QT.kPar2, QT.kPar, QT.kRetS, QT.kRet, QT.kDrop, QT.kFor, QT.kLoop2, QT.kLoop, QT.kWh2, QT.kWh, QT.kSF2, QT.kSF1, QT.kSF, QT.kSL4, QT.kSL3, QT.kSL2, QT.kSL1, QT.kSL, QT.kT1, QT.kBE1, QT.kBE, QT.kBT2, QT.kBT1, QT.kBT, QT.kBAnd, QT.kBOr, QT.kBNot, QT.kEIf, QT.kEAnd, QT.kEOr, QT.kENot, QT.kC2, QT.kC1, QT.kB2, QT.kB1, QT.kB, QT.kTr2, QT.kTr1, QT.kTree, QT.kSh2, QT.kSh1, QT.kOp, QT.kRd, QT.kTup, QT.kTup1, QT.kLst, QT.kLst1, QT.kOT, QT.kOT1, QT.kOc2, QT.kOc1, QT.kSl3, QT.kSl2, QT.kSl1, QT.kSl, QT.kOS1, QT.kOS, QT.kCa2, QT.kCa1, QT.kCa, QT.kLe4, QT.kLe3, QT.kLe2, QT.kLe1, QT.kLe, QT.kMk2, QT.kMk1, QT.kMk0, QT.kMk, QT.kMu4, QT.kMu3, QT.kMu2, QT.kMu1, QT.kMu0, QT.kMuT, QT.kMu, QT.kLc2, QT.kLc, QT.kLX2, QT.kLX1, QT.kLX, QT.kIL, QT.kIT, QT.kIEn, QT.kIR2, QT.kIR, QT.kDy3, QT.kDy, QT.kJ3, QT.kJ2, QT.kJ1, QT.kJs, QT.kJn1, QT.kJn, QT.kCo4, QT.kRun, QT.kVar, QT.kDn3, QT.kDn2, QT.kDn1, QT.kDn, QT.kEo1, QT.kEo, QT.kSs2, QT.kSs1, QT.kSs, QT.kSc2, QT.kSc1, QT.kSc, QT.kFi1, QT.kFi, QT.kMl4, QT.kMl3, QT.kMl2, QT.kMl1, QT.kMl, QT.kIEnT,
  QT.putAll, Sl.held, Sl.with, mkA, fillA, lentA, backA, tyT, pN, pT, pNil, pCons, wipeR, fLen, fInt, fAbs, fMax, fMin, fLst, fTupl, fSlL, fRevL, fDcp, T.truth, T.tyN, putT, fIsi, 
  fAdd_i, fSub_i, fLt_i, fLe_i, fGt_i, fGe_i, fEq_i, fNe_i, fEq_s, fNe_s, fIxL_0, fIxL_1, fMul_r, fMul_l, fMod_p, fFdiv_p, PySem.sizeLine_eq, ofS_eq, ofS_beq, String.reduceEq, List.lookup_cons, List.lookup_nil, ixN_10, ixN_20, ixN_21, ixN_30, ixN_31, ixN_32, Int.reduceLT, Int.reduceLE, Int.reducePow, Int.reduceNeg, Int.reduceToNat,
  Option.bind_some, Option.bind_none, Option.map_some, Option.map_none,
  List.isEmpty_nil, List.isEmpty_cons, List.map_cons, List.map_nil, List.length_cons, List.length_nil, List.cons_append, List.nil_append, List.replicate_succ, List.replicate_zero, List.getElem?_cons_zero, List.getElem?_cons_succ, List.set_cons_zero, List.set_cons_succ, List.append_nil, List.getElem?_nil,
  Nat.reduceAdd, Nat.reduceSub, Nat.reduceLT, Nat.reduceLeDiff, Nat.reduceEqDiff, Nat.zero_add, Nat.add_zero,
  if_true, if_false, decide_true, decide_false, Bool.not_true, Bool.not_false, Bool.true_eq_false, Bool.false_eq_true, reduceCtorEq, reduceIte, String.reduceBEq, List.nodup_nil, List.nodup_cons, List.not_mem_nil, not_false_eq_true, and_self])
local macro_rules | `(tactic| walk_at "eva") => `(tactic| simp only [sSeq_v, sIf_v, sAsg_v, put1_own, put1_val, put1_ot, put1_slot, sAsgT_v, sPar_v, sRet_v, ret1_val, ret1_own, ret1_ot, ret1_slot, sRetN_v, sDrop_v, sNext_v, sBreak_v, sCont_v, sFor_v, sWhile_v, sSetF_v, sSetL_v, bE_v, bT_v, bAnd_v, bOr_v, bNot_v, bYes_v, eIf_v, eAnd_v, eOr_v, eNot_v, aN_v, aC_v, eB_v, e1_v, e2_v, eVar_v, eC_v, trees_nil, trees_cons, tree_val, tree_own, tree_ot, tree_slot, share_val, share_own, share_ot, share_slot, shareL_nil, shareL_cons, opened_v, readI_v, eTup_v, eLst_v, eOT_v, ocm_nil, ocm_own, ocm_val, ocm_slot, eSl_v, oNo_v, oSome_v, eCall_v, eCallL_v, eMake_v, eMut_v, eLc_v, eLcX_v, iL_v, iT_v, iEn_v, iR1_v, eDyn_v, eJs_v, joinF_nil, joinF_cons, eFmt_v, eFld_v, eJoin_v, eDNew_v, runF_v, loopF_nil, fFld_v, eDynN_v, eEqO_v, eSortSet_v, eSortSc_v, sForItF_v, eMakeL_v, iEnT_v, fCat_v, gExtend_v, fIsN_v, T.isN,
  QT.kSeq, QT.kIf, QT.kPut, QT.kAsg, QT.kMapS, QT.kShS, QT.kAsgT1, QT.kAsgT, QT.kPar2, QT.kPar, QT.kRetS, QT.kRet, QT.kDrop, QT.kFor, QT.kLoop2, QT.kLoop, QT.kWh2, QT.kWh, QT.kSF2, QT.kSF1, QT.kSF, QT.kSL4, QT.kSL3, QT.kSL2, QT.kSL1, QT.kSL, QT.kT1, QT.kBE1, QT.kBE, QT.kBT2, QT.kBT1, QT.kBT, QT.kBAnd, QT.kBOr, QT.kBNot, QT.kEIf, QT.kEAnd, QT.kEOr, QT.kENot, QT.kC2, QT.kC1, QT.kB2, QT.kB1, QT.kB, QT.kTr2, QT.kTr1, QT.kTree, QT.kSh2, QT.kSh1, QT.kOp, QT.kRd, QT.kTup, QT.kTup1, QT.kLst, QT.kLst1, QT.kOT, QT.kOT1, QT.kOc2, QT.kOc1, QT.kSl3, QT.kSl2, QT.kSl1, QT.kSl, QT.kOS1, QT.kOS, QT.kCa2, QT.kCa1, QT.kCa, QT.kLe4, QT.kLe3, QT.kLe2, QT.kLe1, QT.kLe, QT.kMk2, QT.kMk1, QT.kMk0, QT.kMk, QT.kMu4, QT.kMu3, QT.kMu2, QT.kMu1, QT.kMu0, QT.kMuT, QT.kMu, QT.kLc2, QT.kLc, QT.kLX2, QT.kLX1, QT.kLX, QT.kIL, QT.kIT, QT.kIEn, QT.kIR2, QT.kIR, QT.kDy3, QT.kDy, QT.kJ3, QT.kJ2, QT.kJ1, QT.kJs, QT.kJn1, QT.kJn, QT.kCo4, QT.kRun, QT.kVar, QT.kDn3, QT.kDn2, QT.kDn1, QT.kDn, QT.kEo1, QT.kEo, QT.kSs2, QT.kSs1, QT.kSs, QT.kSc2, QT.kSc1, QT.kSc, QT.kFi1, QT.kFi, QT.kMl4, QT.kMl3, QT.kMl2, QT.kMl1, QT.kMl, QT.kIEnT,
  QT.putAll, Sl.held, Sl.with, mkA, fillA, lentA, backA, tyT, pN, pT, pNil, pCons, wipeR, fLen, fInt, fAbs, fMax, fMin, fLst, fTupl, fSlL, fRevL, fDcp, T.truth, T.tyN, putT, fIsi, 
  fAdd_i, fSub_i, fLt_i, fLe_i, fGt_i, fGe_i, fEq_i, fNe_i, fEq_s, fNe_s, fIxL_0, fIxL_1, fMul_r, fMul_l, fMod_p, fFdiv_p, PySem.sizeLine_eq, ofS_eq, ofS_beq, String.reduceEq, List.lookup_cons, List.lookup_nil, ixN_10, ixN_20, ixN_21, ixN_30, ixN_31, ixN_32, Int.reduceLT, Int.reduceLE, Int.reducePow, Int.reduceNeg, Int.reduceToNat,
  Option.bind_some, Option.bind_none, Option.map_some, Option.map_none,
  List.isEmpty_nil, List.isEmpty_cons, List.map_cons, List.map_nil, List.length_cons, List.length_nil, List.cons_append, List.nil_append, List.replicate_succ, List.replicate_zero, List.getElem?_cons_zero, List.getElem?_cons_succ, List.set_cons_zero, List.set_cons_succ, List.append_nil, List.getElem?_nil,
  Nat.reduceAdd, Nat.reduceSub, Nat.reduceLT, Nat.reduceLeDiff, Nat.reduceEqDiff, Nat.zero_add, Nat.add_zero,
  if_true, if_false, decide_true, decide_false, Bool.not_true, Bool.not_false, Bool.true_eq_false, Bool.false_eq_true, reduceCtorEq, reduceIte, String.reduceBEq, List.nodup_nil, List.nodup_cons, List.not_mem_nil, not_false_eq_true, and_self, *])
/-- a pool of draws -/
def Bg (t : T) : Prop := ∃ a b : Int, 0 ≤ a ∧ t = .lst [.int a, .int b]
theorem take_ok {t : T} {m : Int} (ht : Bg t) (hm : 0 < m) (hm2 : m < 18446744073709551616) : ∃ r t' rest, F_take [.io t, .val (.int m)] = some (.val (.int r), .io t' :: .val (.int m) :: rest) ∧ 0 ≤ r ∧ r < m ∧ Bg t' := by
  obtain ⟨a, b, ha, rfl⟩ := ht
  unfold F_take B_take
  by_cases h : 0 < a
  · walk_at "eva"
    exact ⟨_, _, _, rfl, Int.emod_nonneg _ (by omega), Int.emod_lt_of_pos _ hm, _, _, Int.ediv_nonneg ha (by omega), rfl⟩
  · walk_at "eva"
    exact ⟨_, _, _, rfl, Int.emod_nonneg _ (by omega), Int.emod_lt_of_pos _ hm, _, _, ha, rfl⟩
theorem of_ok {t : T} {xs : List T} (ht : Bg t) (h0 : 0 < xs.length) (h1 : xs.length < 18446744073709551616) : ∃ x t' y rest, F_of [.io t, .val (.lst xs)] = some (.val x, .io t' :: y :: rest) ∧ x ∈ xs ∧ Bg t' := by
  obtain ⟨r, t', rest, e, r0, r1, a0⟩ := take_ok (m := (xs.length : Int)) ht (by omega) (by omega)
  obtain ⟨x, hx⟩ : ∃ x, xs[r.toNat]? = some x := ⟨_, List.getElem?_eq_getElem (by omega)⟩
  have e2 := fIxL_n r0 hx
  unfold F_of B_of
  walk_at "eva"
  exact ⟨_, _, _, _, rfl, List.mem_of_getElem? hx, a0⟩
theorem bag_loop {sc a c : Sl} : ∀ {ts : List T} {m : Int} {s4 s5 : Sl}, (∀ t ∈ ts, ∃ i x : Int, t = .tup [.int i, .int x]) → ∃ (m' : Int) (s4' s5' : Sl), loopF (pT 2 (pCons (pN 4) (pCons (pN 5) pNil)))
    (sAsg 3 (e2 fMod (eB fInt (aC (e2 fAdd (e2 fAdd (e2 fMul (eVar 3) (eC (.int 40014))) (e2 fMod (eB fInt (aC (eVar 5) aN)) (eC (.int 2147483563)))) (e2 fMul (eC (.int 331)) (eVar 4))) aN)) (eC (.int 2147483399)))) ts [sc, a, c, .val (.int m), s4, s5] = .nx [sc, a, c, .val (.int m'), s4', s5']
  | [], m, s4, s5, _ => ⟨m, s4, s5, rfl⟩
  | t :: r, m, s4, s5, h => by
    obtain ⟨i, x, rfl⟩ := h t (by simp)
    have ih := fun m s4 s5 => bag_loop (sc := sc) (a := a) (c := c) (ts := r) (m := m) (s4 := s4) (s5 := s5) (fun u hu => h u (by simp [hu]))
    obtain ⟨m', s4', s5', e⟩ := ih ((m * 40014 + x % 2147483563 + 331 * i) % 2147483399) (.val (.int i)) (.val (.int x))
    refine ⟨m', s4', s5', ?_⟩
    rw [← e]
    simp only [loopF]
    walk_at "ev"
theorem bag_ok {ns : List Int} {at_ : Int} (h0 : 0 ≤ at_) : ∃ t rest, F_bag [.val (.lst (ns.map .int)), .val (.int at_)] = some (.own t, rest) ∧ Bg t := by
  obtain ⟨c, hc⟩ : ∃ c : Int, kSeq (sAsg 2 (eIf (bE (e2 fLt (eVar 1) (eB fLen (aC (eVar 0) aN)))) (e2 fIxL (eVar 0) (eVar 1)) (eC (.int 0))) [.val (.lst (ns.map .int)), .val (.int at_), .no, .no, .no, .no]) sNext = .nx [.val (.lst (ns.map .int)), .val (.int at_), .val (.int c), .no, .no, .no] := by
    by_cases h : at_ < ((ns.map T.int).length : Int)
    · have hl : at_.toNat < ns.length := by rw [List.length_map] at h; omega
      have e2 : fIxL [.lst (ns.map .int), .int at_] = some (.val (.int ns[at_.toNat])) := fIxL_n h0 (by rw [List.getElem?_map, List.getElem?_eq_getElem hl]; rfl)
      refine ⟨ns[at_.toNat], ?_⟩
      walk_at "eva"
    · exact ⟨0, by walk_at "eva"⟩
  obtain ⟨m', s4, s5, e⟩ := bag_loop (sc := .val (.lst (ns.map .int))) (a := .val (.int at_)) (c := .val (.int c)) (m := 7411 * at_ + 3119) (s4 := .no) (s5 := .no) (ts := enumT (cutT (ns.map .int) none (some 60))) (fun t ht => by
    obtain ⟨i, x, hx, rfl⟩ := enum_mem ht
    obtain ⟨y, _, rfl⟩ := List.mem_map.mp (cut_sub (List.mem_of_getElem? hx))
    exact ⟨_, _, rfl⟩)
  have hc' : sAsg 2 (eIf (bE (e2 fLt (eVar 1) (eB fLen (aC (eVar 0) aN)))) (e2 fIxL (eVar 0) (eVar 1)) (eC (.int 0))) [.val (.lst (ns.map .int)), .val (.int at_), .no, .no, .no, .no] = .nx [.val (.lst (ns.map .int)), .val (.int at_), .val (.int c), .no, .no, .no] := by
    revert hc
    cases sAsg 2 (eIf (bE (e2 fLt (eVar 1) (eB fLen (aC (eVar 0) aN)))) (e2 fIxL (eVar 0) (eVar 1)) (eC (.int 0))) [.val (.lst (ns.map .int)), .val (.int at_), .no, .no, .no, .no] <;> intro hc <;> exact hc
  unfold F_bag B_bag
  rw [runF_v]
  simp only [sSeq_v, List.length_cons, List.length_nil, Nat.zero_add, Nat.reduceAdd, if_true, List.cons_append, List.nil_append, Nat.reduceSub, List.replicate_succ, List.replicate_zero, hc']
  clear hc hc'
  have e10 : fPow [.int 10, .int 18] = some (.val (.int 1000000000000000000)) := rfl
  by_cases hb : (1000000000000000000 : Int) ≤ (if c < 0 then -c else c)
  · walk_at "eva"
    exact ⟨_, _, rfl, _, _, by omega, rfl⟩
  · walk_at "eva"
    exact ⟨_, _, rfl, _, _, by omega, rfl⟩
theorem paired_strs {P : Str → Prop} : ∀ {ts us : List T}, Paired (fun _ u => ∃ c, u = .str c ∧ P c) ts us → ∃ ss : List Str, us = ss.map T.str ∧ ss.length = ts.length ∧ ∀ s ∈ ss, P s
  | _, _, .nil => ⟨[], rfl, rfl, by simp⟩
  | _, _, .cons ⟨c, e, h⟩ b => by
    obtain ⟨ss, e2, l, h2⟩ := paired_strs b
    exact ⟨c :: ss, by simp [e, e2], by simp [l], fun s hs => by
      rcases List.mem_cons.mp hs with rfl | hs
      · exact h
      · exact h2 s hs⟩
theorem ixS_ok {z : Str} {i : Int} (hz : z.length ≤ 1000) (hk : PyData.strOk z = true) (h0 : 0 ≤ i) (h1 : i < z.length) : ∃ c : Str, fIxS [.str z, .int i] = some (.val (.str c)) ∧ c.length = 1 ∧ PyData.strOk c = true := by
  obtain ⟨c, e, k⟩ := Fo.ch hk h0 h1
  refine ⟨⟨#[c]⟩, ?_, rfl, k⟩
  simp only [fIxS]
  rw [if_pos (by rw [sizeLine_eq]; omega), e]
  rfl
theorem strL_map : ∀ ss : List Str, strL (ss.map T.str) = some ss
  | [] => rfl
  | s :: r => by simp only [List.map_cons, strL, strL_map r, Option.bind_some]
theorem joinS {a : Str} {ss : List Str} (h : (ss.map (·.length)).sum + ss.length * a.length ≤ 16777216) : fJoin a (.lst (ss.map T.str)) = some (.val (.str (Txt.join a ss))) := by
  unfold fJoin
  simp only [T.items, Option.bind_some, strL_map, h, if_true]
theorem joinT {a : Str} {ss : List Str} (h : (ss.map (·.length)).sum + ss.length * a.length ≤ 16777216) : fJoin a (.tup (ss.map T.str)) = some (.val (.str (Txt.join a ss))) := by
  unfold fJoin
  simp only [T.items, Option.bind_some, strL_map, h, if_true]
def lets : Str := "abcdefghijklmnopqrstuvwxyz"
def sgns : Str := "abcdefghijklmnopqrstuvwxyz0123456789"
theorem lets_ok : lets.length = 26 ∧ PyData.strOk lets = true := ⟨by decide, by decide +kernel⟩
theorem sgns_ok : sgns.length = 36 ∧ PyData.strOk sgns = true := ⟨by decide, by decide +kernel⟩
def Nm (n : Str) : Prop := n.length ≤ 100 ∧ PyData.strOk n = true
theorem rngT_len {lo : Int} {n : Nat} : (rngT lo n).length = n := by simp [rngT]
theorem stem_ok {a : Sl} {t : T} {n : Int} (ht : Bg t) (hn0 : 0 ≤ n) (hn1 : n ≤ 10) : ∃ (ss : List Str) (t' : T), Bg t' ∧ Nm (Txt.join "" ss) ∧ (Txt.join "" ss).length ≤ 20 ∧ fJoin "" (.lst (ss.map T.str)) = some (.val (.str (Txt.join "" ss))) ∧
    compF (pN 5) bYes (e2 fIxS (eVar 3) (eCallL F_take [true, false] (aC (eVar 0) (aC (eC (.int 36)) aN)))) [5] (rngT 0 n.toNat) [.io t, a, .val (.str lets), .val (.str sgns), .no, .no, .no, .no, .no, .no] = some (ss.map T.str, [.io t', a, .val (.str lets), .val (.str sgns), .no, .no, .no, .no, .no, .no]) := by
  obtain ⟨us, ρ', ec, hp, t2, h2, rfl⟩ := comp_inv (s := pN 5) (el := e2 fIxS (eVar 3) (eCallL F_take [true, false] (aC (eVar 0) (aC (eC (.int 36)) aN)))) (vs := [5]) (fun ρ => ∃ t, Bg t ∧ ρ = [.io t, a, .val (.str lets), .val (.str sgns), .no, .no, .no, .no, .no, .no]) (fun _ u => ∃ c, u = .str c ∧ (c.length ≤ 1 ∧ PyData.strOk c = true)) (ts := rngT 0 n.toNat) (ρ := [.io t, a, .val (.str lets), .val (.str sgns), .no, .no, .no, .no, .no, .no]) ⟨t, ht, rfl⟩ (fun u hu ρ ⟨t3, h3, e3⟩ => by
    subst e3
    obtain ⟨r, t4, rest4, e4, r0, r1, h4⟩ := take_ok (m := 36) h3 (by decide) (by decide)
    obtain ⟨c, ec, hc1, hc2⟩ := ixS_ok (z := sgns) (i := r) (by rw [sgns_ok.1]; decide) sgns_ok.2 r0 (by rw [sgns_ok.1]; exact r1)
    refine ⟨_, .str c, [.io t4, a, .val (.str lets), .val (.str sgns), .no, .val u, .no, .no, .no, .no], rfl, ?_, ⟨c, rfl, by omega, hc2⟩, t4, h4, rfl⟩
    walk_at "eva")
  obtain ⟨ss, rfl, hl, hss⟩ := paired_strs hp
  rw [rngT_len] at hl
  have hj := Fo.join_nm hss (by omega)
  refine ⟨ss, t2, h2, ⟨by have := hj.1; omega, hj.2⟩, hj.1, joinS ?_, ec⟩
  have h1 := Fo.sum_le (k := 1) fun s hs => (hss s hs).1
  have h3 : (Str.ofString "").length = 0 := by decide
  rw [h3]
  omega
def ltr (i : Int) : Str := ⟨#[97 + i.toNat]⟩
theorem ltr_inj {i j : Int} (hi : 0 ≤ i) (hj : 0 ≤ j) (h : ltr i = ltr j) : i = j := by
  unfold ltr at h
  injection h with h
  injection h with h
  injection h with h _
  omega
theorem lets_at {i : Int} (h0 : 0 ≤ i) (h1 : i < 26) : fIxS [.str lets, .int i] = some (.val (.str (ltr i))) := by
  have key : ∀ k : Fin 26, atI lets.cps.toList ((k.val : Nat) : Int) = some (97 + k.val) := by decide +kernel
  have := key ⟨i.toNat, by omega⟩
  rw [show (((⟨i.toNat, by omega⟩ : Fin 26).val : Nat) : Int) = i by simp; omega] at this
  simp only [fIxS]
  rw [if_pos (by rw [sizeLine_eq, lets_ok.1]; decide), this]
  rfl
theorem ltr_ok {i : Int} (h0 : 0 ≤ i) (h1 : i < 26) : (ltr i).length = 1 ∧ PyData.strOk (ltr i) = true := by
  refine ⟨rfl, ?_⟩
  unfold ltr PyData.strOk
  simp
  omega
theorem str_app {a b : Str} : (a ++ b).cps.toList = a.cps.toList ++ b.cps.toList := Array.toList_append
theorem app_l {a b c : Str} (h : a ++ b = a ++ c) : b = c := str_ext (List.append_cancel_left (by rw [← str_app, ← str_app, h]))
theorem app_r {a b c : Str} (h : b ++ a = c ++ a) : b = c := str_ext (List.append_cancel_right (by rw [← str_app, ← str_app, h]))
theorem map_nodup {α β : Type} {f : α → β} : ∀ {l : List α}, l.Nodup → (∀ x ∈ l, ∀ y ∈ l, f x = f y → x = y) → (l.map f).Nodup
  | [], _, _ => by simp
  | x :: r, h, hf => by
    obtain ⟨h1, h2⟩ := List.nodup_cons.mp h
    refine List.nodup_cons.mpr ⟨fun hm => ?_, map_nodup h2 fun a ha b hb => hf a (by simp [ha]) b (by simp [hb])⟩
    obtain ⟨y, hy, e⟩ := List.mem_map.mp hm
    exact h1 (hf y (by simp [hy]) x (by simp) e ▸ hy)
def lsOf (s : Int) : List Str := (List.range 8).map fun k : Nat => ltr ((s + 7 * (k : Int)) % 26)
theorem ls_nodup {s : Int} : (lsOf s).Nodup := map_nodup List.nodup_range fun x hx y hy e => by
  have hx := List.mem_range.mp hx
  have hy := List.mem_range.mp hy
  have := ltr_inj (Int.emod_nonneg _ (by decide)) (Int.emod_nonneg _ (by decide)) e
  omega
theorem ls_ok {s : Int} : ∀ o ∈ lsOf s, o.length = 1 ∧ PyData.strOk o = true := fun o ho => by
  obtain ⟨k, _, rfl⟩ := List.mem_map.mp ho
  exact ltr_ok (Int.emod_nonneg _ (by decide)) (Int.emod_lt_of_pos _ (by decide))
theorem names_ok {t : T} (ht : Bg t) : ∃ (ss : List Str) (t' : T) (y : Sl) (rest : List Sl), F_names [.io t, .val (.int 8)] = some (.own (.lst (ss.map .str)), .io t' :: y :: rest) ∧ ss.length = 8 ∧ (∀ s ∈ ss, Nm s) ∧ ss.Nodup ∧ Bg t' := by
  obtain ⟨x, t0, y0, rest0, q0, hx, h0⟩ := of_ok (xs := [.int 0, .int 0, .int 1, .int 2, .int 10]) ht (by decide) (by decide)
  obtain ⟨n, hn0, hn1, rfl⟩ : ∃ n : Int, 0 ≤ n ∧ n ≤ 10 ∧ x = .int n := by
    simp only [List.mem_cons, List.not_mem_nil, or_false] at hx
    rcases hx with rfl | rfl | rfl | rfl | rfl
    · exact ⟨0, by decide, by decide, rfl⟩
    · exact ⟨0, by decide, by decide, rfl⟩
    · exact ⟨1, by decide, by decide, rfl⟩
    · exact ⟨2, by decide, by decide, rfl⟩
    · exact ⟨10, by decide, by decide, rfl⟩
  clear hx
  have hr : -4611686018427387904 ≤ n ∧ n < 4611686018427387904 := ⟨by omega, by omega⟩
  have hsz : (rngT 0 n.toNat).length < 16777216 := by rw [rngT_len]; omega
  obtain ⟨zs, t1, h1, hz, hz2, ej, q1⟩ := stem_ok (a := .val (.int 8)) h0 hn0 hn1
  generalize Txt.join "" zs = z at hz hz2 ej
  obtain ⟨s, t2, r2, q2, s0, s1, h2⟩ := take_ok (m := 26) h1 (by decide) (by decide)
  obtain ⟨d, t3, r3, q3, d0, d1, h3⟩ := take_ok (m := 2) h2 (by decide) (by decide)
  have ec := comp_map (s := pN 5) (el := e2 fIxS (eVar 2) (e2 fMod (e2 fAdd (eVar 6) (e2 fMul (eC (.int 7)) (eVar 5))) (eC (.int 26)))) (vs := [5]) (f := fun u => match u with | .int k => .str (ltr ((s + 7 * k) % 26)) | _ => .non) (ρ := [.io t3, .val (.int 8), .val (.str lets), .val (.str sgns), .val (.str z), .no, .val (.int s), .val (.bl (decide (d = 0))), .no, .no]) (ts := rngT 0 8) (fun u hu => by
    obtain ⟨k, hk, rfl⟩ := rng_mem hu
    have ec := lets_at (i := (s + 7 * (k : Int)) % 26) (Int.emod_nonneg _ (by decide)) (Int.emod_lt_of_pos _ (by decide))
    refine ⟨_, [.io t3, .val (.int 8), .val (.str lets), .val (.str sgns), .val (.str z), .val (.int k), .val (.int s), .val (.bl (decide (d = 0))), .no, .no], rfl, ?_, rfl⟩
    walk_at "eva")
  rw [show (rngT 0 8).map (fun u => match u with | T.int k => T.str (ltr ((s + 7 * k) % 26)) | _ => .non) = (lsOf s).map T.str by
    unfold rngT lsOf; rw [List.map_map, List.map_map]; refine List.map_congr_left fun k _ => ?_; simp] at ec
  have hos := ls_ok (s := s)
  have hnd := ls_nodup (s := s)
  have hl : (lsOf s).length = 8 := by simp [lsOf]
  generalize lsOf s = os at ec hos hnd hl
  have el0 := lets_at s0 s1
  obtain ⟨hl1, hl2⟩ := ltr_ok s0 s1
  generalize ltr s = l0 at el0 hl1 hl2
  have ea : ∀ a b : Str, a.length ≤ 100 → b.length ≤ 100 → fAddS [.str a, .str b] = some (.val (.str (a ++ b))) := fun a b ha hb => by
    simp only [fAddS]
    rw [if_pos (by rw [sizeLine_eq]; omega)]
  have ec2 := comp_map (s := pN 9) (el := eIf (bE (eVar 7)) (e2 fAddS (e2 fAddS (e2 fIxS (eVar 2) (eVar 6)) (eVar 4)) (eVar 9)) (e2 fAddS (eVar 9) (eVar 4))) (vs := [9]) (f := fun u => match u with | .str o => .str (if d = 0 then l0 ++ z ++ o else o ++ z) | _ => .non) (ρ := [.io t3, .val (.int 8), .val (.str lets), .val (.str sgns), .val (.str z), .no, .val (.int s), .val (.bl (decide (d = 0))), .no, .no]) (ts := os.map T.str) (fun u hu => by
    obtain ⟨o, ho, rfl⟩ := List.mem_map.mp hu
    have hon := hos o ho
    have a1 := ea l0 z (by omega) (by omega)
    have a2 := ea (l0 ++ z) o (by rw [Str.length_append]; omega) (by omega)
    have a3 := ea o z (by omega) (by omega)
    refine ⟨_, [.io t3, .val (.int 8), .val (.str lets), .val (.str sgns), .val (.str z), .no, .val (.int s), .val (.bl (decide (d = 0))), .no, .val (.str o)], rfl, ?_, rfl⟩
    by_cases hd : d = 0 <;> walk_at "eva")
  rw [List.map_map, show ((fun u => match u with | T.str o => T.str (if d = 0 then l0 ++ z ++ o else o ++ z) | _ => .non) ∘ T.str) = T.str ∘ (fun o => if d = 0 then l0 ++ z ++ o else o ++ z) from rfl, ← List.map_map] at ec2
  have hlo : (List.map T.str os).length < 16777216 := by rw [List.length_map]; omega
  have hl4 : (rngT 0 8).length < 16777216 := by rw [rngT_len]; decide
  refine ⟨os.map (fun o => if d = 0 then l0 ++ z ++ o else o ++ z), t3, .val (.int 8), [.val (.str lets), .val (.str sgns), .val (.str z), .no, .val (.int s), .val (.bl (decide (d = 0))), .own (.lst (os.map .str)), .no], ?_, by rw [List.length_map]; exact hl, fun n hn => ?_, map_nodup hnd fun x hx y hy e => ?_, h3⟩
  · clear hos hnd
    generalize os.map (fun o => if d = 0 then l0 ++ z ++ o else o ++ z) = ws at ec2
    unfold F_names B_names
    unfold lets sgns at ec ec2 q1 ⊢
    have k3 : (8 : Int).toNat = 8 := rfl
    walk_at "eva"
  · obtain ⟨o, ho, rfl⟩ := List.mem_map.mp hn
    have hon := hos o ho
    split
    · exact ⟨by simp only [Str.length_append]; omega, Fo.sk_app (Fo.sk_app hl2 hz.2) hon.2⟩
    · exact ⟨by simp only [Str.length_append]; omega, Fo.sk_app hon.2 hz.2⟩
  · split at e
    · exact app_l e
    · exact app_r e
/-! members -/
theorem comp_mapL {α : Type} {s : T → Rho → Option Rho} {el : EF} {vs : List Nat} {f g : α → T} {ρ : Rho} : ∀ {l : List α}, (∀ a ∈ l, ∃ ρ1 ρ3, s (g a) ρ = some ρ1 ∧ opened el ρ1 = some (f a, ρ3) ∧ wipeR ρ3 vs = ρ) → compF s bYes el vs (l.map g) ρ = some (l.map f, ρ)
  | [], _ => rfl
  | t :: r, h => by
    obtain ⟨ρ1, ρ3, h1, h2, h3⟩ := h t (by simp)
    have ih := comp_mapL (l := r) (fun u hu => h u (by simp [hu]))
    simp only [List.map_cons, compF, h1, bYes, Option.bind_some, if_true, h2, h3, ih]
theorem comp_filL {α : Type} {s : T → Rho → Option Rho} {bt : BF} {el : EF} {vs : List Nat} {p : α → Bool} {f g : α → T} {ρ : Rho} : ∀ {l : List α}, (∀ t ∈ l, ∃ ρ1 ρ2, s (g t) ρ = some ρ1 ∧ bt ρ1 = some (p t, ρ2) ∧ (p t = true → ∃ ρ3, opened el ρ2 = some (f t, ρ3) ∧ wipeR ρ3 vs = ρ) ∧ (p t = false → wipeR ρ2 vs = ρ)) → compF s bt el vs (l.map g) ρ = some ((l.filter p).map f, ρ)
  | [], _ => rfl
  | t :: r, h => by
    obtain ⟨ρ1, ρ2, h1, h2, h3, h4⟩ := h t (by simp)
    have ih := comp_filL (l := r) (fun u hu => h u (by simp [hu]))
    cases hp : p t with
    | true =>
      obtain ⟨ρ3, h5, h6⟩ := h3 hp
      simp only [List.map_cons, compF, h1, h2, Option.bind_some, hp, if_true, h5, h6, ih, List.filter_cons]
    | false =>
      have h5 := h4 hp
      simp only [List.map_cons, compF, h1, h2, Option.bind_some, hp, Bool.false_eq_true, if_false, h5, ih, List.filter_cons]
theorem rng_get {n i : Nat} {t : T} (h : (rngT 0 n)[i]? = some t) : i < n ∧ t = .int (i : Int) := by
  unfold rngT at h
  rw [List.getElem?_map] at h
  by_cases hi : i < n
  · rw [List.getElem?_range hi] at h
    simp at h
    exact ⟨hi, h.symm⟩
  · rw [List.getElem?_eq_none (by simp; omega)] at h
    cases h
theorem enum_get {ts : List T} {i : Nat} {t : T} (h : (enumT ts)[i]? = some t) : ∃ x, ts[i]? = some x ∧ t = .tup [.int (i : Int), x] := by
  unfold enumT at h
  rw [List.getElem?_map] at h
  by_cases hi : i < ts.length
  · rw [List.getElem?_range hi] at h
    simp at h
    refine ⟨ts[i], List.getElem?_eq_getElem hi, ?_⟩
    rw [← h]
    simp [List.getD_eq_getElem?_getD, List.getElem?_eq_getElem hi]
  · rw [List.getElem?_eq_none (by simp; omega)] at h
    cases h
theorem cut_map {α : Type} {f : α → T} {l : List α} {lo hi : Option Int} : ∃ zs : List α, cutT (l.map f) lo hi = zs.map f ∧ zs.length ≤ l.length ∧ ∀ z ∈ zs, z ∈ l := by
  unfold cutT
  simp only [← List.map_drop, ← List.map_take]
  refine ⟨_, rfl, ?_, fun z hz => List.mem_of_mem_drop (List.mem_of_mem_take hz)⟩
  simp only [List.length_take, List.length_drop]
  omega
theorem gAp {xs : List T} {y : T} (h : xs.length < 1000) : gAppend (.lst xs) [y] = some (.lst (xs ++ [y]), .non) := by
  unfold gAppend
  dsimp only
  rw [if_pos (by rw [sizeLine_eq]; omega)]
structure Mb where
  n : Str
  a : Str
  g : Int
  u : Bool
def mbT (m : Mb) : T := .tup [.str m.n, .str m.a, .int m.g, .bl m.u]
def hit (m : Mb) (n : Str) (t : Int) : Bool := decide (m.n = n) && (decide (m.g = t) || (decide (t = 0) && m.u))
def Dr (a : Str) : Prop := a = "open" ∨ a = "guarded" ∨ a = "hidden"
def Mok (m : Mb) : Prop := Nm m.n ∧ Dr m.a ∧ 0 ≤ m.g ∧ m.g ≤ 100
def Sep (ms : List Mb) : Prop := ms.Pairwise fun x y => ∀ n t, ¬ (hit x n t = true ∧ hit y n t = true)
abbrev doorL : List T := [.str "open", .str "guarded", .str "hidden", .str "open"]
theorem of_door {t : T} (ht : Bg t) : ∃ a t' y rest, F_of [.io t, .val (.lst doorL)] = some (.val (.str a), .io t' :: y :: rest) ∧ Dr a ∧ Bg t' := by
  obtain ⟨x, t', y, rest, e, hx, h⟩ := of_ok (xs := doorL) ht (by decide) (by decide)
  simp only [List.mem_cons, List.not_mem_nil, or_false] at hx
  rcases hx with rfl | rfl | rfl | rfl
  · exact ⟨_, t', y, rest, e, .inl rfl, h⟩
  · exact ⟨_, t', y, rest, e, .inr (.inl rfl), h⟩
  · exact ⟨_, t', y, rest, e, .inr (.inr rfl), h⟩
  · exact ⟨_, t', y, rest, e, .inl rfl, h⟩
theorem fam_turn {gm : T → List T → Option (T × T)} {t t1 t2 : T} {n a : Str} {us g d i : Int} {xs xs' : List T} {s2 s3 s4 y1 y2 : Sl} {r1 r2 : List Sl} (h3 : s3 = .own (.lst doorL) ∨ s3 = .val (.lst doorL)) (tk : F_take [.io t, .val (.int 2)] = some (.val (.int d), .io t1 :: y1 :: r1)) (q : F_of [.io t1, .val (.lst doorL)] = some (.val (.str a), .io t2 :: y2 :: r2)) (hg : gm (.lst xs) [.tup [.str n, .str a, .int (g + 1 + d), .bl (decide (i = us))]] = some (.lst xs', .non)) :
    (sSeq (sAsg 6 (e2 fAdd (e2 fAdd (eVar 6) (eC (.int 1))) (eCallL F_take [true, false] (aC (eVar 0) (aC (eC (.int 2)) aN)))))
  (sDrop (eMut "list" gm 7 (aC (eTup (aC (eVar 1) (aC (eCallL F_of [true, false] (aC (eVar 0) (aC (eVar 3) aN))) (aC (eVar 6) (aC (e2 (fEq false) (eVar 8) (eVar 5)) aN))))) aN)))) [.io t, .val (.str n), s2, s3, s4, .val (.int us), .val (.int g), .own (.lst xs), .val (.int i)] = .nx [.io t2, .val (.str n), s2, .val (.lst doorL), s4, .val (.int us), .val (.int (g + 1 + d)), .own (.lst xs'), .val (.int i)] := by
  rcases h3 with rfl | rfl <;> walk_at "eva"
theorem fam_loop {t : T} {n : Str} {us g : Int} {k : Nat} {s2 s4 s8 : Sl} (ht : Bg t) (hk : k ≤ 3) (g0 : 0 ≤ g) (g3 : g ≤ 3) : ∃ (t' : T) (g' : Int) (ms : List Mb) (s3' s8' : Sl), loopF (pN 8) (sSeq (sAsg 6 (e2 fAdd (e2 fAdd (eVar 6) (eC (.int 1))) (eCallL F_take [true, false] (aC (eVar 0) (aC (eC (.int 2)) aN)))))
  (sDrop (eMut "list" gAppend 7 (aC (eTup (aC (eVar 1) (aC (eCallL F_of [true, false] (aC (eVar 0) (aC (eVar 3) aN))) (aC (eVar 6) (aC (e2 (fEq false) (eVar 8) (eVar 5)) aN))))) aN)))) (rngT 0 k) [.io t, .val (.str n), s2, .own (.lst doorL), s4, .val (.int us), .val (.int g), .own (.lst []), s8] = .nx [.io t', .val (.str n), s2, s3', s4, .val (.int us), .val (.int g'), .own (.lst (ms.map mbT)), s8'] ∧ Bg t' ∧ ms.length = k ∧ (∀ m ∈ ms, m.n = n ∧ Dr m.a ∧ 1 ≤ m.g ∧ m.g ≤ 9) ∧ ms.Pairwise (fun x y => x.g < y.g ∧ ¬ (x.u = true ∧ y.u = true)) := by
  obtain ⟨ρ', e, t', g', ms, s3', s8', rfl, h1, _, h2, h3, h4, h5, h6⟩ := loop_at (s := pN 8) (b := (sSeq (sAsg 6 (e2 fAdd (e2 fAdd (eVar 6) (eC (.int 1))) (eCallL F_take [true, false] (aC (eVar 0) (aC (eC (.int 2)) aN)))))
  (sDrop (eMut "list" gAppend 7 (aC (eTup (aC (eVar 1) (aC (eCallL F_of [true, false] (aC (eVar 0) (aC (eVar 3) aN))) (aC (eVar 6) (aC (e2 (fEq false) (eVar 8) (eVar 5)) aN))))) aN))))) (fun k ρ => ∃ (t : T) (g : Int) (ms : List Mb) (s3 s8 : Sl), ρ = [.io t, .val (.str n), s2, s3, s4, .val (.int us), .val (.int g), .own (.lst (ms.map mbT)), s8] ∧ Bg t ∧ (s3 = .own (.lst doorL) ∨ s3 = .val (.lst doorL)) ∧ ms.length = k ∧ 0 ≤ g ∧ g ≤ 3 + 2 * k ∧ (∀ m ∈ ms, m.n = n ∧ Dr m.a ∧ 1 ≤ m.g ∧ m.g ≤ g ∧ (m.u = true → us < k)) ∧ ms.Pairwise (fun x y => x.g < y.g ∧ ¬ (x.u = true ∧ y.u = true))) (ts := rngT 0 k) (ρ := [.io t, .val (.str n), s2, .own (.lst doorL), s4, .val (.int us), .val (.int g), .own (.lst []), s8]) 0 ⟨t, g, [], _, s8, rfl, ht, .inl rfl, rfl, g0, by omega, by simp, .nil⟩ (fun i u hu ρ ⟨t, g, ms, s3, s8, e, ht, hs, hl, g0, g1, hm, hp⟩ => by
    obtain ⟨hi, rfl⟩ := rng_get hu
    subst e
    obtain ⟨d, t1, r1, q1, d0, d1, h1⟩ := take_ok (m := 2) ht (by decide) (by decide)
    obtain ⟨a, t2, y2, r2, q2, ha, h2⟩ := of_door h1
    have it := fam_turn (gm := gAppend) (n := n) (us := us) (g := g) (i := (i : Int)) (s2 := s2) (s4 := s4) hs q1 q2 (gAp (xs := ms.map mbT) (by rw [List.length_map]; omega))
    refine ⟨_, _, rfl, it, t2, g + 1 + d, ms ++ [⟨n, a, g + 1 + d, decide ((i : Int) = us)⟩], _, _, by rw [List.map_append]; rfl, h2, .inr rfl, by simp; omega, by omega, by omega, fun m hmm => ?_, ?_⟩
    · rcases List.mem_append.mp hmm with h | h
      · obtain ⟨e1, e2, e3, e4, e5⟩ := hm m h
        exact ⟨e1, e2, e3, by omega, fun hu => by have := e5 hu; omega⟩
      · rw [List.mem_singleton.mp h]
        exact ⟨rfl, ha, by dsimp only; omega, by dsimp only; omega, fun hu => by have := of_decide_eq_true hu; omega⟩
    · refine List.pairwise_append.mpr ⟨hp, by simp, fun x hx y hy => ?_⟩
      rw [List.mem_singleton.mp hy]
      obtain ⟨e1, e2, e3, e4, e5⟩ := hm x hx
      exact ⟨by dsimp only; omega, fun ⟨u1, u2⟩ => by have := e5 u1; have := of_decide_eq_true u2; omega⟩)
  rw [show (0 : Nat) + (rngT 0 k).length = k by rw [rngT_len]; omega] at h2 h4 h5
  exact ⟨t', g', ms, s3', s8', e, h1, h2, fun m hm => by obtain ⟨e1, e2, e3, e4, e5⟩ := h5 m hm; exact ⟨e1, e2, e3, by omega⟩, h6⟩
theorem sep_of {ms : List Mb} (h1 : ∀ m ∈ ms, 1 ≤ m.g) (h2 : ms.Pairwise (fun x y => x.g < y.g ∧ ¬ (x.u = true ∧ y.u = true))) : Sep ms := by
  refine List.Pairwise.imp_of_mem (fun {x y} hx hy ⟨a, b⟩ n t ⟨c, d⟩ => ?_) h2
  have px := h1 x hx
  have py := h1 y hy
  unfold hit at c d
  simp only [Bool.and_eq_true, Bool.or_eq_true, decide_eq_true_eq] at c d
  rcases c.2 with c1 | ⟨c1, c2⟩ <;> rcases d.2 with d1 | ⟨d1, d2⟩ <;> first | omega | exact b ⟨c2, d2⟩
theorem family_ok {t : T} {n : Str} (ht : Bg t) (hn : Nm n) : ∃ (ms : List Mb) (t' : T) (y : Sl) (rest : List Sl), F_family [.io t, .val (.str n)] = some (.own (.lst (ms.map mbT)), .io t' :: y :: rest) ∧ ms.length ≤ 3 ∧ (∀ m ∈ ms, m.n = n ∧ Mok m) ∧ Sep ms ∧ Bg t' := by
  obtain ⟨w, t1, r1, q1, w0, w1, h1⟩ := take_ok (m := 5) ht (by decide) (by decide)
  by_cases hw0 : w = 0
  · refine ⟨[], t1, .val (.str n), ?_, ?_, by decide, by simp, .nil, h1⟩
    rotate_left
    · unfold F_family B_family
      walk_at "eva"
      rfl
  by_cases hw3 : w < 3
  · obtain ⟨a, t2, y2, r2, q2, ha, h2⟩ := of_door h1
    refine ⟨[⟨n, a, 0, false⟩], t2, .val (.str n), ?_, ?_, by simp, fun m hm => ?_, List.pairwise_singleton _ _, h2⟩
    rotate_left
    · unfold F_family B_family mbT
      walk_at "eva"
      rfl
    · rw [List.mem_singleton.mp hm]
      exact ⟨rfl, hn, ha, by simp, by simp⟩
  obtain ⟨c, t2, r2, q2, c0, c1, h2⟩ := take_ok (m := 3) h1 (by decide) (by decide)
  obtain ⟨us, t3, r3, q3, u0, u1, h3⟩ := take_ok (m := 1 + c + 1) h2 (by omega) (by omega)
  obtain ⟨g, t4, r4, q4, g0, g1, h4⟩ := take_ok (m := 4) h3 (by decide) (by decide)
  obtain ⟨t', g', ms, s3', s8', e, h5, hl, hm, hp⟩ := fam_loop (n := n) (us := us) (g := g) (k := (1 + c).toNat) (s2 := .val (.int w)) (s4 := .val (.int (1 + c))) (s8 := .no) h4 (by omega) g0 (by omega)
  have hr : -4611686018427387904 ≤ 1 + c ∧ 1 + c < 4611686018427387904 := ⟨by omega, by omega⟩
  obtain ⟨rest, key⟩ : ∃ rest, F_family [.io t, .val (.str n)] = some (.own (.lst (ms.map mbT)), .io t' :: .val (.str n) :: rest) := by
    unfold F_family B_family
    clear hm hp hl
    generalize ((sSeq (sAsg 6 (e2 fAdd (e2 fAdd (eVar 6) (eC (.int 1))) (eCallL F_take [true, false] (aC (eVar 0) (aC (eC (.int 2)) aN)))))
  (sDrop (eMut "list" gAppend 7 (aC (eTup (aC (eVar 1) (aC (eCallL F_of [true, false] (aC (eVar 0) (aC (eVar 3) aN))) (aC (eVar 6) (aC (e2 (fEq false) (eVar 8) (eVar 5)) aN))))) aN)))) : SF) = bd at e ⊢
    walk_at "eva"
    exact ⟨_, rfl⟩
  refine ⟨ms, t', .val (.str n), rest, key, by omega, fun m h => ?_, sep_of (fun m h => (hm m h).2.2.1) hp, h5⟩
  obtain ⟨e1, e2, e3, e4⟩ := hm m h
  exact ⟨e1, e1 ▸ hn, e2, by omega, by omega⟩
/-! members of names, takes, rows -/
theorem sep_app {xs ys : List Mb} (h1 : Sep xs) (h2 : Sep ys) (h : ∀ x ∈ xs, ∀ y ∈ ys, x.n ≠ y.n) : Sep (xs ++ ys) :=
  List.pairwise_append.mpr ⟨h1, h2, fun x hx y hy n t ⟨a, b⟩ => by
    unfold hit at a b
    simp only [Bool.and_eq_true, decide_eq_true_eq] at a b
    exact h x hx y hy (a.1.trans b.1.symm)⟩
theorem fCat_l {xs ys : List T} (h : xs.length + ys.length ≤ 1000) : fCat [.lst xs, .lst ys] = some (.own (.lst (xs ++ ys))) := by
  rw [fCat_v, if_pos (by rw [sizeLine_eq]; omega)]
theorem mem_loop {s1 : Sl} : ∀ {ns : List Str} {t : T} {ms : List Mb} {s3 s4 : Sl}, Bg t → (∀ s ∈ ns, Nm s) → ns.Nodup → (∀ m ∈ ms, Mok m ∧ m.n ∉ ns) → Sep ms → ms.length ≤ 4 → ∃ (t' : T) (ms' : List Mb) (s3' s4' : Sl), loopF (pN 3) (sSeq (sAsg 4 (eCallL F_family [true, false] (aC (eVar 0) (aC (eVar 3) aN))))
  (sIf (bE (e2 fLe (e2 fAdd (eB fLen (aC (eVar 2) aN)) (eB fLen (aC (eVar 4) aN))) (eC (.int 4))))
  (sAsg 2 (e2 fCat (eVar 2) (eVar 4)))
  sNext)) (ns.map T.str) [.io t, s1, .own (.lst (ms.map mbT)), s3, s4] = .nx [.io t', s1, .own (.lst (ms'.map mbT)), s3', s4'] ∧ Bg t' ∧ (∀ m ∈ ms', Mok m ∧ (m ∈ ms ∨ m.n ∈ ns)) ∧ Sep ms' ∧ ms'.length ≤ 4
  | [], t, ms, s3, s4, ht, _, _, hm, hs, hl => ⟨t, ms, s3, s4, rfl, ht, fun m h => ⟨(hm m h).1, .inl h⟩, hs, hl⟩
  | n :: ns, t, ms, s3, s4, ht, hn, hd, hm, hs, hl => by
    obtain ⟨fs, t1, y1, r1, q1, f3, hf, hfs, h1⟩ := family_ok ht (hn n (by simp))
    obtain ⟨hd1, hd2⟩ := List.nodup_cons.mp hd
    have hc := fCat_l (xs := ms.map mbT) (ys := fs.map mbT) (by simp only [List.length_map]; omega)
    have hsz : (ms.map mbT).length < 16777216 := by rw [List.length_map]; omega
    have hsz2 : (fs.map mbT).length < 16777216 := by rw [List.length_map]; omega
    by_cases h4 : ms.length + fs.length ≤ 4
    · have h4' : ((ms.map mbT).length : Int) + ((fs.map mbT).length : Int) ≤ 4 := by simp only [List.length_map]; omega
      obtain ⟨t', ms', s3', s4', e, h2, hm', hs', hl'⟩ := mem_loop (s1 := s1) (ns := ns) (t := t1) (ms := ms ++ fs) (s3 := .val (.str n)) (s4 := .own (.lst (fs.map mbT))) h1 (fun s h => hn s (by simp [h])) hd2 (fun m h => by
        rcases List.mem_append.mp h with h | h
        · exact ⟨(hm m h).1, fun hc => (hm m h).2 (by simp [hc])⟩
        · exact ⟨(hf m h).2, by rw [(hf m h).1]; exact hd1⟩) (sep_app hs hfs fun x hx y hy he => (hm x hx).2 (by rw [he, (hf y hy).1]; simp)) (by rw [List.length_append]; exact h4)
      refine ⟨t', ms', s3', s4', ?_, h2, fun m h => ⟨(hm' m h).1, ?_⟩, hs', hl'⟩
      · rw [← e, List.map_cons, List.map_append]
        simp only [loopF]
        clear e hm hf hm' hn
        walk_at "eva"
      · rcases (hm' m h).2 with h | h
        · rcases List.mem_append.mp h with h | h
          · exact .inl h
          · exact .inr (by rw [(hf m h).1]; simp)
        · exact .inr (by simp [h])
    · have h4' : ¬ ((ms.map mbT).length : Int) + ((fs.map mbT).length : Int) ≤ 4 := by simp only [List.length_map]; omega
      obtain ⟨t', ms', s3', s4', e, h2, hm', hs', hl'⟩ := mem_loop (s1 := s1) (ns := ns) (t := t1) (ms := ms) (s3 := .val (.str n)) (s4 := .own (.lst (fs.map mbT))) h1 (fun s h => hn s (by simp [h])) hd2 (fun m h => ⟨(hm m h).1, fun hc => (hm m h).2 (by simp [hc])⟩) hs hl
      refine ⟨t', ms', s3', s4', ?_, h2, fun m h => ⟨(hm' m h).1, ?_⟩, hs', hl'⟩
      · rw [← e, List.map_cons]
        simp only [loopF]
        clear e hm hf hm' hn
        walk_at "eva"
      · rcases (hm' m h).2 with h | h
        · exact .inl h
        · exact .inr (by simp [h])
theorem members_ok {t : T} {ns : List Str} (ht : Bg t) (hn : ∀ s ∈ ns, Nm s) (hd : ns.Nodup) : ∃ (ms : List Mb) (t' : T) (y : Sl) (rest : List Sl), F_members [.io t, .val (.lst (ns.map .str))] = some (.own (.lst (ms.map mbT)), .io t' :: y :: rest) ∧ Bg t' ∧ (∀ m ∈ ms, Mok m ∧ m.n ∈ ns) ∧ Sep ms ∧ ms.length ≤ 4 := by
  obtain ⟨t', ms, s3', s4', e, h2, hm, hs, hl⟩ := mem_loop (s1 := .val (.lst (ns.map .str))) (s3 := .no) (s4 := .no) (ms := []) ht hn hd (by simp) .nil (by decide)
  refine ⟨ms, t', .val (.lst (ns.map .str)), [.own (.lst (ms.map mbT)), s3', s4'], ?_, h2, fun m h => ⟨(hm m h).1, by simpa using (hm m h).2⟩, hs, hl⟩
  unfold F_members B_members
  clear hm
  generalize ((sSeq (sAsg 4 (eCallL F_family [true, false] (aC (eVar 0) (aC (eVar 3) aN))))
  (sIf (bE (e2 fLe (e2 fAdd (eB fLen (aC (eVar 2) aN)) (eB fLen (aC (eVar 4) aN))) (eC (.int 4))))
  (sAsg 2 (e2 fCat (eVar 2) (eVar 4)))
  sNext)) : SF) = bd at e ⊢
  rw [List.map_nil] at e
  walk_at "eva"
def cT (c : Str × Int) : T := .tup [.str c.1, .int c.2]
def tk (ms : List Mb) : List (Str × Int) := ms.map (fun m => (m.n, m.g)) ++ (ms.filter (·.u)).map (fun m => (m.n, (0 : Int)))
theorem tk_len {ms : List Mb} : (tk ms).length ≤ 2 * ms.length := by
  unfold tk
  have := List.length_filter_le (·.u) ms
  simp only [List.length_append, List.length_map]
  omega
theorem tk_hit {ms : List Mb} {c : Str × Int} (h : c ∈ tk ms) : ∃ m ∈ ms, hit m c.1 c.2 = true := by
  unfold tk at h
  rcases List.mem_append.mp h with h | h
  · obtain ⟨m, hm, rfl⟩ := List.mem_map.mp h
    exact ⟨m, hm, by simp [hit]⟩
  · obtain ⟨m, hm, rfl⟩ := List.mem_map.mp h
    obtain ⟨hm, hu⟩ := List.mem_filter.mp hm
    exact ⟨m, hm, by simp [hit, hu]⟩
theorem takes_ok {ms : List Mb} (hl : ms.length ≤ 100) : ∃ rest, F_takes [.val (.lst (ms.map mbT))] = some (.own (.lst ((tk ms).map cT)), rest) := by
  have hsz : (ms.map mbT).length < 16777216 := by rw [List.length_map]; omega
  have c1 := comp_mapL (s := pT 4 (pCons (pN 2) (pCons (pN 3) (pCons (pN 4) (pCons (pN 5) pNil))))) (el := eTup (aC (eVar 2) (aC (eVar 4) aN))) (vs := [2, 3, 4, 5]) (g := mbT) (f := fun m => cT (m.n, m.g)) (ρ := [.val (.lst (ms.map mbT)), .no, .no, .no, .no, .no]) (l := ms) (fun m _ => by
    refine ⟨_, [.val (.lst (ms.map mbT)), .no, .val (.str m.n), .val (.str m.a), .val (.int m.g), .val (.bl m.u)], rfl, ?_, rfl⟩
    unfold cT
    walk_at "eva")
  have c2 := comp_filL (s := pT 4 (pCons (pN 2) (pCons (pN 3) (pCons (pN 4) (pCons (pN 5) pNil))))) (bt := bE (eVar 5)) (el := eTup (aC (eVar 2) (aC (eC (.int 0)) aN))) (vs := [2, 3, 4, 5]) (g := mbT) (p := fun m => m.u) (f := fun m => cT (m.n, 0)) (ρ := [.val (.lst (ms.map mbT)), .own (.lst (ms.map fun m => cT (m.n, m.g))), .no, .no, .no, .no]) (l := ms) (fun m _ => by
    refine ⟨_, [.val (.lst (ms.map mbT)), .own (.lst (ms.map fun m => cT (m.n, m.g))), .val (.str m.n), .val (.str m.a), .val (.int m.g), .val (.bl m.u)], rfl, ?_, fun _ => ⟨[.val (.lst (ms.map mbT)), .own (.lst (ms.map fun m => cT (m.n, m.g))), .val (.str m.n), .val (.str m.a), .val (.int m.g), .val (.bl m.u)], ?_, rfl⟩, fun _ => rfl⟩
    · walk_at "eva"
    · unfold cT
      walk_at "eva")
  have hc := fCat_l (xs := ms.map fun m => cT (m.n, m.g)) (ys := (ms.filter (·.u)).map fun m => cT (m.n, 0)) (by
    have := List.length_filter_le (·.u) ms
    simp only [List.length_map]; omega)
  have ht : (tk ms).map cT = (ms.map fun m => cT (m.n, m.g)) ++ (ms.filter (·.u)).map fun m => cT (m.n, 0) := by
    unfold tk
    rw [List.map_append, List.map_map, List.map_map]
    rfl
  rw [ht]
  clear ht
  unfold F_takes B_takes
  walk_at "eva"
  exact ⟨_, rfl⟩
inductive Rw where
  | tell (k : Int) | call (n : Str) (k g : Int)
def rwT : Rw → T
  | .tell k => .obj 0 [("value", .tup [.str "number", .int k])]
  | .call n k g => .obj 1 [("name", .str n), ("value", .tup [.str "number", .int k]), ("tag", .int g)]
def Kn (k : Int) : Prop := -999999999 ≤ k ∧ k ≤ 999999999
def Rok (cs : List (Str × Int)) : Rw → Prop
  | .tell k => Kn k
  | .call n k g => Kn k ∧ (n, g) ∈ cs
theorem tell_init {x : T} : F_Tell_init [.io (.obj 0 []), .val x] = some (.val .non, [.io (.obj 0 [("value", x)]), .val x]) := rfl
theorem call_init {n x g : T} : F_Call_init [.io (.obj 1 []), .val n, .val x, .val g] = some (.val .non, [.io (.obj 1 [("name", n), ("value", x), ("tag", g)]), .val n, .val x, .val g]) := rfl
abbrev numL : List T := [.int 0, .int 1, .int 7, .int 999999999, .int (-999999999)]
theorem of_num {t : T} (ht : Bg t) : ∃ k t' y rest, F_of [.io t, .val (.lst numL)] = some (.val (.int k), .io t' :: y :: rest) ∧ Kn k ∧ Bg t' := by
  obtain ⟨x, t', y, rest, e, hx, h⟩ := of_ok (xs := numL) ht (by decide) (by decide)
  simp only [List.mem_cons, List.not_mem_nil, or_false] at hx
  rcases hx with rfl | rfl | rfl | rfl | rfl
  all_goals exact ⟨_, t', y, rest, e, ⟨by decide, by decide⟩, h⟩
theorem cs_dat : ∀ cs : List (Str × Int), datL (cs.map cT) = some (cs.map fun c => PyData.tuple [.str c.1, .int c.2])
  | [] => rfl
  | c :: r => by simp only [List.map_cons, datL, cT, T.dat, Option.bind_some, Option.map_some, cs_dat r]
theorem cs_ne {cs : List (Str × Int)} (h : ∀ c ∈ cs, Nm c.1) : fEqD true [.lst (cs.map cT), .lst []] = some (.val (.bl (!decide (cs = [])))) := by
  have hs : SeqAt.shaped (.list (cs.map fun c => PyData.tuple [.str c.1, .int c.2])) = true := shaped_l fun d hd => by
    obtain ⟨c, hm, rfl⟩ := List.mem_map.mp hd
    refine ⟨by simp [PyData.canLay0, PyData.canLayAll0, (h c hm).2], by simp [PyData.depth, PyData.depthAll]⟩
  have hp : plainD (.list (cs.map fun c => PyData.tuple [.str c.1, .int c.2])) = true := by
    simp only [plainD]
    clear h hs
    induction cs with
    | nil => rfl
    | cons s r ih => simp only [List.map_cons, plainDAll, plainD, ih, Bool.and_self]
  have h0 : SeqAt.shaped (.list []) = true := by decide
  have hp0 : plainD (.list []) = true := rfl
  have he := eqv_plain _ _ hp hp0
  have hb : PyData.eqv (.list (cs.map fun c => PyData.tuple [.str c.1, .int c.2])) (.list []) = decide (cs = []) := by
    rw [Bool.eq_iff_iff, he]
    simp
  simp only [fEqD, T.dat, cs_dat, datL, Option.map_some, Option.bind_some, hs, h0, hb, and_self, if_true]
theorem row_turn {gm : T → List T → Option (T × T)} {t : T} {cs : List (Str × Int)} {i : Nat} {xs : List T} {s4 s5 s6 : Sl} (hg : ∀ y, gm (.lst xs) [y] = some (.lst (xs ++ [y]), .non)) (ht : Bg t) (hc : ∀ c ∈ cs, Nm c.1) (hcl : cs.length ≤ 100) : ∃ (r : Rw) (t' : T) (s4' s5' s6' : Sl), (sSeq (sAsg 4 (eTup (aC (eC (.str "number")) (aC (eCallL F_of [true, false] (aC (eVar 0) (aC (eLst (aC (eC (.int 0)) (aC (eC (.int 1)) (aC (eC (.int 7)) (aC (eC (.int 999999999)) (aC (e1 fNeg (eC (.int 999999999))) aN)))))) aN))) aN))))
  (sIf (bAnd (bE (e2 (fEqD true) (eVar 1) (eLst aN))) (bAnd (bE (e2 fLt (eVar 3) (eC (.int 2)))) (bE (e2 fGt (eCallL F_take [true, false] (aC (eVar 0) (aC (eC (.int 3)) aN))) (eC (.int 0))))))
  (sSeq (sAsgT [5, 6] (eCallL F_of [true, false] (aC (eVar 0) (aC (eVar 1) aN))))
  (sDrop (eMut "list" gm 2 (aC (eMake 1 F_Call_init [] (aC (eVar 5) (aC (eVar 4) (aC (eVar 6) aN)))) aN))))
  (sDrop (eMut "list" gm 2 (aC (eMake 0 F_Tell_init [] (aC (eVar 4) aN)) aN))))) [.io t, .val (.lst (cs.map cT)), .own (.lst xs), .val (.int (i : Int)), s4, s5, s6] = .nx [.io t', .val (.lst (cs.map cT)), .own (.lst (xs ++ [rwT r])), .val (.int (i : Int)), s4', s5', s6'] ∧ Rok cs r ∧ Bg t' := by
  obtain ⟨k, t1, y1, r1, q1, hk, h1⟩ := of_num ht
  have en : fNeg [.int 999999999] = some (.val (.int (-999999999))) := rfl
  have e0 := cs_ne hc
  have ti := @tell_init (.tup [.str "number", .int k])
  have w1 : rwT (.tell k) = .obj 0 [("value", .tup [.str "number", .int k])] := rfl
  by_cases hz : cs = []
  · have e0' : fEqD true [.lst (cs.map cT), .lst []] = some (.val (.bl false)) := by rw [e0]; simp [hz]
    obtain ⟨s4', s5', s6', key⟩ : ∃ s4' s5' s6', (sSeq (sAsg 4 (eTup (aC (eC (.str "number")) (aC (eCallL F_of [true, false] (aC (eVar 0) (aC (eLst (aC (eC (.int 0)) (aC (eC (.int 1)) (aC (eC (.int 7)) (aC (eC (.int 999999999)) (aC (e1 fNeg (eC (.int 999999999))) aN)))))) aN))) aN))))
  (sIf (bAnd (bE (e2 (fEqD true) (eVar 1) (eLst aN))) (bAnd (bE (e2 fLt (eVar 3) (eC (.int 2)))) (bE (e2 fGt (eCallL F_take [true, false] (aC (eVar 0) (aC (eC (.int 3)) aN))) (eC (.int 0))))))
  (sSeq (sAsgT [5, 6] (eCallL F_of [true, false] (aC (eVar 0) (aC (eVar 1) aN))))
  (sDrop (eMut "list" gm 2 (aC (eMake 1 F_Call_init [] (aC (eVar 5) (aC (eVar 4) (aC (eVar 6) aN)))) aN))))
  (sDrop (eMut "list" gm 2 (aC (eMake 0 F_Tell_init [] (aC (eVar 4) aN)) aN))))) [.io t, .val (.lst (cs.map cT)), .own (.lst xs), .val (.int (i : Int)), s4, s5, s6] = .nx [.io t1, .val (.lst (cs.map cT)), .own (.lst (xs ++ [rwT (.tell k)])), .val (.int (i : Int)), s4', s5', s6'] := by
      clear hc hcl e0 hz
      generalize cs.map cT = cl at e0' ⊢
      walk_at "eva"
      exact ⟨_, _, _, rfl⟩
    exact ⟨_, _, _, _, _, key, hk, h1⟩
  have e0' : fEqD true [.lst (cs.map cT), .lst []] = some (.val (.bl true)) := by rw [e0]; simp [hz]
  clear e0
  by_cases hi : (i : Int) < 2
  · obtain ⟨d, t2, r2, q2, d0, d1, h2⟩ := take_ok (m := 3) h1 (by decide) (by decide)
    by_cases hd : 0 < d
    · obtain ⟨c, t3, y3, r3, q3, hc3, h3⟩ := of_ok (xs := cs.map cT) h2 (by rw [List.length_map]; exact List.length_pos_iff.mpr hz) (by rw [List.length_map]; omega)
      obtain ⟨⟨n, g⟩, hm, rfl⟩ := List.mem_map.mp hc3
      have ci := @call_init (.str n) (.tup [.str "number", .int k]) (.int g)
      have w2 : rwT (.call n k g) = .obj 1 [("name", .str n), ("value", .tup [.str "number", .int k]), ("tag", .int g)] := rfl
      have q3' : F_of [.io t2, .val (.lst (cs.map cT))] = some (.val (.tup [.str n, .int g]), .io t3 :: y3 :: r3) := q3
      obtain ⟨s4', s5', s6', key⟩ : ∃ s4' s5' s6', (sSeq (sAsg 4 (eTup (aC (eC (.str "number")) (aC (eCallL F_of [true, false] (aC (eVar 0) (aC (eLst (aC (eC (.int 0)) (aC (eC (.int 1)) (aC (eC (.int 7)) (aC (eC (.int 999999999)) (aC (e1 fNeg (eC (.int 999999999))) aN)))))) aN))) aN))))
  (sIf (bAnd (bE (e2 (fEqD true) (eVar 1) (eLst aN))) (bAnd (bE (e2 fLt (eVar 3) (eC (.int 2)))) (bE (e2 fGt (eCallL F_take [true, false] (aC (eVar 0) (aC (eC (.int 3)) aN))) (eC (.int 0))))))
  (sSeq (sAsgT [5, 6] (eCallL F_of [true, false] (aC (eVar 0) (aC (eVar 1) aN))))
  (sDrop (eMut "list" gm 2 (aC (eMake 1 F_Call_init [] (aC (eVar 5) (aC (eVar 4) (aC (eVar 6) aN)))) aN))))
  (sDrop (eMut "list" gm 2 (aC (eMake 0 F_Tell_init [] (aC (eVar 4) aN)) aN))))) [.io t, .val (.lst (cs.map cT)), .own (.lst xs), .val (.int (i : Int)), s4, s5, s6] = .nx [.io t3, .val (.lst (cs.map cT)), .own (.lst (xs ++ [rwT (.call n k g)])), .val (.int (i : Int)), s4', s5', s6'] := by
        clear hc hcl hz hc3 hm q3
        generalize cs.map cT = cl at e0' q3' ⊢
        walk_at "eva"
        exact ⟨_, _, _, rfl⟩
      exact ⟨_, _, _, _, _, key, ⟨hk, hm⟩, h3⟩
    · obtain ⟨s4', s5', s6', key⟩ : ∃ s4' s5' s6', (sSeq (sAsg 4 (eTup (aC (eC (.str "number")) (aC (eCallL F_of [true, false] (aC (eVar 0) (aC (eLst (aC (eC (.int 0)) (aC (eC (.int 1)) (aC (eC (.int 7)) (aC (eC (.int 999999999)) (aC (e1 fNeg (eC (.int 999999999))) aN)))))) aN))) aN))))
  (sIf (bAnd (bE (e2 (fEqD true) (eVar 1) (eLst aN))) (bAnd (bE (e2 fLt (eVar 3) (eC (.int 2)))) (bE (e2 fGt (eCallL F_take [true, false] (aC (eVar 0) (aC (eC (.int 3)) aN))) (eC (.int 0))))))
  (sSeq (sAsgT [5, 6] (eCallL F_of [true, false] (aC (eVar 0) (aC (eVar 1) aN))))
  (sDrop (eMut "list" gm 2 (aC (eMake 1 F_Call_init [] (aC (eVar 5) (aC (eVar 4) (aC (eVar 6) aN)))) aN))))
  (sDrop (eMut "list" gm 2 (aC (eMake 0 F_Tell_init [] (aC (eVar 4) aN)) aN))))) [.io t, .val (.lst (cs.map cT)), .own (.lst xs), .val (.int (i : Int)), s4, s5, s6] = .nx [.io t2, .val (.lst (cs.map cT)), .own (.lst (xs ++ [rwT (.tell k)])), .val (.int (i : Int)), s4', s5', s6'] := by
        clear hc hcl hz
        generalize cs.map cT = cl at e0' ⊢
        walk_at "eva"
        exact ⟨_, _, _, rfl⟩
      exact ⟨_, _, _, _, _, key, hk, h2⟩
  · obtain ⟨s4', s5', s6', key⟩ : ∃ s4' s5' s6', (sSeq (sAsg 4 (eTup (aC (eC (.str "number")) (aC (eCallL F_of [true, false] (aC (eVar 0) (aC (eLst (aC (eC (.int 0)) (aC (eC (.int 1)) (aC (eC (.int 7)) (aC (eC (.int 999999999)) (aC (e1 fNeg (eC (.int 999999999))) aN)))))) aN))) aN))))
  (sIf (bAnd (bE (e2 (fEqD true) (eVar 1) (eLst aN))) (bAnd (bE (e2 fLt (eVar 3) (eC (.int 2)))) (bE (e2 fGt (eCallL F_take [true, false] (aC (eVar 0) (aC (eC (.int 3)) aN))) (eC (.int 0))))))
  (sSeq (sAsgT [5, 6] (eCallL F_of [true, false] (aC (eVar 0) (aC (eVar 1) aN))))
  (sDrop (eMut "list" gm 2 (aC (eMake 1 F_Call_init [] (aC (eVar 5) (aC (eVar 4) (aC (eVar 6) aN)))) aN))))
  (sDrop (eMut "list" gm 2 (aC (eMake 0 F_Tell_init [] (aC (eVar 4) aN)) aN))))) [.io t, .val (.lst (cs.map cT)), .own (.lst xs), .val (.int (i : Int)), s4, s5, s6] = .nx [.io t1, .val (.lst (cs.map cT)), .own (.lst (xs ++ [rwT (.tell k)])), .val (.int (i : Int)), s4', s5', s6'] := by
      clear hc hcl hz
      generalize cs.map cT = cl at e0' ⊢
      walk_at "eva"
      exact ⟨_, _, _, rfl⟩
    exact ⟨_, _, _, _, _, key, hk, h1⟩
theorem rows_ok {t : T} {cs : List (Str × Int)} (ht : Bg t) (hc : ∀ c ∈ cs, Nm c.1) (hcl : cs.length ≤ 100) : ∃ (rs : List Rw) (t' : T) (y : Sl) (rest : List Sl), F_rows [.io t, .val (.lst (cs.map cT))] = some (.own (.lst (rs.map rwT)), .io t' :: y :: rest) ∧ (∀ r ∈ rs, Rok cs r) ∧ rs.length ≤ 3 ∧ Bg t' := by
  obtain ⟨d, t1, r1, q1, d0, d1, h1⟩ := take_ok (m := 3) ht (by decide) (by decide)
  obtain ⟨ρ', e, t', rs, s3', s4', s5', s6', rfl, h2, hl, hr⟩ := loop_at (s := pN 3) (b := (sSeq (sAsg 4 (eTup (aC (eC (.str "number")) (aC (eCallL F_of [true, false] (aC (eVar 0) (aC (eLst (aC (eC (.int 0)) (aC (eC (.int 1)) (aC (eC (.int 7)) (aC (eC (.int 999999999)) (aC (e1 fNeg (eC (.int 999999999))) aN)))))) aN))) aN))))
  (sIf (bAnd (bE (e2 (fEqD true) (eVar 1) (eLst aN))) (bAnd (bE (e2 fLt (eVar 3) (eC (.int 2)))) (bE (e2 fGt (eCallL F_take [true, false] (aC (eVar 0) (aC (eC (.int 3)) aN))) (eC (.int 0))))))
  (sSeq (sAsgT [5, 6] (eCallL F_of [true, false] (aC (eVar 0) (aC (eVar 1) aN))))
  (sDrop (eMut "list" gAppend 2 (aC (eMake 1 F_Call_init [] (aC (eVar 5) (aC (eVar 4) (aC (eVar 6) aN)))) aN))))
  (sDrop (eMut "list" gAppend 2 (aC (eMake 0 F_Tell_init [] (aC (eVar 4) aN)) aN)))))) (fun k ρ => ∃ (t : T) (rs : List Rw) (s3 s4 s5 s6 : Sl), ρ = [.io t, .val (.lst (cs.map cT)), .own (.lst (rs.map rwT)), s3, s4, s5, s6] ∧ Bg t ∧ rs.length = k ∧ ∀ r ∈ rs, Rok cs r) (ts := rngT 0 (1 + d).toNat) (ρ := [.io t1, .val (.lst (cs.map cT)), .own (.lst []), .no, .no, .no, .no]) 0 ⟨t1, [], _, _, _, _, rfl, h1, rfl, by simp⟩ (fun i u hu ρ ⟨t, rs, s3, s4, s5, s6, e, ht, hl, hr⟩ => by
    obtain ⟨hi, rfl⟩ := rng_get hu
    subst e
    obtain ⟨r, t', s4', s5', s6', e, hr2, h2⟩ := row_turn (gm := gAppend) (i := i) (xs := rs.map rwT) (s4 := s4) (s5 := s5) (s6 := s6) (fun y => gAp (by rw [List.length_map]; omega)) ht hc hcl
    refine ⟨_, _, rfl, e, t', rs ++ [r], _, _, _, _, by rw [List.map_append]; rfl, h2, by simp; omega, fun x hx => ?_⟩
    rcases List.mem_append.mp hx with h | h
    · exact hr x h
    · rw [List.mem_singleton.mp h]; exact hr2)
  rw [rngT_len] at hl
  have hrg : -4611686018427387904 ≤ 1 + d ∧ 1 + d < 4611686018427387904 := ⟨by omega, by omega⟩
  refine ⟨rs, t', .val (.lst (cs.map cT)), [.own (.lst (rs.map rwT)), s3', s4', s5', s6'], ?_, hr, by omega, h2⟩
  unfold F_rows B_rows
  clear hr hc
  generalize ((sSeq (sAsg 4 (eTup (aC (eC (.str "number")) (aC (eCallL F_of [true, false] (aC (eVar 0) (aC (eLst (aC (eC (.int 0)) (aC (eC (.int 1)) (aC (eC (.int 7)) (aC (eC (.int 999999999)) (aC (e1 fNeg (eC (.int 999999999))) aN)))))) aN))) aN))))
  (sIf (bAnd (bE (e2 (fEqD true) (eVar 1) (eLst aN))) (bAnd (bE (e2 fLt (eVar 3) (eC (.int 2)))) (bE (e2 fGt (eCallL F_take [true, false] (aC (eVar 0) (aC (eC (.int 3)) aN))) (eC (.int 0))))))
  (sSeq (sAsgT [5, 6] (eCallL F_of [true, false] (aC (eVar 0) (aC (eVar 1) aN))))
  (sDrop (eMut "list" gAppend 2 (aC (eMake 1 F_Call_init [] (aC (eVar 5) (aC (eVar 4) (aC (eVar 6) aN)))) aN))))
  (sDrop (eMut "list" gAppend 2 (aC (eMake 0 F_Tell_init [] (aC (eVar 4) aN)) aN))))) : SF) = bd at e ⊢
  walk_at "eva"
/-! the edition -/
inductive Bk where
  | fst (n : Str) (af : List Str) (rs : List Rw)
  | mem (m : Mb) (rs : List Rw)
def bkT : Bk → T
  | .fst n af rs => .obj 2 [("name", .str n), ("after", .tup (af.map .str)), ("rows", .tup (rs.map rwT))]
  | .mem m rs => .obj 3 [("name", .str m.n), ("access", .str m.a), ("tag", .int m.g), ("is_default", .bl m.u), ("rows", .tup (rs.map rwT))]
def Bk.rs : Bk → List Rw
  | .fst _ _ rs => rs
  | .mem _ rs => rs
def isM : Bk → Bool
  | .mem _ _ => true
  | _ => false
def isF : Bk → Bool
  | .fst _ _ _ => true
  | _ => false
def mems : List Bk → List Mb
  | [] => []
  | .fst _ _ _ :: r => mems r
  | .mem m _ :: r => m :: mems r
theorem mems_app : ∀ xs ys : List Bk, mems (xs ++ ys) = mems xs ++ mems ys
  | [], _ => rfl
  | .fst _ _ _ :: r, ys => by simp only [List.cons_append, mems, mems_app r]
  | .mem _ _ :: r, ys => by simp only [List.cons_append, mems, mems_app r]
/-- a call that finds something -/
def Vc (ms : List Mb) (ws : List Str) (c : Str × Int) : Prop := (c.1 ∈ ws ∧ c.2 = 0) ∨ ∃ m ∈ ms, hit m c.1 c.2 = true
def Ro (ms : List Mb) (ws : List Str) : Rw → Prop
  | .tell k => Kn k
  | .call n k g => Kn k ∧ Vc ms ws (n, g)
def Bok (ms : List Mb) (ws : List Str) : Bk → Prop
  | .fst n af rs => Nm n ∧ (∀ x ∈ af, Nm x) ∧ af.length ≤ 3 ∧ (∀ r ∈ rs, Ro ms ws r) ∧ rs.length ≤ 3
  | .mem m rs => m ∈ ms ∧ (∀ r ∈ rs, Ro ms ws r) ∧ rs.length ≤ 3
theorem ro_of {cs : List (Str × Int)} {ms : List Mb} {ws : List Str} (h : ∀ c ∈ cs, Vc ms ws c) : ∀ {r : Rw}, Rok cs r → Ro ms ws r
  | .tell _, e => e
  | .call _ _ _, e => ⟨e.1, h _ e.2⟩
theorem vc_nm {ms : List Mb} {ws : List Str} (hm : ∀ m ∈ ms, Mok m) (hw : ∀ w ∈ ws, Nm w) {c : Str × Int} (h : Vc ms ws c) : Nm c.1 := by
  rcases h with h | ⟨m, h1, h2⟩
  · exact hw _ h.1
  · have := (hm m h1).1
    unfold hit at h2
    simp only [Bool.and_eq_true, decide_eq_true_eq] at h2
    rw [← h2.1]; exact this
def bk (ws : List Str) : List (Str × Int) := ws.map fun w => (w, (0 : Int))
theorem calls_vc {ms xs : List Mb} {ws : List Str} (h : ∀ m ∈ xs, m ∈ ms) : ∀ c ∈ bk ws ++ tk xs, Vc ms ws c := fun c hc => by
  rcases List.mem_append.mp hc with hc | hc
  · obtain ⟨w, hw, rfl⟩ := List.mem_map.mp hc
    exact .inl ⟨hw, rfl⟩
  · obtain ⟨m, hm, e⟩ := tk_hit hc
    exact .inr ⟨m, h m hm, e⟩
theorem back_comp {ws : List Str} {s0 s1 s2 s3 s4 s5 s6 s8 s9 s10 s11 s12 s13 s14 s15 s16 : Sl} : compF (pN 7) bYes (eTup (aC (eVar 7) (aC (eC (.int 0)) aN))) [7] (ws.map T.str) [s0, s1, s2, s3, s4, s5, s6, .no, s8, s9, s10, s11, s12, s13, s14, s15, s16] = some ((bk ws).map cT, [s0, s1, s2, s3, s4, s5, s6, .no, s8, s9, s10, s11, s12, s13, s14, s15, s16]) := by
  have := comp_mapL (s := pN 7) (el := eTup (aC (eVar 7) (aC (eC (.int 0)) aN))) (vs := [7]) (g := T.str) (f := fun w => cT (w, 0)) (ρ := [s0, s1, s2, s3, s4, s5, s6, .no, s8, s9, s10, s11, s12, s13, s14, s15, s16]) (l := ws) (fun w _ => by
    refine ⟨_, [s0, s1, s2, s3, s4, s5, s6, .val (.str w), s8, s9, s10, s11, s12, s13, s14, s15, s16], rfl, ?_, rfl⟩
    unfold cT
    walk_at "eva")
  rw [this]
  unfold bk
  rw [List.map_map]
  rfl
theorem cut_drop {α : Type} {f : α → T} {l : List α} {k : Nat} (h : k ≤ l.length) : cutT (l.map f) (some ((k : Int) + 1)) none = (l.drop (k + 1)).map f := by
  unfold cutT
  rw [show ((k : Int) + 1) = ((k + 1 : Nat) : Int) by omega, HT.sIx_nat]
  simp only [List.length_map]
  by_cases hk : k + 1 ≤ l.length
  · rw [Nat.min_eq_left hk]
    rw [HT.sIx_none, List.take_of_length_le (by simp), List.map_drop]
  · rw [Nat.min_eq_right (by omega)]
    rw [List.drop_eq_nil_of_le (by omega : l.length ≤ k + 1)]
    simp [HT.sIx_none]
theorem member_init {n a : Str} {g : Int} {d : Bool} {rs : List T} : F_Member_init [.io (.obj 3 []), .val (.str n), .val (.str a), .val (.int g), .val (.bl d), .val (.lst rs)] = some (.val .non, [.io (.obj 3 [("name", .str n), ("access", .str a), ("tag", .int g), ("is_default", .bl d), ("rows", .tup rs)]), .val (.str n), .val (.str a), .val (.int g), .val (.bl d), .val (.lst rs)]) := rfl
theorem first_init {n : Str} {af rs : List T} : F_First_init [.io (.obj 2 []), .val (.str n), .val (.tup af), .val (.lst rs)] = some (.val .non, [.io (.obj 2 [("name", .str n), ("after", .tup af), ("rows", .tup rs)]), .val (.str n), .val (.tup af), .val (.lst rs)]) := rfl
theorem ed_mem_turn {ga : T → List T → Option (T × T)} {t t1 : T} {m : Mb} {ms : List Mb} {i : Nat} {xs xs' : List T} {bl us : List T} {y : Sl} {r r2 : List Sl} {rs : List Rw} {s1 s3 s4 s7 s9 s10 s11 s12 s13 s14 s15 s16 : Sl} {cs : List T} (q1 : cutT (ms.map mbT) (some ((i : Int) + 1)) none = us) (hsz : us.length < 16777216) (q2 : F_takes [.val (.lst us)] = some (.own (.lst cs), r)) (q3 : fCat [.lst bl, .lst cs] = some (.own (.lst (bl ++ cs)))) (q4 : F_rows [.io t, .val (.lst (bl ++ cs))] = some (.own (.lst (rs.map rwT)), .io t1 :: y :: r2)) (q5 : ga (.lst xs) [bkT (.mem m rs)] = some (.lst xs', .non)) (hsm : (ms.map mbT).length < 16777216) :
    (sSeq (sAsg 12 (eCallL F_rows [true, false] (aC (eVar 0) (aC (e2 fCat (eVar 5) (eCall F_takes (aC (eSl fSlL (eVar 2) (oSome (e2 fAdd (eVar 8) (eC (.int 1)))) oNo) aN))) aN))))
  (sDrop (eMut "list" ga 6 (aC (eMake 3 F_Member_init [] (aC (eVar 7) (aC (eVar 9) (aC (eVar 10) (aC (eVar 11) (aC (eVar 12) aN)))))) aN)))) [.io t, s1, .val (.lst (ms.map mbT)), s3, s4, .own (.lst bl), .own (.lst xs), .val (.str m.n), .val (.int (i : Int)), .val (.str m.a), .val (.int m.g), .val (.bl m.u), s12, s13, s14, s15, s16] = .nx [.io t1, s1, .val (.lst (ms.map mbT)), s3, s4, .own (.lst bl), .own (.lst xs'), .val (.str m.n), .val (.int (i : Int)), .val (.str m.a), .val (.int m.g), .val (.bl m.u), .val (.lst (rs.map rwT)), s13, s14, s15, s16] := by
  have mi := @member_init m.n m.a m.g m.u (rs.map rwT)
  unfold bkT at q5
  generalize ms.map mbT = ml at q1 hsm ⊢
  walk_at "eva"
theorem enum_len {ts : List T} : (enumT ts).length = ts.length := by simp [enumT]
theorem ed_mem_loop {t : T} {ms : List Mb} {ws : List Str} {s1 s3 s4 s12 s13 s14 s15 s16 : Sl} (ht : Bg t) (hm : ∀ m ∈ ms, Mok m) (hml : ms.length ≤ 4) (hw : ∀ w ∈ ws, Nm w) (hwl : ws.length ≤ 10) : ∃ (t' : T) (bs : List Bk) (s7' s8' s9' s10' s11' s12' : Sl), loopF (pT 2 (pCons (pN 8) (pCons (pT 4 (pCons (pN 7) (pCons (pN 9) (pCons (pN 10) (pCons (pN 11) pNil))))) pNil))) (sSeq (sAsg 12 (eCallL F_rows [true, false] (aC (eVar 0) (aC (e2 fCat (eVar 5) (eCall F_takes (aC (eSl fSlL (eVar 2) (oSome (e2 fAdd (eVar 8) (eC (.int 1)))) oNo) aN))) aN))))
  (sDrop (eMut "list" gAppend 6 (aC (eMake 3 F_Member_init [] (aC (eVar 7) (aC (eVar 9) (aC (eVar 10) (aC (eVar 11) (aC (eVar 12) aN)))))) aN)))) (enumT (ms.map mbT)) [.io t, s1, .val (.lst (ms.map mbT)), s3, s4, .own (.lst ((bk ws).map cT)), .own (.lst []), .no, .no, .no, .no, .no, s12, s13, s14, s15, s16] = .nx [.io t', s1, .val (.lst (ms.map mbT)), s3, s4, .own (.lst ((bk ws).map cT)), .own (.lst (bs.map bkT)), s7', s8', s9', s10', s11', s12', s13, s14, s15, s16] ∧ Bg t' ∧ mems bs = ms ∧ bs.length = ms.length ∧ ∀ b ∈ bs, Bok ms ws b := by
  obtain ⟨ρ', e, t', bs, s7', s8', s9', s10', s11', s12', rfl, h1, h2, h3, h4⟩ := loop_at (s := pT 2 (pCons (pN 8) (pCons (pT 4 (pCons (pN 7) (pCons (pN 9) (pCons (pN 10) (pCons (pN 11) pNil))))) pNil))) (b := (sSeq (sAsg 12 (eCallL F_rows [true, false] (aC (eVar 0) (aC (e2 fCat (eVar 5) (eCall F_takes (aC (eSl fSlL (eVar 2) (oSome (e2 fAdd (eVar 8) (eC (.int 1)))) oNo) aN))) aN))))
  (sDrop (eMut "list" gAppend 6 (aC (eMake 3 F_Member_init [] (aC (eVar 7) (aC (eVar 9) (aC (eVar 10) (aC (eVar 11) (aC (eVar 12) aN)))))) aN))))) (fun k ρ => ∃ (t : T) (bs : List Bk) (s7 s8 s9 s10 s11 s12 : Sl), ρ = [.io t, s1, .val (.lst (ms.map mbT)), s3, s4, .own (.lst ((bk ws).map cT)), .own (.lst (bs.map bkT)), s7, s8, s9, s10, s11, s12, s13, s14, s15, s16] ∧ Bg t ∧ mems bs = ms.take k ∧ bs.length = k ∧ ∀ b ∈ bs, Bok ms ws b) (ts := enumT (ms.map mbT)) (ρ := [.io t, s1, .val (.lst (ms.map mbT)), s3, s4, .own (.lst ((bk ws).map cT)), .own (.lst []), .no, .no, .no, .no, .no, s12, s13, s14, s15, s16]) 0 ⟨t, [], _, _, _, _, _, _, rfl, ht, by simp [mems], rfl, by simp⟩ (fun i u hu ρ ⟨t, bs, s7, s8, s9, s10, s11, s12, e, ht, h2, h3, h4⟩ => by
    obtain ⟨x, hx, rfl⟩ := enum_get hu
    rw [List.getElem?_map] at hx
    obtain ⟨m, hmi, rfl⟩ := Option.map_eq_some_iff.mp hx
    have hil : i < ms.length := (List.getElem?_eq_some_iff.mp hmi).1
    have hmm : m ∈ ms := List.mem_of_getElem? hmi
    subst e
    have hdl : (ms.drop (i + 1)).length ≤ 4 := by rw [List.length_drop]; omega
    have hdm : ∀ x ∈ ms.drop (i + 1), x ∈ ms := fun x hx => List.mem_of_mem_drop hx
    have htl := tk_len (ms := ms.drop (i + 1))
    have hbl : (bk ws).length = ws.length := by simp [bk]
    obtain ⟨r, e2⟩ := takes_ok (ms := ms.drop (i + 1)) (by omega)
    have hv := calls_vc (ws := ws) hdm
    obtain ⟨rs, t1, y, r2, e4, hr, hrl, h5⟩ := rows_ok (cs := bk ws ++ tk (ms.drop (i + 1))) ht (fun c hc => vc_nm hm hw (hv c hc)) (by rw [List.length_append]; omega)
    have e3 := fCat_l (xs := (bk ws).map cT) (ys := (tk (ms.drop (i + 1))).map cT) (by simp only [List.length_map]; omega)
    have it := ed_mem_turn (s1 := s1) (s3 := s3) (s4 := s4) (s7 := s7) (s9 := s9) (s10 := s10) (s11 := s11) (s12 := s12) (s13 := s13) (s14 := s14) (s15 := s15) (s16 := s16) (cut_drop (f := mbT) (l := ms) (k := i) (by omega)) (by rw [List.length_map]; omega) e2 e3 (by rw [← List.map_append]; exact e4) (gAp (xs := bs.map bkT) (y := bkT (.mem m rs)) (by rw [List.length_map]; omega)) (by rw [List.length_map]; omega)
    refine ⟨_, _, rfl, it, t1, bs ++ [.mem m rs], _, _, _, _, _, _, by rw [List.map_append]; rfl, h5, ?_, by simp; omega, fun b hb => ?_⟩
    · rw [mems_app, h2, show 0 + i + 1 = i + 1 by omega, List.take_add_one, hmi, show 0 + i = i by omega]
      rfl
    · rcases List.mem_append.mp hb with h | h
      · exact h4 b h
      · rw [List.mem_singleton.mp h]
        exact ⟨hmm, fun r h => ro_of hv (hr r h), hrl⟩)
  rw [enum_len, List.length_map, Nat.zero_add] at h2 h3
  exact ⟨t', bs, s7', s8', s9', s10', s11', s12', e, h1, by rw [h2, List.take_length], h3, h4⟩
theorem ins_n {xs : List T} {j : Int} {y : T} (h : xs.length < 1000) (h0 : 0 ≤ j) (h1 : j < 1000000) : gInsert (.lst xs) [.int j, y] = some (.lst (xs.take j.toNat ++ [y] ++ xs.drop j.toNat), .non) := by
  unfold gInsert
  dsimp only
  rw [if_pos ⟨by rw [sizeLine_eq]; omega, h0, by omega⟩]
theorem of_after {t : T} (ht : Bg t) : ∃ (af : List Str) (t' : T) (y : Sl) (rest : List Sl), F_of [.io t, .val (.lst [.tup [], .tup [.str "a"]])] = some (.val (.tup (af.map .str)), .io t' :: y :: rest) ∧ (∀ x ∈ af, x = Str.ofString "a") ∧ af.length ≤ 1 ∧ Bg t' := by
  obtain ⟨x, t', y, rest, e, hx, h⟩ := of_ok (xs := [.tup [], .tup [.str "a"]]) ht (by decide) (by decide)
  simp only [List.mem_cons, List.not_mem_nil, or_false] at hx
  rcases hx with rfl | rfl
  · exact ⟨[], t', y, rest, e, by simp, by decide, h⟩
  · exact ⟨["a"], t', y, rest, e, by simp, by decide, h⟩
theorem ab_ok : Nm (Str.ofString "a") ∧ Nm (Str.ofString "b") := ⟨⟨by decide, by decide +kernel⟩, ⟨by decide, by decide +kernel⟩⟩
abbrev fbd (ga : T → List T → Option (T × T)) : SF := (sSeq (sAsg 13 (eIf (bE (e2 (fEq false) (eVar 7) (eC (.str "b")))) (eCallL F_of [true, false] (aC (eVar 0) (aC (eLst (aC (eTup aN) (aC (eTup (aC (eC (.str "a")) aN)) aN))) aN))) (eTup aN)))
  (sSeq (sAsg 14 (eCallL F_take [true, false] (aC (eVar 0) (aC (e2 fAdd (eB fLen (aC (eVar 6) aN)) (eC (.int 1))) aN))))
  (sDrop (eMut "list" ga 6 (aC (eVar 14) (aC (eMake 2 F_First_init [] (aC (eVar 7) (aC (eVar 13) (aC (eCallL F_rows [true, false] (aC (eVar 0) (aC (e2 fCat (eVar 5) (eCall F_takes (aC (eVar 2) aN))) aN))) aN)))) aN))))))
theorem ed_fst_tail {ga : T → List T → Option (T × T)} {t t1 t2 : T} {n : Str} {af : List Str} {ms : List Mb} {xs xs' : List T} {bl cs : List T} {y1 y2 : Sl} {r r1 r2 : List Sl} {rs : List Rw} {j : Int} {s1 s3 s4 s8 s9 s10 s11 s12 s13 s14 s15 s16 : Sl} (q1 : F_take [.io t, .val (.int ((xs.length : Int) + 1))] = some (.val (.int j), .io t1 :: y1 :: r1)) (hx : xs.length < 16777216) (q2 : F_takes [.val (.lst (ms.map mbT))] = some (.own (.lst cs), r)) (q3 : fCat [.lst bl, .lst cs] = some (.own (.lst (bl ++ cs)))) (q4 : F_rows [.io t1, .val (.lst (bl ++ cs))] = some (.own (.lst (rs.map rwT)), .io t2 :: y2 :: r2)) (q5 : ga (.lst xs) [.int j, bkT (.fst n af rs)] = some (.lst xs', .non)) :
    (sSeq (sAsg 14 (eCallL F_take [true, false] (aC (eVar 0) (aC (e2 fAdd (eB fLen (aC (eVar 6) aN)) (eC (.int 1))) aN))))
  (sDrop (eMut "list" ga 6 (aC (eVar 14) (aC (eMake 2 F_First_init [] (aC (eVar 7) (aC (eVar 13) (aC (eCallL F_rows [true, false] (aC (eVar 0) (aC (e2 fCat (eVar 5) (eCall F_takes (aC (eVar 2) aN))) aN))) aN)))) aN))))) [.io t, s1, .val (.lst (ms.map mbT)), s3, s4, .own (.lst bl), .own (.lst xs), .val (.str n), s8, s9, s10, s11, s12, .val (.tup (af.map .str)), s14, s15, s16] = .nx [.io t2, s1, .val (.lst (ms.map mbT)), s3, s4, .own (.lst bl), .own (.lst xs'), .val (.str n), s8, s9, s10, s11, s12, .val (.tup (af.map .str)), .val (.int j), s15, s16] := by
  have mi := @first_init n (af.map .str) (rs.map rwT)
  unfold bkT at q5
  generalize ms.map mbT = ml at q2 ⊢
  walk_at "eva"
theorem ed_fst_turn {t : T} {n : Str} {ms : List Mb} {ws : List Str} {bs : List Bk} {s1 s3 s4 s8 s9 s10 s11 s12 s13 s14 s15 s16 : Sl} (hn : n = Str.ofString "a" ∨ n = Str.ofString "b") (ht : Bg t) (hm : ∀ m ∈ ms, Mok m) (hml : ms.length ≤ 4) (hw : ∀ w ∈ ws, Nm w) (hwl : ws.length ≤ 10) (hb : ∀ b ∈ bs, Bok ms ws b) (hbl : bs.length ≤ 10) : ∃ (t' : T) (bs' : List Bk) (s13' s14' : Sl), (sSeq (sAsg 13 (eIf (bE (e2 (fEq false) (eVar 7) (eC (.str "b")))) (eCallL F_of [true, false] (aC (eVar 0) (aC (eLst (aC (eTup aN) (aC (eTup (aC (eC (.str "a")) aN)) aN))) aN))) (eTup aN)))
  (sSeq (sAsg 14 (eCallL F_take [true, false] (aC (eVar 0) (aC (e2 fAdd (eB fLen (aC (eVar 6) aN)) (eC (.int 1))) aN))))
  (sDrop (eMut "list" gInsert 6 (aC (eVar 14) (aC (eMake 2 F_First_init [] (aC (eVar 7) (aC (eVar 13) (aC (eCallL F_rows [true, false] (aC (eVar 0) (aC (e2 fCat (eVar 5) (eCall F_takes (aC (eVar 2) aN))) aN))) aN)))) aN)))))) [.io t, s1, .val (.lst (ms.map mbT)), s3, s4, .own (.lst ((bk ws).map cT)), .own (.lst (bs.map bkT)), .val (.str n), s8, s9, s10, s11, s12, s13, s14, s15, s16] = .nx [.io t', s1, .val (.lst (ms.map mbT)), s3, s4, .own (.lst ((bk ws).map cT)), .own (.lst (bs'.map bkT)), .val (.str n), s8, s9, s10, s11, s12, s13', s14', s15, s16] ∧ Bg t' ∧ mems bs' = mems bs ∧ bs'.length = bs.length + 1 ∧ ∀ b ∈ bs', Bok ms ws b := by
  obtain ⟨af, t1, haf, hal, h1, he⟩ : ∃ (af : List Str) (t1 : T), (∀ x ∈ af, x = Str.ofString "a") ∧ af.length ≤ 1 ∧ Bg t1 ∧ sAsg 13 (eIf (bE (e2 (fEq false) (eVar 7) (eC (.str "b")))) (eCallL F_of [true, false] (aC (eVar 0) (aC (eLst (aC (eTup aN) (aC (eTup (aC (eC (.str "a")) aN)) aN))) aN))) (eTup aN)) [.io t, s1, .val (.lst (ms.map mbT)), s3, s4, .own (.lst ((bk ws).map cT)), .own (.lst (bs.map bkT)), .val (.str n), s8, s9, s10, s11, s12, s13, s14, s15, s16] = .nx [.io t1, s1, .val (.lst (ms.map mbT)), s3, s4, .own (.lst ((bk ws).map cT)), .own (.lst (bs.map bkT)), .val (.str n), s8, s9, s10, s11, s12, .val (.tup (af.map .str)), s14, s15, s16] := by
    generalize ms.map mbT = ml
    generalize (bk ws).map cT = cl
    generalize bs.map bkT = bl
    rcases hn with rfl | rfl
    · exact ⟨[], t, by simp, by decide, ht, by clear hm hml hw hwl hb hbl; walk_at "eva"⟩
    · obtain ⟨af, t1, y, r, q, h2, h3, h4⟩ := of_after ht
      exact ⟨af, t1, h2, h3, h4, by clear hm hml hw hwl hb hbl; walk_at "eva"⟩
  obtain ⟨j, t2, r2, q2, j0, j1, h2⟩ := take_ok (m := ((bs.map bkT).length : Int) + 1) h1 (by omega) (by rw [List.length_map]; omega)
  obtain ⟨r3, q3⟩ := takes_ok (ms := ms) (by omega)
  have htl := tk_len (ms := ms)
  have hbk : (bk ws).length = ws.length := by simp [bk]
  have hv := calls_vc (ms := ms) (ws := ws) (xs := ms) (fun m h => h)
  obtain ⟨rs, t3, y4, r4, q4, hr, hrl, h3⟩ := rows_ok (cs := bk ws ++ tk ms) h2 (fun c hc => vc_nm hm hw (hv c hc)) (by rw [List.length_append]; omega)
  have e3 := fCat_l (xs := (bk ws).map cT) (ys := (tk ms).map cT) (by simp only [List.length_map]; omega)
  rw [List.length_map] at j1
  have ei := ins_n (xs := bs.map bkT) (j := j) (y := bkT (.fst n af rs)) (by rw [List.length_map]; omega) j0 (by omega)
  rw [show (bs.map bkT).take j.toNat ++ [bkT (.fst n af rs)] ++ (bs.map bkT).drop j.toNat = (bs.take j.toNat ++ [Bk.fst n af rs] ++ bs.drop j.toNat).map bkT by simp] at ei
  have it := ed_fst_tail (ga := gInsert) (ms := ms) (s1 := s1) (s3 := s3) (s4 := s4) (s8 := s8) (s9 := s9) (s10 := s10) (s11 := s11) (s12 := s12) (s13 := .no) (s14 := s14) (s15 := s15) (s16 := s16) q2 (by rw [List.length_map]; omega) q3 e3 (by rw [← List.map_append]; exact q4) ei
  refine ⟨t3, bs.take j.toNat ++ [.fst n af rs] ++ bs.drop j.toNat, .val (.tup (af.map .str)), .val (.int j), ?_, h3, ?_, ?_, fun b hb' => ?_⟩
  rotate_left 1
  · rw [mems_app, mems_app]
    show mems (bs.take j.toNat) ++ [] ++ mems (bs.drop j.toNat) = _
    rw [List.append_nil, ← mems_app, List.take_append_drop]
  · simp; omega
  · simp only [List.mem_append, List.mem_singleton] at hb'
    rcases hb' with (h | rfl) | h
    · exact hb b (List.mem_of_mem_take h)
    · refine ⟨?_, fun x hx => ?_, by omega, fun r h => ro_of hv (hr r h), hrl⟩
      · rcases hn with rfl | rfl
        · exact ab_ok.1
        · exact ab_ok.2
      · rw [haf x hx]; exact ab_ok.1
    · exact hb b (List.mem_of_mem_drop h)
  · rw [sSeq_v, he]
    exact it
theorem ed_fst_loop {ms : List Mb} {ws : List Str} {s1 s3 s4 s8 s9 s10 s11 s12 s15 s16 : Sl} (hm : ∀ m ∈ ms, Mok m) (hml : ms.length ≤ 4) (hw : ∀ w ∈ ws, Nm w) (hwl : ws.length ≤ 10) : ∀ {ns : List Str} {t : T} {bs : List Bk} {s7 s13 s14 : Sl}, Bg t → (∀ n ∈ ns, n = Str.ofString "a" ∨ n = Str.ofString "b") → (∀ b ∈ bs, Bok ms ws b) → bs.length + ns.length ≤ 8 → ∃ (t' : T) (bs' : List Bk) (s7' s13' s14' : Sl), loopF (pN 7) (sSeq (sAsg 13 (eIf (bE (e2 (fEq false) (eVar 7) (eC (.str "b")))) (eCallL F_of [true, false] (aC (eVar 0) (aC (eLst (aC (eTup aN) (aC (eTup (aC (eC (.str "a")) aN)) aN))) aN))) (eTup aN)))
  (sSeq (sAsg 14 (eCallL F_take [true, false] (aC (eVar 0) (aC (e2 fAdd (eB fLen (aC (eVar 6) aN)) (eC (.int 1))) aN))))
  (sDrop (eMut "list" gInsert 6 (aC (eVar 14) (aC (eMake 2 F_First_init [] (aC (eVar 7) (aC (eVar 13) (aC (eCallL F_rows [true, false] (aC (eVar 0) (aC (e2 fCat (eVar 5) (eCall F_takes (aC (eVar 2) aN))) aN))) aN)))) aN)))))) (ns.map T.str) [.io t, s1, .val (.lst (ms.map mbT)), s3, s4, .own (.lst ((bk ws).map cT)), .own (.lst (bs.map bkT)), s7, s8, s9, s10, s11, s12, s13, s14, s15, s16] = .nx [.io t', s1, .val (.lst (ms.map mbT)), s3, s4, .own (.lst ((bk ws).map cT)), .own (.lst (bs'.map bkT)), s7', s8, s9, s10, s11, s12, s13', s14', s15, s16] ∧ Bg t' ∧ mems bs' = mems bs ∧ bs'.length ≤ 8 ∧ ∀ b ∈ bs', Bok ms ws b
  | [], t, bs, s7, s13, s14, ht, _, hb, hl => ⟨t, bs, s7, s13, s14, rfl, ht, rfl, by simpa using hl, hb⟩
  | n :: ns, t, bs, s7, s13, s14, ht, hn, hb, hl => by
    rw [List.length_cons] at hl
    obtain ⟨t1, bs1, s13', s14', e1, h1, h2, h3, h4⟩ := ed_fst_turn (s1 := s1) (s3 := s3) (s4 := s4) (s8 := s8) (s9 := s9) (s10 := s10) (s11 := s11) (s12 := s12) (s13 := s13) (s14 := s14) (s15 := s15) (s16 := s16) (hn n (by simp)) ht hm hml hw hwl hb (by omega)
    obtain ⟨t2, bs2, s7', s13'', s14'', e2, h5, h6, h7, h8⟩ := ed_fst_loop (s1 := s1) (s3 := s3) (s4 := s4) (s8 := s8) (s9 := s9) (s10 := s10) (s11 := s11) (s12 := s12) (s15 := s15) (s16 := s16) hm hml hw hwl (ns := ns) (bs := bs1) (s7 := .val (.str n)) (s13 := s13') (s14 := s14') h1 (fun x hx => hn x (by simp [hx])) h4 (by omega)
    refine ⟨t2, bs2, s7', s13'', s14'', ?_, h5, h6.trans h2, h7, h8⟩
    rw [← e2, List.map_cons, loopF]
    have e6 : pN 7 (.str n) [.io t, s1, .val (.lst (ms.map mbT)), s3, s4, .own (.lst ((bk ws).map cT)), .own (.lst (bs.map bkT)), s7, s8, s9, s10, s11, s12, s13, s14, s15, s16] = some [.io t, s1, .val (.lst (ms.map mbT)), s3, s4, .own (.lst ((bk ws).map cT)), .own (.lst (bs.map bkT)), .val (.str n), s8, s9, s10, s11, s12, s13, s14, s15, s16] := rfl
    rw [e6]
    dsimp only
    rw [e1]
def clsOf : T → Nat
  | .obj c _ => c
  | _ => 0
theorem isi_comp {k : Nat} {p : Bk → Bool} (hp : ∀ b, sub (clsOf (bkT b)) k = p b) {s0 s1 s2 s3 s4 s5 : Sl} : ∀ {bs : List Bk}, compF (pN 6) (bE (eB (fIsi sub) (aC (eVar 6) (aC (eC (.cls k)) aN)))) (eVar 6) [6] (bs.map bkT) [s0, s1, s2, s3, s4, s5, .no] = some ((bs.filter p).map bkT, [s0, s1, s2, s3, s4, s5, .no]) := fun {bs} => by
  exact comp_filL (s := pN 6) (bt := bE (eB (fIsi sub) (aC (eVar 6) (aC (eC (.cls k)) aN)))) (el := eVar 6) (vs := [6]) (g := bkT) (p := p) (f := bkT) (ρ := [s0, s1, s2, s3, s4, s5, .no]) (l := bs) (fun b _ => by
    refine ⟨_, [s0, s1, s2, s3, s4, s5, .val (bkT b)], rfl, ?_, fun _ => ⟨[s0, s1, s2, s3, s4, s5, .val (bkT b)], ?_, rfl⟩, fun _ => rfl⟩
    · have := hp b
      cases b <;> (simp only [bkT, clsOf] at this ⊢; walk_at "eva")
    · walk_at "eva")
def edF (nm : Str) (ws : List Str) (bs : List Bk) : List (Str × T) := [("name", .str nm), ("numbers", .dct []), ("cells", .dct []), ("wants", .tup (ws.map .str)), ("blocks", .tup (bs.map bkT)), ("firsts", .tup ((bs.filter isF).map bkT)), ("members", .tup ((bs.filter isM).map bkT))]
def edT (nm : Str) (ws : List Str) (bs : List Bk) : T := .obj 4 (edF nm ws bs)
theorem ed_init {nm : Str} {ws : List Str} {bs : List Bk} (hl : bs.length ≤ 100) : ∃ rest, F_Edition_init [.io (.obj 4 []), .val (.str nm), .val (.dct []), .val (.dct []), .val (.tup (ws.map .str)), .val (.tup (bs.map bkT))] = some (.val .non, .io (edT nm ws bs) :: rest) := by
  have hsz : (bs.map bkT).length < 16777216 := by rw [List.length_map]; omega
  have p1 : ∀ b, sub (clsOf (bkT b)) 2 = isF b := fun b => by cases b <;> rfl
  have p2 : ∀ b, sub (clsOf (bkT b)) 3 = isM b := fun b => by cases b <;> rfl
  have c1 := @isi_comp 2 isF p1 (.io (.obj 4 [("name", .str nm), ("numbers", .dct []), ("cells", .dct []), ("wants", .tup (ws.map .str)), ("blocks", .tup (bs.map bkT))])) (.val (.str nm)) (.val (.dct [])) (.val (.dct [])) (.val (.tup (ws.map .str))) (.val (.tup (bs.map bkT))) bs
  have c2 := @isi_comp 3 isM p2 (.io (.obj 4 [("name", .str nm), ("numbers", .dct []), ("cells", .dct []), ("wants", .tup (ws.map .str)), ("blocks", .tup (bs.map bkT)), ("firsts", .tup ((bs.filter isF).map bkT))])) (.val (.str nm)) (.val (.dct [])) (.val (.dct [])) (.val (.tup (ws.map .str))) (.val (.tup (bs.map bkT))) bs
  clear p1 p2
  unfold F_Edition_init B_Edition_init edT edF
  walk_at "eva"
  exact ⟨_, rfl⟩
theorem edition_ok {t : T} {nm : Str} {ms : List Mb} {ws : List Str} (ht : Bg t) (hm : ∀ m ∈ ms, Mok m) (hml : ms.length ≤ 4) (hw : ∀ w ∈ ws, Nm w) (hwl : ws.length ≤ 3) : ∃ (bs : List Bk) (t' : T) (rest : List Sl), F_ledition [.io t, .val (.str nm), .val (.lst (ms.map mbT)), .val (.lst (ws.map .str)), .val (.lst [])] = some (.own (edT nm ws bs), .io t' :: .val (.str nm) :: .val (.lst (ms.map mbT)) :: .val (.lst (ws.map .str)) :: .val (.lst []) :: rest) ∧ Bg t' ∧ mems bs = ms ∧ bs.length ≤ 8 ∧ ∀ b ∈ bs, Bok ms ws b := by
  have c0 := back_comp (ws := ws) (s0 := .io t) (s1 := .val (.str nm)) (s2 := .val (.lst (ms.map mbT))) (s3 := .val (.lst (ws.map .str))) (s4 := .val (.lst [])) (s5 := .no) (s6 := .no) (s8 := .no) (s9 := .no) (s10 := .no) (s11 := .no) (s12 := .no) (s13 := .no) (s14 := .no) (s15 := .no) (s16 := .no)
  obtain ⟨t1, bs1, s7, s8, s9, s10, s11, s12, e1, h1, m1, l1, b1⟩ := ed_mem_loop (s1 := .val (.str nm)) (s3 := .val (.lst (ws.map .str))) (s4 := .val (.lst [])) (s12 := .no) (s13 := .no) (s14 := .no) (s15 := .no) (s16 := .no) ht hm hml hw (by omega)
  obtain ⟨d, t2, r2, q2, d0, d1, h2⟩ := take_ok (m := 3) h1 (by decide) (by decide)
  obtain ⟨zs, ez, zl, zm⟩ := cut_map (f := T.str) (l := [Str.ofString "a", Str.ofString "b"]) (lo := none) (hi := some d)
  simp only [List.map_cons, List.map_nil] at ez
  have zl' : zs.length ≤ 2 := zl
  obtain ⟨t3, bs, s7', s13', s14', e3, h3, m3, l3, b3⟩ := ed_fst_loop (s1 := .val (.str nm)) (s3 := .val (.lst (ws.map .str))) (s4 := .val (.lst [])) (s8 := s8) (s9 := s9) (s10 := s10) (s11 := s11) (s12 := s12) (s15 := .no) (s16 := .no) hm hml hw (by omega) (ns := zs) (bs := bs1) (s7 := s7) (s13 := .no) (s14 := .no) h2 (fun n hn => by simpa using zm n hn) b1 (by omega)
  obtain ⟨rest, ei⟩ := ed_init (nm := nm) (ws := ws) (bs := bs) (by omega)
  have hsz : (ws.map T.str).length < 16777216 := by rw [List.length_map]; omega
  have hsz2 : (ms.map mbT).length < 16777216 := by rw [List.length_map]; omega
  have hsz3 : (bs.map bkT).length < 16777216 := by rw [List.length_map]; omega
  have hsz4 : (zs.map T.str).length < 16777216 := by rw [List.length_map]; omega
  obtain ⟨rest, key⟩ : ∃ rest, F_ledition [.io t, .val (.str nm), .val (.lst (ms.map mbT)), .val (.lst (ws.map .str)), .val (.lst [])] = some (.own (edT nm ws bs), .io t3 :: .val (.str nm) :: .val (.lst (ms.map mbT)) :: .val (.lst (ws.map .str)) :: .val (.lst []) :: rest) := by
    unfold F_ledition B_ledition
    clear b1 b3 hm hw zm zl zl' m3 m1 l3 l1 hml hwl
    generalize ((sSeq (sAsg 12 (eCallL F_rows [true, false] (aC (eVar 0) (aC (e2 fCat (eVar 5) (eCall F_takes (aC (eSl fSlL (eVar 2) (oSome (e2 fAdd (eVar 8) (eC (.int 1)))) oNo) aN))) aN))))
  (sDrop (eMut "list" gAppend 6 (aC (eMake 3 F_Member_init [] (aC (eVar 7) (aC (eVar 9) (aC (eVar 10) (aC (eVar 11) (aC (eVar 12) aN)))))) aN)))) : SF) = bd1 at e1 ⊢
    generalize ((sSeq (sAsg 13 (eIf (bE (e2 (fEq false) (eVar 7) (eC (.str "b")))) (eCallL F_of [true, false] (aC (eVar 0) (aC (eLst (aC (eTup aN) (aC (eTup (aC (eC (.str "a")) aN)) aN))) aN))) (eTup aN)))
  (sSeq (sAsg 14 (eCallL F_take [true, false] (aC (eVar 0) (aC (e2 fAdd (eB fLen (aC (eVar 6) aN)) (eC (.int 1))) aN))))
  (sDrop (eMut "list" gInsert 6 (aC (eVar 14) (aC (eMake 2 F_First_init [] (aC (eVar 7) (aC (eVar 13) (aC (eCallL F_rows [true, false] (aC (eVar 0) (aC (e2 fCat (eVar 5) (eCall F_takes (aC (eVar 2) aN))) aN))) aN)))) aN)))))) : SF) = bd2 at e3 ⊢
    walk_at "eva"
    exact ⟨_, rfl⟩
  exact ⟨bs, t3, rest, key, h3, m3.trans m1, l3, b3⟩
/-! member, why, reach, landed; what the law says is due -/
def mbs : List Bk → List (Mb × List Rw)
  | [] => []
  | .fst _ _ _ :: r => mbs r
  | .mem m rs :: r => (m, rs) :: mbs r
def mT (p : Mb × List Rw) : T := bkT (.mem p.1 p.2)
theorem mbs_fil : ∀ bs : List Bk, (bs.filter isM).map bkT = (mbs bs).map mT
  | [] => rfl
  | .fst _ _ _ :: r => by simp only [List.filter_cons, isM, Bool.false_eq_true, if_false, mbs, mbs_fil r]
  | .mem m rs :: r => by simp only [List.filter_cons, isM, if_true, List.map_cons, mbs, mbs_fil r, mT]
theorem mbs_mems : ∀ bs : List Bk, (mbs bs).map (·.1) = mems bs
  | [] => rfl
  | .fst _ _ _ :: r => by simp only [mbs, mems, mbs_mems r]
  | .mem m rs :: r => by simp only [mbs, mems, List.map_cons, mbs_mems r]
def fm (ms : List Mb) (n : Str) (g : Int) : Option Mb := ms.find? fun m => hit m n g
def fp (ps : List (Mb × List Rw)) (n : Str) (g : Int) : Option (Mb × List Rw) := ps.find? fun p => hit p.1 n g
theorem fp_fm : ∀ {ps : List (Mb × List Rw)} {n : Str} {g : Int}, (fp ps n g).map (·.1) = fm (ps.map (·.1)) n g
  | [], _, _ => rfl
  | p :: r, n, g => by
    unfold fp fm
    simp only [List.map_cons, List.find?_cons]
    cases h : hit p.1 n g with
    | true => rfl
    | false => exact fp_fm (ps := r)
def oM : Option (Mb × List Rw) → T
  | some p => mT p
  | none => .non
theorem member_turn {ed : T} {n : Str} {g : Int} {p : Mb × List Rw} : (sIf (bAnd (bE (e2 (fEq false) (eFld "name" (eVar 3)) (eVar 1))) (bOr (bE (e2 (fEq false) (eFld "tag" (eVar 3)) (eVar 2))) (bAnd (bE (e2 (fEq false) (eVar 2) (eC (.int 0)))) (bE (eFld "is_default" (eVar 3))))))
  (sRet (eVar 3))
  sNext) [.val ed, .val (.str n), .val (.int g), .val (mT p)] = if hit p.1 n g then .rt (.val (mT p)) [.val ed, .val (.str n), .val (.int g), .val (mT p)] else .nx [.val ed, .val (.str n), .val (.int g), .val (mT p)] := by
  obtain ⟨⟨mn, ma, mg, mu⟩, rs⟩ := p
  unfold mT bkT hit
  generalize rs.map rwT = rl
  cases h1 : decide (mn = n)
  · walk_at "eva"; rfl
  cases h2 : decide (mg = g)
  · cases h3 : decide (g = 0)
    · walk_at "eva"; rfl
    · cases mu <;> (walk_at "eva"; rfl)
  · walk_at "eva"; rfl
theorem member_loop {ed : T} {n : Str} {g : Int} : ∀ {ps : List (Mb × List Rw)} {s3 : Sl}, ∃ ρ, loopF (pN 3) (sIf (bAnd (bE (e2 (fEq false) (eFld "name" (eVar 3)) (eVar 1))) (bOr (bE (e2 (fEq false) (eFld "tag" (eVar 3)) (eVar 2))) (bAnd (bE (e2 (fEq false) (eVar 2) (eC (.int 0)))) (bE (eFld "is_default" (eVar 3))))))
  (sRet (eVar 3))
  sNext) (ps.map mT) [.val ed, .val (.str n), .val (.int g), s3] = match fp ps n g with
    | some p => .rt (.val (mT p)) ρ
    | none => .nx ρ
  | [], s3 => ⟨_, rfl⟩
  | p :: r, s3 => by
    have e6 : pN 3 (mT p) [.val ed, .val (.str n), .val (.int g), s3] = some [.val ed, .val (.str n), .val (.int g), .val (mT p)] := rfl
    obtain ⟨ρ, ih⟩ := member_loop (ed := ed) (n := n) (g := g) (ps := r) (s3 := .val (mT p))
    have mt := member_turn (ed := ed) (n := n) (g := g) (p := p)
    unfold fp at ih ⊢
    rw [List.map_cons, loopF, e6]
    dsimp only
    rw [mt, List.find?_cons]
    cases h : hit p.1 n g with
    | true => exact ⟨_, rfl⟩
    | false => exact ⟨ρ, ih⟩
theorem member_ok {fs : List (Str × T)} {ps : List (Mb × List Rw)} {n : Str} {g : Int} (h : fs.lookup (Str.ofString "members") = some (T.tup (ps.map mT))) (hl : ps.length ≤ 100) : ∃ rest, F_Edition_member [.val (.obj 4 fs), .val (.str n), .val (.int g)] = some (.val (oM (fp ps n g)), rest) := by
  obtain ⟨ρ, e⟩ := member_loop (ed := .obj 4 fs) (n := n) (g := g) (ps := ps) (s3 := .no)
  have hsz : (ps.map mT).length < 16777216 := by rw [List.length_map]; omega
  unfold F_Edition_member B_Edition_member
  generalize ((sIf (bAnd (bE (e2 (fEq false) (eFld "name" (eVar 3)) (eVar 1))) (bOr (bE (e2 (fEq false) (eFld "tag" (eVar 3)) (eVar 2))) (bAnd (bE (e2 (fEq false) (eVar 2) (eC (.int 0)))) (bE (eFld "is_default" (eVar 3))))))
  (sRet (eVar 3))
  sNext) : SF) = bd at e ⊢
  generalize ps.map mT = pl at *
  cases hf : fp ps n g with
  | some p =>
    rw [hf] at e
    dsimp only at e
    unfold oM
    walk_at "eva"
    exact ⟨_, rfl⟩
  | none =>
    rw [hf] at e
    dsimp only at e
    unfold oM
    walk_at "eva"
    exact ⟨_, rfl⟩
def fw (ms : List Mb) (ws gs : List Str) (n : Str) (g : Int) : T × T :=
  if decide (n ∈ ws) && decide (g = 0) then (.tup [.str "client", .str n], .str "wanted")
  else match fm ms n g with
    | none => (.non, .non)
    | some m => if decide (m.a = Str.ofString "open") && decide (n ∈ gs) then (.tup [.str "client", .str n], .str "taken") else (.tup [.str "edition", .str n, .int m.g], .str m.a)
def scT (ed : T) (gs : List Str) : T := .obj 5 [("edition", ed), ("given", .tup (gs.map .str))]
/-- an edition as the scope reads it -/
structure Ed (fs : List (Str × T)) (ws : List Str) (ps : List (Mb × List Rw)) : Prop where
  m : fs.lookup (Str.ofString "members") = some (T.tup (ps.map mT))
  w : fs.lookup (Str.ofString "wants") = some (T.tup (ws.map T.str))
  l : ps.length ≤ 100
  d : ∀ p ∈ ps, Dr p.1.a
  n1 : fs.lookup (Str.ofString "member") = none
  n2 : fs.lookup (Str.ofString "visible") = none
theorem fp_mem {ps : List (Mb × List Rw)} {n : Str} {g : Int} {p : Mb × List Rw} (h : fp ps n g = some p) : p ∈ ps ∧ hit p.1 n g = true := ⟨List.mem_of_find?_eq_some h, by have := List.find?_some h; exact this⟩
theorem why_ok {fs : List (Str × T)} {ws gs : List Str} {ps : List (Mb × List Rw)} {n : Str} {g : Int} (e : Ed fs ws ps) : ∃ rest, F_Scope_why [.val (scT (.obj 4 fs) gs), .val (.str n), .val (.int g)] = some (.val (fw (ps.map (·.1)) ws gs n g).2, rest) := by
  obtain ⟨r, q⟩ := member_ok (n := n) (g := g) e.m e.l
  have mm : M_member_4 4 = F_Edition_member := rfl
  have iw := @fIn_T false n ws
  have ig := @fIn_T false n gs
  rw [if_neg (by decide)] at iw ig
  have hw := e.w
  have n1 := e.n1
  clear e
  unfold F_Scope_why B_Scope_why scT fw
  rw [← fp_fm]
  generalize ws.map T.str = wl at *
  generalize gs.map T.str = gl at *
  cases h1 : decide (n ∈ ws) <;> cases h2 : decide (g = 0)
  case true.true =>
    walk_at "eva"
    exact ⟨_, rfl⟩
  all_goals
    cases hf : fp ps n g with
    | none =>
      rw [hf] at q
      unfold oM at q
      walk_at "eva"
      exact ⟨_, rfl⟩
    | some p =>
      obtain ⟨⟨mn, ma, mg, mu⟩, rs⟩ := p
      rw [hf] at q
      unfold oM mT bkT at q
      generalize rs.map rwT = rl at q
      cases h3 : decide (ma = Str.ofString "open") <;> cases h4 : decide (n ∈ gs) <;> (walk_at "eva"; exact ⟨_, rfl⟩)
theorem dr_ne {a : Str} (h : Dr a) : decide (a = Str.ofString "wanted") = false ∧ decide (a = Str.ofString "taken") = false := by
  rcases h with rfl | rfl | rfl <;> exact ⟨by decide, by decide⟩
theorem reach_ok {fs : List (Str × T)} {ws gs : List Str} {ps : List (Mb × List Rw)} {n : Str} {g : Int} (e : Ed fs ws ps) : ∃ o rest, F_Scope_reach [.val (scT (.obj 4 fs) gs), .val (.str n), .val (.int g)] = some (o, rest) ∧ Shr o (fw (ps.map (·.1)) ws gs n g).1 := by
  obtain ⟨r, q⟩ := member_ok (n := n) (g := g) e.m e.l
  obtain ⟨r2, q2⟩ := why_ok (gs := gs) (n := n) (g := g) e
  have mm : M_member_4 4 = F_Edition_member := rfl
  have mw : M_why_5 5 = F_Scope_why := rfl
  have hd := e.d
  have n1 := e.n1
  have dw : decide (Str.ofString "wanted" = Str.ofString "wanted") = true := by simp
  have dt : decide (Str.ofString "taken" = Str.ofString "taken") = true := by simp
  have dt2 : decide (Str.ofString "taken" = Str.ofString "wanted") = false := by decide
  clear e
  unfold F_Scope_reach B_Scope_reach
  unfold scT fw at q2
  unfold scT fw
  rw [← fp_fm] at q2 ⊢
  generalize gs.map T.str = gl at *
  cases h1 : decide (n ∈ ws) <;> cases h2 : decide (g = 0) <;> rw [h1, h2] at q2
  case true.true =>
    simp only [Bool.and_self, if_true] at q2
    walk_at "eva"
    exact ⟨_, _, rfl, fun _ => rfl, fun _ => rfl, fun _ _ => rfl⟩
  all_goals
    simp only [Bool.and_false, Bool.and_true, Bool.false_eq_true, if_false] at q2
    cases hf : fp ps n g with
    | none =>
      rw [hf] at q q2
      simp only [Option.map_none] at q2
      unfold oM at q
      clear hd
      walk_at "eva"
      exact ⟨_, _, rfl, fun _ => rfl, fun _ => rfl, fun _ _ => rfl⟩
    | some p =>
      have hp := (fp_mem hf).1
      obtain ⟨⟨mn, ma, mg, mu⟩, rs⟩ := p
      obtain ⟨d1, d2⟩ := dr_ne (hd _ hp)
      dsimp only at d1 d2
      rw [hf] at q q2
      simp only [Option.map_some] at q2
      unfold oM mT bkT at q
      generalize rs.map rwT = rl at q
      clear hd hp
      cases h3 : decide (ma = Str.ofString "open") <;> cases h4 : decide (n ∈ gs) <;> rw [h3, h4] at q2 <;> simp only [Bool.and_false, Bool.and_true, Bool.and_self, Bool.false_eq_true, if_false, if_true] at q2 <;> (walk_at "eva"; exact ⟨_, _, rfl, fun _ => rfl, fun _ => rfl, fun _ _ => rfl⟩)
def fl (ms : List Mb) (n : Str) (g : Int) : T := match fm ms n g with
  | none => .non
  | some m => if decide (m.a = Str.ofString "hidden") then .non else .int m.g
theorem visible_ok {fs : List (Str × T)} {ws : List Str} {ps : List (Mb × List Rw)} {n : Str} {g : Int} (e : Ed fs ws ps) : ∃ rest, F_Edition_visible [.val (.obj 4 fs), .val (.str n), .val (.int g)] = some (.val (match fp ps n g with | none => T.non | some p => if decide (p.1.a = Str.ofString "hidden") then .non else mT p), rest) := by
  obtain ⟨r, q⟩ := member_ok (n := n) (g := g) e.m e.l
  have mm : M_member_4 4 = F_Edition_member := rfl
  have n1 := e.n1
  clear e
  unfold F_Edition_visible B_Edition_visible
  cases hf : fp ps n g with
  | none =>
    rw [hf] at q
    unfold oM at q
    walk_at "eva"
    exact ⟨_, rfl⟩
  | some p =>
    obtain ⟨⟨mn, ma, mg, mu⟩, rs⟩ := p
    rw [hf] at q
    unfold oM mT bkT at q
    unfold mT bkT
    generalize rs.map rwT = rl at *
    cases h3 : decide (ma = Str.ofString "hidden") <;> (walk_at "eva"; exact ⟨_, rfl⟩)
theorem landed_ok {fs : List (Str × T)} {ws : List Str} {ps : List (Mb × List Rw)} {n : Str} {g : Int} (e : Ed fs ws ps) : ∃ rest, F_landed [.val (.obj 4 fs), .val (.str n), .val (.int g)] = some (.val (fl (ps.map (·.1)) n g), rest) := by
  obtain ⟨r, q⟩ := visible_ok (n := n) (g := g) e
  have mm : M_visible_4 4 = F_Edition_visible := rfl
  have n2 := e.n2
  clear e
  unfold F_landed B_landed fl
  rw [← fp_fm]
  cases hf : fp ps n g with
  | none =>
    rw [hf] at q
    dsimp only at q
    walk_at "eva"
    exact ⟨_, rfl⟩
  | some p =>
    obtain ⟨⟨mn, ma, mg, mu⟩, rs⟩ := p
    rw [hf] at q
    dsimp only at q
    unfold mT bkT at q
    generalize rs.map rwT = rl at *
    cases h3 : decide (ma = Str.ofString "hidden") <;> rw [h3] at q <;> simp only [Bool.false_eq_true, if_false, if_true] at q <;> (walk_at "eva"; exact ⟨_, rfl⟩)
theorem llanded_turn {n : Str} {g : Int} {m : Mb} {s0 : Sl} : (sIf (bAnd (bE (e2 (fEq false) (eVar 3) (eVar 1))) (bAnd (bE (e2 (fEq true) (eVar 4) (eC (.str "hidden")))) (bOr (bE (e2 (fEq false) (eVar 5) (eVar 2))) (bAnd (bE (e2 (fEq false) (eVar 2) (eC (.int 0)))) (bE (eVar 6))))))
  (sRet (eVar 5))
  sNext) [s0, .val (.str n), .val (.int g), .val (.str m.n), .val (.str m.a), .val (.int m.g), .val (.bl m.u)] = if hit m n g && !decide (m.a = Str.ofString "hidden") then .rt (.val (.int m.g)) [s0, .val (.str n), .val (.int g), .val (.str m.n), .val (.str m.a), .val (.int m.g), .val (.bl m.u)] else .nx [s0, .val (.str n), .val (.int g), .val (.str m.n), .val (.str m.a), .val (.int m.g), .val (.bl m.u)] := by
  obtain ⟨mn, ma, mg, mu⟩ := m
  unfold hit
  dsimp only
  cases h1 : decide (mn = n)
  · walk_at "eva"; rfl
  cases h4 : decide (ma = Str.ofString "hidden")
  · cases h2 : decide (mg = g)
    · cases h3 : decide (g = 0)
      · walk_at "eva"; rfl
      · cases mu <;> (walk_at "eva"; rfl)
    · walk_at "eva"; rfl
  · rw [Bool.not_true, Bool.and_false]
    walk_at "eva"
theorem llanded_loop {n : Str} {g : Int} {s0 : Sl} : ∀ {ms : List Mb} {s3 s4 s5 s6 : Sl}, ∃ ρ, loopF (pT 4 (pCons (pN 3) (pCons (pN 4) (pCons (pN 5) (pCons (pN 6) pNil))))) (sIf (bAnd (bE (e2 (fEq false) (eVar 3) (eVar 1))) (bAnd (bE (e2 (fEq true) (eVar 4) (eC (.str "hidden")))) (bOr (bE (e2 (fEq false) (eVar 5) (eVar 2))) (bAnd (bE (e2 (fEq false) (eVar 2) (eC (.int 0)))) (bE (eVar 6))))))
  (sRet (eVar 5))
  sNext) (ms.map mbT) [s0, .val (.str n), .val (.int g), s3, s4, s5, s6] = match ms.find? (fun m => hit m n g && !decide (m.a = Str.ofString "hidden")) with
    | some m => .rt (.val (.int m.g)) ρ
    | none => .nx ρ
  | [], s3, s4, s5, s6 => ⟨_, rfl⟩
  | m :: r, s3, s4, s5, s6 => by
    have e6 : pT 4 (pCons (pN 3) (pCons (pN 4) (pCons (pN 5) (pCons (pN 6) pNil)))) (mbT m) [s0, .val (.str n), .val (.int g), s3, s4, s5, s6] = some [s0, .val (.str n), .val (.int g), .val (.str m.n), .val (.str m.a), .val (.int m.g), .val (.bl m.u)] := rfl
    obtain ⟨ρ, ih⟩ := llanded_loop (n := n) (g := g) (s0 := s0) (ms := r) (s3 := .val (.str m.n)) (s4 := .val (.str m.a)) (s5 := .val (.int m.g)) (s6 := .val (.bl m.u))
    have mt := llanded_turn (n := n) (g := g) (m := m) (s0 := s0)
    rw [List.map_cons, loopF, e6]
    dsimp only
    rw [mt, List.find?_cons]
    cases h : hit m n g && !decide (m.a = Str.ofString "hidden") with
    | true => exact ⟨_, rfl⟩
    | false => exact ⟨ρ, ih⟩
theorem sep_find : ∀ {ms : List Mb} {n : Str} {g : Int}, Sep ms → ms.find? (fun m => hit m n g && !decide (m.a = Str.ofString "hidden")) = (fm ms n g).bind fun m => if decide (m.a = Str.ofString "hidden") then none else some m
  | [], _, _, _ => rfl
  | m :: r, n, g, h => by
    obtain ⟨h1, h2⟩ := List.pairwise_cons.mp h
    unfold fm
    simp only [List.find?_cons]
    cases hh : hit m n g with
    | false => exact sep_find h2
    | true =>
      cases hd : decide (m.a = Str.ofString "hidden") with
      | false => simp [of_decide_eq_false hd]
      | true =>
        simp only [Bool.not_true, Bool.and_false, Option.bind_some, hd, if_true]
        refine List.find?_eq_none.mpr fun x hx => ?_
        have := h1 x hx n g
        simp only [hh, true_and, Bool.not_eq_true] at this
        simp [this]
theorem llanded_ok {ms : List Mb} {n : Str} {g : Int} (hs : Sep ms) (hl : ms.length ≤ 100) : ∃ rest, F_llanded [.val (.lst (ms.map mbT)), .val (.str n), .val (.int g)] = some (.val (fl ms n g), rest) := by
  obtain ⟨ρ, e⟩ := llanded_loop (n := n) (g := g) (s0 := .val (.lst (ms.map mbT))) (ms := ms) (s3 := .no) (s4 := .no) (s5 := .no) (s6 := .no)
  have hsz : (ms.map mbT).length < 16777216 := by rw [List.length_map]; omega
  rw [sep_find hs] at e
  unfold F_llanded B_llanded fl
  generalize ((sIf (bAnd (bE (e2 (fEq false) (eVar 3) (eVar 1))) (bAnd (bE (e2 (fEq true) (eVar 4) (eC (.str "hidden")))) (bOr (bE (e2 (fEq false) (eVar 5) (eVar 2))) (bAnd (bE (e2 (fEq false) (eVar 2) (eC (.int 0)))) (bE (eVar 6))))))
  (sRet (eVar 5))
  sNext) : SF) = bd at e ⊢
  generalize ms.map mbT = pl at *
  cases hf : fm ms n g with
  | none =>
    rw [hf] at e
    dsimp only [Option.bind_none] at e
    walk_at "eva"
    exact ⟨_, rfl⟩
  | some m =>
    rw [hf] at e
    dsimp only [Option.bind_some] at e
    cases h3 : decide (m.a = Str.ofString "hidden") <;> rw [h3] at e <;> simp only [Bool.false_eq_true, if_false, if_true] at e <;> (walk_at "eva"; exact ⟨_, rfl⟩)
/-! what is due; targets -/
theorem due_turn {ws gl : List Str} {n : Str} {g : Int} {m : Mb} {s0 s1 : Sl} : (sIf (bAnd (bE (e2 (fEq false) (eVar 5) (eVar 3))) (bOr (bE (e2 (fEq false) (eVar 7) (eVar 4))) (bAnd (bE (e2 (fEq false) (eVar 4) (eC (.int 0)))) (bE (eVar 8)))))
  (sSeq (sIf (bAnd (bE (e2 (fEq false) (eVar 6) (eC (.str "open")))) (bE (e2 (fIn false) (eVar 3) (eVar 2))))
  (sRet (eOT (aC (eTup (aC (eC (.str "client")) (aC (eVar 3) aN))) (aC (eC (.str "taken")) aN))))
  sNext)
  (sRet (eOT (aC (eTup (aC (eC (.str "edition")) (aC (eVar 3) (aC (eVar 7) aN)))) (aC (eVar 6) aN)))))
  sNext) [s0, s1, .val (.lst (gl.map .str)), .val (.str n), .val (.int g), .val (.str m.n), .val (.str m.a), .val (.int m.g), .val (.bl m.u)] = if hit m n g then (if decide (m.a = Str.ofString "open") && decide (n ∈ gl) then .rt (.ot [(false, .tup [.str "client", .str n]), (false, .str "taken")]) [s0, s1, .val (.lst (gl.map .str)), .val (.str n), .val (.int g), .val (.str m.n), .val (.str m.a), .val (.int m.g), .val (.bl m.u)] else .rt (.ot [(false, .tup [.str "edition", .str n, .int m.g]), (false, .str m.a)]) [s0, s1, .val (.lst (gl.map .str)), .val (.str n), .val (.int g), .val (.str m.n), .val (.str m.a), .val (.int m.g), .val (.bl m.u)]) else .nx [s0, s1, .val (.lst (gl.map .str)), .val (.str n), .val (.int g), .val (.str m.n), .val (.str m.a), .val (.int m.g), .val (.bl m.u)] := by
  obtain ⟨mn, ma, mg, mu⟩ := m
  have ig := @fIn_L false n gl
  rw [if_neg (by decide)] at ig
  unfold hit
  dsimp only
  generalize gl.map T.str = gx at *
  cases h1 : decide (mn = n)
  · walk_at "eva"; rfl
  cases h2 : decide (mg = g)
  · cases h3 : decide (g = 0)
    · walk_at "eva"; rfl
    · cases mu
      · walk_at "eva"; rfl
      · cases h4 : decide (ma = Str.ofString "open") <;> cases h5 : decide (n ∈ gl) <;> (walk_at "eva"; rfl)
  · cases h4 : decide (ma = Str.ofString "open") <;> cases h5 : decide (n ∈ gl) <;> (walk_at "eva"; rfl)
theorem due_loop {gl : List Str} {n : Str} {g : Int} {s0 s1 : Sl} : ∀ {ms : List Mb} {s5 s6 s7 s8 : Sl}, ∃ ρ, loopF (pT 4 (pCons (pN 5) (pCons (pN 6) (pCons (pN 7) (pCons (pN 8) pNil))))) (sIf (bAnd (bE (e2 (fEq false) (eVar 5) (eVar 3))) (bOr (bE (e2 (fEq false) (eVar 7) (eVar 4))) (bAnd (bE (e2 (fEq false) (eVar 4) (eC (.int 0)))) (bE (eVar 8)))))
  (sSeq (sIf (bAnd (bE (e2 (fEq false) (eVar 6) (eC (.str "open")))) (bE (e2 (fIn false) (eVar 3) (eVar 2))))
  (sRet (eOT (aC (eTup (aC (eC (.str "client")) (aC (eVar 3) aN))) (aC (eC (.str "taken")) aN))))
  sNext)
  (sRet (eOT (aC (eTup (aC (eC (.str "edition")) (aC (eVar 3) (aC (eVar 7) aN)))) (aC (eVar 6) aN)))))
  sNext) (ms.map mbT) [s0, s1, .val (.lst (gl.map .str)), .val (.str n), .val (.int g), s5, s6, s7, s8] = match fm ms n g with
    | some m => if decide (m.a = Str.ofString "open") && decide (n ∈ gl) then .rt (.ot [(false, .tup [.str "client", .str n]), (false, .str "taken")]) ρ else .rt (.ot [(false, .tup [.str "edition", .str n, .int m.g]), (false, .str m.a)]) ρ
    | none => .nx ρ
  | [], s5, s6, s7, s8 => ⟨_, rfl⟩
  | m :: r, s5, s6, s7, s8 => by
    have e6 : pT 4 (pCons (pN 5) (pCons (pN 6) (pCons (pN 7) (pCons (pN 8) pNil)))) (mbT m) [s0, s1, .val (.lst (gl.map .str)), .val (.str n), .val (.int g), s5, s6, s7, s8] = some [s0, s1, .val (.lst (gl.map .str)), .val (.str n), .val (.int g), .val (.str m.n), .val (.str m.a), .val (.int m.g), .val (.bl m.u)] := rfl
    obtain ⟨ρ, ih⟩ := due_loop (gl := gl) (n := n) (g := g) (s0 := s0) (s1 := s1) (ms := r) (s5 := .val (.str m.n)) (s6 := .val (.str m.a)) (s7 := .val (.int m.g)) (s8 := .val (.bl m.u))
    have mt := due_turn (ws := gl) (gl := gl) (n := n) (g := g) (m := m) (s0 := s0) (s1 := s1)
    unfold fm at ih ⊢
    rw [List.map_cons, loopF, e6]
    dsimp only
    rw [mt, List.find?_cons]
    cases h : hit m n g with
    | true =>
      dsimp only
      cases hc : decide (m.a = Str.ofString "open") && decide (n ∈ gl) with
      | true => exact ⟨_, rfl⟩
      | false => exact ⟨_, rfl⟩
    | false => exact ⟨ρ, ih⟩
theorem fm_none {ms : List Mb} {ws : List Str} {n : Str} {g : Int} (h : ∀ m ∈ ms, m.n ∉ ws) (hn : n ∈ ws) : fm ms n g = none :=
  List.find?_eq_none.mpr fun m hm => by
    have : m.n ≠ n := fun e => h m hm (e ▸ hn)
    simp [hit, this]
def Od (o : Opd) (a b : T) : Prop := o = .val (.tup [a, b]) ∨ o = .ot [(false, a), (false, b)]
theorem Od.shr {o : Opd} {a b : T} (h : Od o a b) : Shr o (.tup [a, b]) := by
  rcases h with rfl | rfl
  · exact ⟨fun _ => rfl, fun _ => rfl, fun _ _ => rfl⟩
  · exact ⟨fun _ => rfl, fun _ => rfl, fun _ _ => rfl⟩
theorem due_ok {ms : List Mb} {ws gl : List Str} {n : Str} {g : Int} (h : ∀ m ∈ ms, m.n ∉ ws) (hl : ms.length ≤ 100) : ∃ o rest, F_due [.val (.lst (ms.map mbT)), .val (.lst (ws.map .str)), .val (.lst (gl.map .str)), .val (.str n), .val (.int g)] = some (o, rest) ∧ Od o (fw ms ws gl n g).1 (fw ms ws gl n g).2 := by
  obtain ⟨ρ, e⟩ := due_loop (gl := gl) (n := n) (g := g) (s0 := .val (.lst (ms.map mbT))) (s1 := .val (.lst (ws.map .str))) (ms := ms) (s5 := .no) (s6 := .no) (s7 := .no) (s8 := .no)
  have hsz : (ms.map mbT).length < 16777216 := by rw [List.length_map]; omega
  have iw := @fIn_L false n ws
  rw [if_neg (by decide)] at iw
  have hn := fun hn => fm_none (n := n) (g := g) h hn
  clear h
  unfold F_due B_due fw
  generalize ((sIf (bAnd (bE (e2 (fEq false) (eVar 5) (eVar 3))) (bOr (bE (e2 (fEq false) (eVar 7) (eVar 4))) (bAnd (bE (e2 (fEq false) (eVar 4) (eC (.int 0)))) (bE (eVar 8)))))
  (sSeq (sIf (bAnd (bE (e2 (fEq false) (eVar 6) (eC (.str "open")))) (bE (e2 (fIn false) (eVar 3) (eVar 2))))
  (sRet (eOT (aC (eTup (aC (eC (.str "client")) (aC (eVar 3) aN))) (aC (eC (.str "taken")) aN))))
  sNext)
  (sRet (eOT (aC (eTup (aC (eC (.str "edition")) (aC (eVar 3) (aC (eVar 7) aN)))) (aC (eVar 6) aN)))))
  sNext) : SF) = bd at e ⊢
  generalize ms.map mbT = pl at *
  generalize ws.map T.str = wl at *
  generalize gl.map T.str = gx at *
  cases h1 : decide (n ∈ ws)
  · clear hn
    cases hf : fm ms n g with
    | none =>
      rw [hf] at e
      dsimp only at e
      walk_at "eva"
      exact ⟨_, _, rfl, .inr rfl⟩
    | some m =>
      rw [hf] at e
      dsimp only at e
      cases h3 : decide (m.a = Str.ofString "open") <;> cases h4 : decide (n ∈ gl) <;> rw [h3, h4] at e <;> simp only [Bool.and_false, Bool.and_true, Bool.and_self, Bool.false_eq_true, if_false, if_true] at e <;> (walk_at "eva"; exact ⟨_, _, rfl, .inr rfl⟩)
  · have hf := hn (of_decide_eq_true h1)
    clear hn
    cases h2 : decide (g = 0)
    · walk_at "eva"
      exact ⟨_, _, rfl, .inl rfl⟩
    · walk_at "eva"
      exact ⟨_, _, rfl, .inl rfl⟩
theorem fw_gs {ms : List Mb} {ws gs gl : List Str} (h : ∀ x, x ∈ gs ↔ x ∈ gl) (n : Str) (g : Int) : fw ms ws gs n g = fw ms ws gl n g := by
  unfold fw
  rw [show decide (n ∈ gs) = decide (n ∈ gl) from by simp [h n]]
def hdT : Bk → T
  | .fst n _ _ => .tup [.str "first", .str n]
  | .mem m _ => .tup [.str "routine", .str m.n, .int m.g]
theorem head_of_ok {b : Bk} : ∃ o rest, F_head_of [.val (bkT b)] = some (o, rest) ∧ Shr o (hdT b) := by
  unfold F_head_of B_head_of
  cases b with
  | fst n af rs =>
    unfold bkT hdT
    generalize rs.map rwT = rl
    generalize af.map T.str = al
    walk_at "eva"
    exact ⟨_, _, rfl, fun _ => rfl, fun _ => rfl, fun _ _ => rfl⟩
  | mem m rs =>
    unfold bkT hdT
    generalize rs.map rwT = rl
    walk_at "eva"
    exact ⟨_, _, rfl, fun _ => rfl, fun _ => rfl, fun _ _ => rfl⟩
structure Te where
  h : T
  i : Nat
  n : Str
  g : Int
def teT (F : Str → Int → T × T) (e : Te) : T := .tup [e.h, .int (e.i : Int), .str e.n, .int e.g, (F e.n e.g).1, (F e.n e.g).2]
def tge (h : T) : Nat → List Rw → List Te
  | _, [] => []
  | i, .tell _ :: r => tge h (i + 1) r
  | i, .call n _ g :: r => ⟨h, i, n, g⟩ :: tge h (i + 1) r
theorem tge_len : ∀ {h : T} {rs : List Rw} {i : Nat}, (tge h i rs).length ≤ rs.length
  | _, [], _ => Nat.le_refl _
  | h, .tell _ :: r, i => by simp only [tge, List.length_cons]; have := tge_len (h := h) (rs := r) (i := i + 1); omega
  | h, .call _ _ _ :: r, i => by simp only [tge, List.length_cons]; have := tge_len (h := h) (rs := r) (i := i + 1); omega
def tga (bs : List Bk) : List Te := bs.flatMap fun b => tge (hdT b) 0 b.rs
theorem fld_rows {b : Bk} : fFld (Str.ofString "rows") [bkT b] = some (.val (.tup (b.rs.map rwT))) := by cases b <;> rfl
/-- what reach and why tell -/
def RW (F : Str → Int → T × T) (sc : T) : Prop := ∀ n g, (∃ o rest, F_Scope_reach [.val sc, .val (.str n), .val (.int g)] = some (o, rest) ∧ Shr o (F n g).1) ∧ ∃ rest, F_Scope_why [.val sc, .val (.str n), .val (.int g)] = some (.val (F n g).2, rest)
theorem tg_turn {ga : T → List T → Option (T × T)} {F : Str → Int → T × T} {fs : List (Str × T)} {b : Bk} {n : Str} {k g : Int} {i : Nat} {acc : List T} {s5 : Sl} (hr : RW F (.obj 5 fs)) (n1 : fs.lookup (Str.ofString "reach") = none) (n2 : fs.lookup (Str.ofString "why") = none) (hg : ∀ y, ga (.lst acc) [y] = some (.lst (acc ++ [y]), .non)) : (sIf (bE (eB (fIsi sub) (aC (eVar 4) (aC (eC (.cls 1)) aN))))
  (sSeq (sAsg 5 (eDynN "reach" M_reach_5 [] (eVar 0) (aC (eFld "name" (eVar 4)) (aC (eFld "tag" (eVar 4)) aN))))
  (sDrop (eMut "list" ga 1 (aC (eTup (aC (eCall F_head_of (aC (eVar 2) aN)) (aC (eVar 3) (aC (eFld "name" (eVar 4)) (aC (eFld "tag" (eVar 4)) (aC (eVar 5) (aC (eDynN "why" M_why_5 [] (eVar 0) (aC (eFld "name" (eVar 4)) (aC (eFld "tag" (eVar 4)) aN))) aN))))))) aN))))
  sNext) [.val (.obj 5 fs), .own (.lst acc), .val (bkT b), .val (.int (i : Int)), .val (rwT (.call n k g)), s5] = .nx [.val (.obj 5 fs), .own (.lst (acc ++ [teT F ⟨hdT b, i, n, g⟩])), .val (bkT b), .val (.int (i : Int)), .val (rwT (.call n k g)), .val (F n g).1] := by
  obtain ⟨⟨o, r1, q1, hs, ht, hp⟩, r2, q2⟩ := hr n g
  obtain ⟨o3, r3, q3, hs3, ht3, hp3⟩ := head_of_ok (b := b)
  have mm : M_reach_5 5 = F_Scope_reach := rfl
  have mw : M_why_5 5 = F_Scope_why := rfl
  clear hr
  have s11 : sub 1 1 = true := rfl
  unfold rwT teT
  dsimp only
  generalize bkT b = bb at *
  walk_at "eva"
theorem tg_skip {ga : T → List T → Option (T × T)} {s0 s1 s2 s3 s5 : Sl} {k : Int} : (sIf (bE (eB (fIsi sub) (aC (eVar 4) (aC (eC (.cls 1)) aN))))
  (sSeq (sAsg 5 (eDynN "reach" M_reach_5 [] (eVar 0) (aC (eFld "name" (eVar 4)) (aC (eFld "tag" (eVar 4)) aN))))
  (sDrop (eMut "list" ga 1 (aC (eTup (aC (eCall F_head_of (aC (eVar 2) aN)) (aC (eVar 3) (aC (eFld "name" (eVar 4)) (aC (eFld "tag" (eVar 4)) (aC (eVar 5) (aC (eDynN "why" M_why_5 [] (eVar 0) (aC (eFld "name" (eVar 4)) (aC (eFld "tag" (eVar 4)) aN))) aN))))))) aN))))
  sNext) [s0, s1, s2, s3, .val (rwT (.tell k)), s5] = .nx [s0, s1, s2, s3, .val (rwT (.tell k)), s5] := by
  unfold rwT
  walk_at "eva"
  rfl
theorem tg_loop {F : Str → Int → T × T} {fs : List (Str × T)} {b : Bk} (hr : RW F (.obj 5 fs)) (n1 : fs.lookup (Str.ofString "reach") = none) (n2 : fs.lookup (Str.ofString "why") = none) : ∀ {rs : List Rw} {i : Nat} {acc : List Te} {s3 s4 s5 : Sl}, acc.length + rs.length ≤ 500 → ∃ s3' s4' s5', loopF (pT 2 (pCons (pN 3) (pCons (pN 4) pNil))) (sIf (bE (eB (fIsi sub) (aC (eVar 4) (aC (eC (.cls 1)) aN))))
  (sSeq (sAsg 5 (eDynN "reach" M_reach_5 [] (eVar 0) (aC (eFld "name" (eVar 4)) (aC (eFld "tag" (eVar 4)) aN))))
  (sDrop (eMut "list" gAppend 1 (aC (eTup (aC (eCall F_head_of (aC (eVar 2) aN)) (aC (eVar 3) (aC (eFld "name" (eVar 4)) (aC (eFld "tag" (eVar 4)) (aC (eVar 5) (aC (eDynN "why" M_why_5 [] (eVar 0) (aC (eFld "name" (eVar 4)) (aC (eFld "tag" (eVar 4)) aN))) aN))))))) aN))))
  sNext) (enF i (rs.map rwT)) [.val (.obj 5 fs), .own (.lst (acc.map (teT F))), .val (bkT b), s3, s4, s5] = .nx [.val (.obj 5 fs), .own (.lst ((acc ++ tge (hdT b) i rs).map (teT F))), .val (bkT b), s3', s4', s5']
  | [], i, acc, s3, s4, s5, _ => ⟨s3, s4, s5, by simp only [List.map_nil, enF, tge, List.append_nil, loopF]⟩
  | r :: rs, i, acc, s3, s4, s5, hl => by
    rw [List.length_cons] at hl
    have e6 : pT 2 (pCons (pN 3) (pCons (pN 4) pNil)) (.tup [.int (i : Int), rwT r]) [.val (.obj 5 fs), .own (.lst (acc.map (teT F))), .val (bkT b), s3, s4, s5] = some [.val (.obj 5 fs), .own (.lst (acc.map (teT F))), .val (bkT b), .val (.int (i : Int)), .val (rwT r), s5] := rfl
    rw [List.map_cons, enF, loopF, e6]
    dsimp only
    cases r with
    | tell k =>
      rw [tg_skip]
      dsimp only
      simp only [tge]
      exact tg_loop hr n1 n2 (rs := rs) (acc := acc) (by omega)
    | call n k g =>
      rw [tg_turn (i := i) hr n1 n2 (fun y => gAp (by rw [List.length_map]; omega))]
      dsimp only
      obtain ⟨s3', s4', s5', e⟩ := tg_loop hr n1 n2 (b := b) (rs := rs) (i := i + 1) (acc := acc ++ [⟨hdT b, i, n, g⟩]) (s3 := .val (.int (i : Int))) (s4 := .val (rwT (.call n k g))) (s5 := .val (F n g).1) (by rw [List.length_append]; simp; omega)
      refine ⟨s3', s4', s5', ?_⟩
      rw [List.map_append] at e
      rw [show (acc ++ tge (hdT b) i (.call n k g :: rs)) = acc ++ [⟨hdT b, i, n, g⟩] ++ tge (hdT b) (i + 1) rs by simp [tge]]
      exact e
abbrev tgB : SF := (sFor (iEnT (eFld "rows" (eVar 2))) (pT 2 (pCons (pN 3) (pCons (pN 4) pNil)))
  (sIf (bE (eB (fIsi sub) (aC (eVar 4) (aC (eC (.cls 1)) aN))))
  (sSeq (sAsg 5 (eDynN "reach" M_reach_5 [] (eVar 0) (aC (eFld "name" (eVar 4)) (aC (eFld "tag" (eVar 4)) aN))))
  (sDrop (eMut "list" gAppend 1 (aC (eTup (aC (eCall F_head_of (aC (eVar 2) aN)) (aC (eVar 3) (aC (eFld "name" (eVar 4)) (aC (eFld "tag" (eVar 4)) (aC (eVar 5) (aC (eDynN "why" M_why_5 [] (eVar 0) (aC (eFld "name" (eVar 4)) (aC (eFld "tag" (eVar 4)) aN))) aN))))))) aN))))
  sNext))
theorem tg_outer {F : Str → Int → T × T} {fs : List (Str × T)} (hr : RW F (.obj 5 fs)) (n1 : fs.lookup (Str.ofString "reach") = none) (n2 : fs.lookup (Str.ofString "why") = none) : ∀ {bs : List Bk} {acc : List Te} {s2 s3 s4 s5 : Sl}, (∀ b ∈ bs, b.rs.length ≤ 3) → acc.length + 3 * bs.length ≤ 400 → ∃ s2' s3' s4' s5', loopF (pN 2) tgB (bs.map bkT) [.val (.obj 5 fs), .own (.lst (acc.map (teT F))), s2, s3, s4, s5] = .nx [.val (.obj 5 fs), .own (.lst ((acc ++ tga bs).map (teT F))), s2', s3', s4', s5']
  | [], acc, s2, s3, s4, s5, _, _ => ⟨s2, s3, s4, s5, by simp [tga, loopF]⟩
  | b :: bs, acc, s2, s3, s4, s5, hb, hl => by
    rw [List.length_cons] at hl
    have hb1 := hb b (by simp)
    obtain ⟨s3', s4', s5', e1⟩ := tg_loop hr n1 n2 (b := b) (rs := b.rs) (i := 0) (acc := acc) (s3 := s3) (s4 := s4) (s5 := s5) (by omega)
    have tl := tge_len (h := hdT b) (rs := b.rs) (i := 0)
    obtain ⟨s2'', s3'', s4'', s5'', e2⟩ := tg_outer hr n1 n2 (bs := bs) (acc := acc ++ tge (hdT b) 0 b.rs) (s2 := .val (bkT b)) (s3 := s3') (s4 := s4') (s5 := s5') (fun x hx => hb x (by simp [hx])) (by rw [List.length_append]; omega)
    refine ⟨s2'', s3'', s4'', s5'', ?_⟩
    have e6 : pN 2 (bkT b) [.val (.obj 5 fs), .own (.lst (acc.map (teT F))), s2, s3, s4, s5] = some [.val (.obj 5 fs), .own (.lst (acc.map (teT F))), .val (bkT b), s3, s4, s5] := rfl
    rw [← enumT_enF] at e1
    have hsz : (b.rs.map rwT).length < 16777216 := by rw [List.length_map]; omega
    have et : tgB [.val (.obj 5 fs), .own (.lst (acc.map (teT F))), .val (bkT b), s3, s4, s5] = .nx [.val (.obj 5 fs), .own (.lst ((acc ++ tge (hdT b) 0 b.rs).map (teT F))), .val (bkT b), s3', s4', s5'] := by
      rw [← e1]
      clear e1 e2 hr hb
      have fr := @fld_rows b
      unfold tgB
      generalize bkT b = bb at *
      generalize b.rs.map rwT = rl at *
      generalize ((sIf (bE (eB (fIsi sub) (aC (eVar 4) (aC (eC (.cls 1)) aN))))
  (sSeq (sAsg 5 (eDynN "reach" M_reach_5 [] (eVar 0) (aC (eFld "name" (eVar 4)) (aC (eFld "tag" (eVar 4)) aN))))
  (sDrop (eMut "list" gAppend 1 (aC (eTup (aC (eCall F_head_of (aC (eVar 2) aN)) (aC (eVar 3) (aC (eFld "name" (eVar 4)) (aC (eFld "tag" (eVar 4)) (aC (eVar 5) (aC (eDynN "why" M_why_5 [] (eVar 0) (aC (eFld "name" (eVar 4)) (aC (eFld "tag" (eVar 4)) aN))) aN))))))) aN))))
  sNext) : SF) = bd
      generalize acc.map (teT F) = al
      walk_at "eva"
    rw [List.map_cons, loopF, e6]
    dsimp only
    rw [et]
    dsimp only
    rw [e2]
    simp [tga, List.append_assoc]
theorem targets_ok {F : Str → Int → T × T} {fs es : List (Str × T)} {bs : List Bk} (hr : RW F (.obj 5 fs)) (n1 : fs.lookup (Str.ofString "reach") = none) (n2 : fs.lookup (Str.ofString "why") = none) (he : fs.lookup (Str.ofString "edition") = some (.obj 4 es)) (hb : es.lookup (Str.ofString "blocks") = some (.tup (bs.map bkT))) (h1 : ∀ b ∈ bs, b.rs.length ≤ 3) (h2 : bs.length ≤ 100) : ∃ rest, F_Scope_targets [.val (.obj 5 fs)] = some (.own (.lst ((tga bs).map (teT F))), rest) := by
  obtain ⟨s2, s3, s4, s5, e⟩ := tg_outer hr n1 n2 (bs := bs) (acc := []) (s2 := .no) (s3 := .no) (s4 := .no) (s5 := .no) h1 (by simp; omega)
  have hsz : (bs.map bkT).length < 16777216 := by rw [List.length_map]; omega
  unfold F_Scope_targets B_Scope_targets
  unfold tgB at e
  clear hr h1
  rw [List.map_nil, List.nil_append] at e
  generalize bs.map bkT = bl at *
  generalize ((sFor (iEnT (eFld "rows" (eVar 2))) (pT 2 (pCons (pN 3) (pCons (pN 4) pNil)))
  (sIf (bE (eB (fIsi sub) (aC (eVar 4) (aC (eC (.cls 1)) aN))))
  (sSeq (sAsg 5 (eDynN "reach" M_reach_5 [] (eVar 0) (aC (eFld "name" (eVar 4)) (aC (eFld "tag" (eVar 4)) aN))))
  (sDrop (eMut "list" gAppend 1 (aC (eTup (aC (eCall F_head_of (aC (eVar 2) aN)) (aC (eVar 3) (aC (eFld "name" (eVar 4)) (aC (eFld "tag" (eVar 4)) (aC (eVar 5) (aC (eDynN "why" M_why_5 [] (eVar 0) (aC (eFld "name" (eVar 4)) (aC (eFld "tag" (eVar 4)) aN))) aN))))))) aN))))
  sNext)) : SF) = bd at e ⊢
  walk_at "eva"
  exact ⟨_, rfl⟩
/-! the law's own targets; entered -/
theorem lt_turn {ga : T → List T → Option (T × T)} {F : Str → Int → T × T} {h M W G s0 s5 : T} {n : Str} {k g : Int} {i : Nat} {acc : List T} {s9 s10 : Sl} (hd : ∃ o rest, F_due [.val M, .val W, .val G, .val (.str n), .val (.int g)] = some (o, rest) ∧ Od o (F n g).1 (F n g).2) (hg : ∀ y, ga (.lst acc) [y] = some (.lst (acc ++ [y]), .non)) : (sIf (bE (eB (fIsi sub) (aC (eVar 8) (aC (eC (.cls 1)) aN))))
  (sSeq (sAsgT [9, 10] (eCall F_due (aC (eVar 1) (aC (eVar 2) (aC (eVar 3) (aC (eFld "name" (eVar 8)) (aC (eFld "tag" (eVar 8)) aN)))))))
  (sDrop (eMut "list" ga 4 (aC (eTup (aC (eVar 6) (aC (eVar 7) (aC (eFld "name" (eVar 8)) (aC (eFld "tag" (eVar 8)) (aC (eVar 9) (aC (eVar 10) aN))))))) aN))))
  sNext) [.val s0, .val M, .val W, .val G, .own (.lst acc), .val s5, .val h, .val (.int (i : Int)), .val (rwT (.call n k g)), s9, s10] = .nx [.val s0, .val M, .val W, .val G, .own (.lst (acc ++ [teT F ⟨h, i, n, g⟩])), .val s5, .val h, .val (.int (i : Int)), .val (rwT (.call n k g)), .val (F n g).1, .val (F n g).2] := by
  obtain ⟨o, r, q, ho⟩ := hd
  have s11 : sub 1 1 = true := rfl
  unfold rwT teT
  dsimp only
  generalize (F n g).1 = a at *
  generalize (F n g).2 = b at *
  rcases ho with rfl | rfl
  · walk_at "eva"
  · walk_at "eva"
theorem lt_skip {ga : T → List T → Option (T × T)} {s0 s1 s2 s3 s4 s5 s6 s7 s9 s10 : Sl} {k : Int} : (sIf (bE (eB (fIsi sub) (aC (eVar 8) (aC (eC (.cls 1)) aN))))
  (sSeq (sAsgT [9, 10] (eCall F_due (aC (eVar 1) (aC (eVar 2) (aC (eVar 3) (aC (eFld "name" (eVar 8)) (aC (eFld "tag" (eVar 8)) aN)))))))
  (sDrop (eMut "list" ga 4 (aC (eTup (aC (eVar 6) (aC (eVar 7) (aC (eFld "name" (eVar 8)) (aC (eFld "tag" (eVar 8)) (aC (eVar 9) (aC (eVar 10) aN))))))) aN))))
  sNext) [s0, s1, s2, s3, s4, s5, s6, s7, .val (rwT (.tell k)), s9, s10] = .nx [s0, s1, s2, s3, s4, s5, s6, s7, .val (rwT (.tell k)), s9, s10] := by
  have s01 : sub 0 1 = false := rfl
  unfold rwT
  walk_at "eva"
theorem lt_loop {F : Str → Int → T × T} {M W G s0 s5 : T} {h : T} (hd : ∀ n g, ∃ o rest, F_due [.val M, .val W, .val G, .val (.str n), .val (.int g)] = some (o, rest) ∧ Od o (F n g).1 (F n g).2) : ∀ {rs : List Rw} {i : Nat} {acc : List Te} {s7 s8 s9 s10 : Sl}, acc.length + rs.length ≤ 500 → ∃ s7' s8' s9' s10', loopF (pT 2 (pCons (pN 7) (pCons (pN 8) pNil))) (sIf (bE (eB (fIsi sub) (aC (eVar 8) (aC (eC (.cls 1)) aN))))
  (sSeq (sAsgT [9, 10] (eCall F_due (aC (eVar 1) (aC (eVar 2) (aC (eVar 3) (aC (eFld "name" (eVar 8)) (aC (eFld "tag" (eVar 8)) aN)))))))
  (sDrop (eMut "list" gAppend 4 (aC (eTup (aC (eVar 6) (aC (eVar 7) (aC (eFld "name" (eVar 8)) (aC (eFld "tag" (eVar 8)) (aC (eVar 9) (aC (eVar 10) aN))))))) aN))))
  sNext) (enF i (rs.map rwT)) [.val s0, .val M, .val W, .val G, .own (.lst (acc.map (teT F))), .val s5, .val h, s7, s8, s9, s10] = .nx [.val s0, .val M, .val W, .val G, .own (.lst ((acc ++ tge h i rs).map (teT F))), .val s5, .val h, s7', s8', s9', s10']
  | [], i, acc, s7, s8, s9, s10, _ => ⟨s7, s8, s9, s10, by simp only [List.map_nil, enF, tge, List.append_nil, loopF]⟩
  | r :: rs, i, acc, s7, s8, s9, s10, hl => by
    rw [List.length_cons] at hl
    have e6 : pT 2 (pCons (pN 7) (pCons (pN 8) pNil)) (.tup [.int (i : Int), rwT r]) [.val s0, .val M, .val W, .val G, .own (.lst (acc.map (teT F))), .val s5, .val h, s7, s8, s9, s10] = some [.val s0, .val M, .val W, .val G, .own (.lst (acc.map (teT F))), .val s5, .val h, .val (.int (i : Int)), .val (rwT r), s9, s10] := rfl
    rw [List.map_cons, enF, loopF, e6]
    dsimp only
    cases r with
    | tell k =>
      rw [lt_skip]
      dsimp only
      simp only [tge]
      exact lt_loop hd (rs := rs) (acc := acc) (by omega)
    | call n k g =>
      rw [lt_turn (i := i) (hd n g) (fun y => gAp (by rw [List.length_map]; omega))]
      dsimp only
      obtain ⟨s7', s8', s9', s10', e⟩ := lt_loop (s0 := s0) (s5 := s5) (h := h) hd (rs := rs) (i := i + 1) (acc := acc ++ [⟨h, i, n, g⟩]) (s7 := .val (.int (i : Int))) (s8 := .val (rwT (.call n k g))) (s9 := .val (F n g).1) (s10 := .val (F n g).2) (by rw [List.length_append]; simp; omega)
      refine ⟨s7', s8', s9', s10', ?_⟩
      rw [List.map_append] at e
      rw [show (acc ++ tge h i (.call n k g :: rs)) = acc ++ [⟨h, i, n, g⟩] ++ tge h (i + 1) rs by simp [tge]]
      exact e
abbrev ltB : SF := (sSeq (sAsg 6 (eTup (aC (eC (.str "first")) (aC (eFld "name" (eVar 5)) aN))))
  (sSeq (sIf (bE (eB (fIsi sub) (aC (eVar 5) (aC (eC (.cls 3)) aN))))
  (sAsg 6 (eTup (aC (eC (.str "routine")) (aC (eFld "name" (eVar 5)) (aC (eFld "tag" (eVar 5)) aN)))))
  sNext)
  (sFor (iEnT (eFld "rows" (eVar 5))) (pT 2 (pCons (pN 7) (pCons (pN 8) pNil)))
  (sIf (bE (eB (fIsi sub) (aC (eVar 8) (aC (eC (.cls 1)) aN))))
  (sSeq (sAsgT [9, 10] (eCall F_due (aC (eVar 1) (aC (eVar 2) (aC (eVar 3) (aC (eFld "name" (eVar 8)) (aC (eFld "tag" (eVar 8)) aN)))))))
  (sDrop (eMut "list" gAppend 4 (aC (eTup (aC (eVar 6) (aC (eVar 7) (aC (eFld "name" (eVar 8)) (aC (eFld "tag" (eVar 8)) (aC (eVar 9) (aC (eVar 10) aN))))))) aN))))
  sNext))))
theorem lt_block {F : Str → Int → T × T} {M W G s0 : T} {b : Bk} {acc : List Te} {s6 s7 s8 s9 s10 : Sl} (hd : ∀ n g, ∃ o rest, F_due [.val M, .val W, .val G, .val (.str n), .val (.int g)] = some (o, rest) ∧ Od o (F n g).1 (F n g).2) (hb : b.rs.length ≤ 3) (hl : acc.length ≤ 400) : ∃ s7' s8' s9' s10', ltB [.val s0, .val M, .val W, .val G, .own (.lst (acc.map (teT F))), .val (bkT b), s6, s7, s8, s9, s10] = .nx [.val s0, .val M, .val W, .val G, .own (.lst ((acc ++ tge (hdT b) 0 b.rs).map (teT F))), .val (bkT b), .val (hdT b), s7', s8', s9', s10'] := by
  obtain ⟨s7', s8', s9', s10', e1⟩ := lt_loop (s0 := s0) (s5 := bkT b) (h := hdT b) hd (rs := b.rs) (i := 0) (acc := acc) (s7 := s7) (s8 := s8) (s9 := s9) (s10 := s10) (by omega)
  refine ⟨s7', s8', s9', s10', ?_⟩
  rw [← enumT_enF] at e1
  rw [← e1]
  have hsz : (b.rs.map rwT).length < 16777216 := by rw [List.length_map]; omega
  have fr := @fld_rows b
  have s33 : sub 3 3 = true := rfl
  have s23 : sub 2 3 = false := rfl
  clear e1 hd hb hl
  unfold ltB
  generalize ((sIf (bE (eB (fIsi sub) (aC (eVar 8) (aC (eC (.cls 1)) aN))))
  (sSeq (sAsgT [9, 10] (eCall F_due (aC (eVar 1) (aC (eVar 2) (aC (eVar 3) (aC (eFld "name" (eVar 8)) (aC (eFld "tag" (eVar 8)) aN)))))))
  (sDrop (eMut "list" gAppend 4 (aC (eTup (aC (eVar 6) (aC (eVar 7) (aC (eFld "name" (eVar 8)) (aC (eFld "tag" (eVar 8)) (aC (eVar 9) (aC (eVar 10) aN))))))) aN))))
  sNext) : SF) = bd
  generalize acc.map (teT F) = al
  cases b with
  | fst n af rs =>
    unfold Bk.rs at hsz
    unfold hdT bkT Bk.rs
    clear fr
    dsimp only at hsz ⊢
    generalize rs.map rwT = rl at *
    generalize af.map T.str = afl at *
    walk_at "eva"
  | mem m rs =>
    unfold Bk.rs at hsz
    unfold hdT bkT Bk.rs
    clear fr
    dsimp only at hsz ⊢
    generalize rs.map rwT = rl at *
    walk_at "eva"
theorem lt_outer {F : Str → Int → T × T} {M W G s0 : T} (hd : ∀ n g, ∃ o rest, F_due [.val M, .val W, .val G, .val (.str n), .val (.int g)] = some (o, rest) ∧ Od o (F n g).1 (F n g).2) : ∀ {bs : List Bk} {acc : List Te} {s5 s6 s7 s8 s9 s10 : Sl}, (∀ b ∈ bs, b.rs.length ≤ 3) → acc.length + 3 * bs.length ≤ 400 → ∃ s5' s6' s7' s8' s9' s10', loopF (pN 5) ltB (bs.map bkT) [.val s0, .val M, .val W, .val G, .own (.lst (acc.map (teT F))), s5, s6, s7, s8, s9, s10] = .nx [.val s0, .val M, .val W, .val G, .own (.lst ((acc ++ tga bs).map (teT F))), s5', s6', s7', s8', s9', s10']
  | [], acc, s5, s6, s7, s8, s9, s10, _, _ => ⟨s5, s6, s7, s8, s9, s10, by simp [tga, loopF]⟩
  | b :: bs, acc, s5, s6, s7, s8, s9, s10, hb, hl => by
    rw [List.length_cons] at hl
    have hb1 := hb b (by simp)
    have tl := tge_len (h := hdT b) (rs := b.rs) (i := 0)
    obtain ⟨s7', s8', s9', s10', et⟩ := lt_block (s0 := s0) (b := b) (acc := acc) (s6 := s6) (s7 := s7) (s8 := s8) (s9 := s9) (s10 := s10) hd hb1 (by omega)
    obtain ⟨s5'', s6'', s7'', s8'', s9'', s10'', e2⟩ := lt_outer (s0 := s0) hd (bs := bs) (acc := acc ++ tge (hdT b) 0 b.rs) (s5 := .val (bkT b)) (s6 := .val (hdT b)) (s7 := s7') (s8 := s8') (s9 := s9') (s10 := s10') (fun x hx => hb x (by simp [hx])) (by rw [List.length_append]; omega)
    refine ⟨s5'', s6'', s7'', s8'', s9'', s10'', ?_⟩
    have e6 : pN 5 (bkT b) [.val s0, .val M, .val W, .val G, .own (.lst (acc.map (teT F))), s5, s6, s7, s8, s9, s10] = some [.val s0, .val M, .val W, .val G, .own (.lst (acc.map (teT F))), .val (bkT b), s6, s7, s8, s9, s10] := rfl
    rw [List.map_cons, loopF, e6]
    dsimp only
    rw [et]
    dsimp only
    rw [e2]
    simp [tga, List.append_assoc]
theorem ltargets_ok {F : Str → Int → T × T} {M W G : T} {es : List (Str × T)} {bs : List Bk} (hd : ∀ n g, ∃ o rest, F_due [.val M, .val W, .val G, .val (.str n), .val (.int g)] = some (o, rest) ∧ Od o (F n g).1 (F n g).2) (hb : es.lookup (Str.ofString "blocks") = some (.tup (bs.map bkT))) (h1 : ∀ b ∈ bs, b.rs.length ≤ 3) (h2 : bs.length ≤ 100) : ∃ rest, F_ltargets [.val (.obj 4 es), .val M, .val W, .val G] = some (.own (.lst ((tga bs).map (teT F))), rest) := by
  obtain ⟨s5, s6, s7, s8, s9, s10, e⟩ := lt_outer (s0 := .obj 4 es) hd (bs := bs) (acc := []) (s5 := .no) (s6 := .no) (s7 := .no) (s8 := .no) (s9 := .no) (s10 := .no) h1 (by simp; omega)
  have hsz : (bs.map bkT).length < 16777216 := by rw [List.length_map]; omega
  unfold F_ltargets B_ltargets
  unfold ltB at e
  clear hd h1
  rw [List.map_nil, List.nil_append] at e
  generalize bs.map bkT = bl at *
  generalize ((sSeq (sAsg 6 (eTup (aC (eC (.str "first")) (aC (eFld "name" (eVar 5)) aN))))
  (sSeq (sIf (bE (eB (fIsi sub) (aC (eVar 5) (aC (eC (.cls 3)) aN))))
  (sAsg 6 (eTup (aC (eC (.str "routine")) (aC (eFld "name" (eVar 5)) (aC (eFld "tag" (eVar 5)) aN)))))
  sNext)
  (sFor (iEnT (eFld "rows" (eVar 5))) (pT 2 (pCons (pN 7) (pCons (pN 8) pNil)))
  (sIf (bE (eB (fIsi sub) (aC (eVar 8) (aC (eC (.cls 1)) aN))))
  (sSeq (sAsgT [9, 10] (eCall F_due (aC (eVar 1) (aC (eVar 2) (aC (eVar 3) (aC (eFld "name" (eVar 8)) (aC (eFld "tag" (eVar 8)) aN)))))))
  (sDrop (eMut "list" gAppend 4 (aC (eTup (aC (eVar 6) (aC (eVar 7) (aC (eFld "name" (eVar 8)) (aC (eFld "tag" (eVar 8)) (aC (eVar 9) (aC (eVar 10) aN))))))) aN))))
  sNext)))) : SF) = bd at e ⊢
  walk_at "eva"
  exact ⟨_, rfl⟩
/-- p tells which entries go to the client -/
def Cl (F : Str → Int → T × T) (p : Te → Bool) (e : Te) : Prop := ∃ l, (F e.n e.g).1 = .tup (.str (if p e then Str.ofString "client" else Str.ofString "edition") :: .str e.n :: l)
theorem fIxT_0 {x : T} {l : List T} : fIxT [.tup (x :: l), .int 0] = some (.val x) := by simp [fIxT, L2.atI, ixN]
theorem fIx_0 {x : T} {l : List T} : fIx [.tup (x :: l), .int 0] = some (.val x) := by simp [fIx, L2.atI, ixN]
theorem fIx_1 {x y : T} {l : List T} : fIx [.tup (x :: y :: l), .int 1] = some (.val y) := by
  simp only [fIx, L2.atI, ixN_nat (n := (x :: y :: l).length) (i := 1) (by decide) (by simp only [List.length_cons]; omega), Option.bind_some]
  rfl
theorem entered_ok {F : Str → Int → T × T} {fs : List (Str × T)} {tes : List Te} {p : Te → Bool} {r : List Sl} (ht : F_Scope_targets [.val (.obj 5 fs)] = some (.own (.lst (tes.map (teT F))), r)) (n1 : fs.lookup (Str.ofString "targets") = none) (hp : ∀ e ∈ tes, Cl F p e) (hl : tes.length < 64) : ∃ rest, F_Scope_entered [.val (.obj 5 fs)] = some (.own (.lst ((sortU ((tes.filter p).map (·.n))).map .str)), rest) := by
  have mm : M_targets_5 5 = F_Scope_targets := rfl
  have c := comp_filL (s := (pT 6 (pCons (pN 1) (pCons (pN 2) (pCons (pN 3) (pCons (pN 4) (pCons (pN 5) (pCons (pN 6) pNil)))))))) (bt := (bE (e2 (fEq false) (e2 fIxT (eVar 5) (eC (.int 0))) (eC (.str "client"))))) (el := eVar 3) (vs := [1, 2, 3, 4, 5, 6]) (g := teT F) (p := p) (f := fun e => .str e.n) (ρ := [.val (.obj 5 fs), .no, .no, .no, .no, .no, .no]) (l := tes) (fun e he => by
    obtain ⟨l, hl⟩ := hp e he
    have e1 := @fIxT_0 (.str (if p e then Str.ofString "client" else Str.ofString "edition")) (.str e.n :: l)
    rw [← hl] at e1
    refine ⟨[.val (.obj 5 fs), .val e.h, .val (.int (e.i : Int)), .val (.str e.n), .val (.int e.g), .val (F e.n e.g).1, .val (F e.n e.g).2], [.val (.obj 5 fs), .val e.h, .val (.int (e.i : Int)), .val (.str e.n), .val (.int e.g), .val (F e.n e.g).1, .val (F e.n e.g).2], rfl, ?_, fun _ => ⟨[.val (.obj 5 fs), .val e.h, .val (.int (e.i : Int)), .val (.str e.n), .val (.int e.g), .val (F e.n e.g).1, .val (F e.n e.g).2], ?_, rfl⟩, fun _ => rfl⟩
    · clear hl he
      generalize (F e.n e.g).1 = a at *
      cases h : p e <;> rw [h] at e1 <;> simp only [Bool.false_eq_true, if_false, if_true] at e1 <;> walk_at "eva"
      all_goals rfl
    · walk_at "eva")
  rw [show (tes.filter p).map (fun e => T.str e.n) = ((tes.filter p).map (·.n)).map T.str by rw [List.map_map]; rfl] at c
  have sl := strL_map ((tes.filter p).map (·.n))
  have h1 : (sortU ((tes.filter p).map (·.n))).length < 64 := by
    have := sortU_len (xs := (tes.filter p).map (·.n))
    have := List.length_filter_le p tes
    rw [List.length_map] at *
    omega
  have h2 : (tes.map (teT F)).length < sizeLine ∧ (tes.map (teT F)).length + 1 < scanBound := ⟨by rw [List.length_map, sizeLine_eq]; omega, by rw [List.length_map]; unfold scanBound; omega⟩
  have hsz : (tes.map (teT F)).length < 16777216 := by rw [List.length_map]; omega
  unfold F_Scope_entered B_Scope_entered
  clear hp hl
  generalize tes.map (teT F) = tl at *
  generalize (tes.filter p).map (·.n) = nl at *
  walk_at "eva"
  exact ⟨_, rfl⟩
/-! texts -/
theorem lit2 : (Str.ofString "first ").length = 6 ∧ (Str.ofString " after ").length = 7 ∧ (Str.ofString "routine ").length = 8 ∧ (Str.ofString " ").length = 1 ∧ (Str.ofString " at ").length = 4 ∧ (Str.ofString " default").length = 8 ∧ (Str.ofString "tell ").length = 5 ∧ (Str.ofString "call ").length = 5 ∧ (Str.ofString "wants ").length = 6 ∧ (Str.ofString "edition ").length = 8 ∧ Str.empty.length = 0 := by decide
theorem fFmt_s {y : Str} (h : y.length ≤ 16777216) : fFmt [.str y] = some (.val (.str y)) := if_pos (by rw [sizeLine_eq]; exact h)
theorem fFmt_i {i : Int} (h : i.natAbs < 10 ^ 18) : fFmt [.int i] = some (.val (.str (toString i))) := if_pos (log_of h)
theorem kn_small {k : Int} (h : Kn k) : k.natAbs < 10 ^ 18 := by have := h.1; have := h.2; omega
theorem vt_ok {k : Int} (h : Kn k) : ∃ rest, F_value_text [.val (.tup [.str "number", .int k])] = some (.val (.str (toString k)), rest) := by
  have e : fStrI [.int k] = some (.val (.str (toString k))) := if_pos (log_of (kn_small h))
  have dn : decide (Str.ofString "number" = Str.ofString "number") = true := by simp
  have f0 := @fIxT_0 (.str "number") [.int k]
  have f1 : fIxT [.tup [.str "number", .int k], .int 1] = some (.val (.int k)) := rfl
  clear h
  unfold F_value_text B_value_text
  walk_at "eva"
  exact ⟨_, rfl⟩
theorem row_text {ms : List Mb} {ws : List Str} {r : Rw} (hm : ∀ m ∈ ms, Mok m) (hw : ∀ w ∈ ws, Nm w) (hr : Ro ms ws r) (hg : ∀ n k g, r = .call n k g → g.natAbs < 10 ^ 18) : ∃ z rest, M_text_0_1 (clsOf (rwT r)) [.val (rwT r)] = some (.val (.str z), rest) ∧ z.length ≤ 300 := by
  obtain ⟨l1, l2, l3, l4, l5, l6, l7, l8, l9, l10, l11⟩ := lit2
  cases r with
  | tell k =>
    obtain ⟨r1, q⟩ := vt_ok (k := k) hr
    have kl := itx_len (kn_small hr)
    show ∃ z rest, F_Tell_text [.val (rwT (.tell k))] = _ ∧ _
    generalize hk : Str.ofString (toString k) = ks at *
    have f1 := fFmt_s (y := ks) (by omega)
    have L1 : (Str.empty ++ Str.ofString "tell ").length ≤ 16777216 := by rw [Str.length_append]; omega
    have L2 : (Str.empty ++ Str.ofString "tell " ++ ks).length ≤ 16777216 := by simp only [Str.length_append]; omega
    have L3 : (Str.empty ++ Str.ofString "tell " ++ ks).length ≤ 300 := by simp only [Str.length_append]; omega
    clear l1 l2 l3 l4 l5 l6 l7 l8 l9 l10 l11 hr hm hw hg kl hk
    unfold F_Tell_text B_Tell_text rwT
    dsimp only
    walk_at "eva"
    exact ⟨_, _, rfl, L3⟩
  | call n k g =>
    have hk0 : Kn k := hr.1
    obtain ⟨r1, q⟩ := vt_ok hk0
    have kl := itx_len (kn_small hk0)
    have hn : Nm n := vc_nm hm hw hr.2
    have hgs := hg n k g rfl
    have f3 := fFmt_i hgs
    have gl := itx_len hgs
    show ∃ z rest, F_Call_text [.val (rwT (.call n k g))] = _ ∧ _
    generalize hk : Str.ofString (toString k) = ks at *
    generalize hgg : Str.ofString (toString g) = gs at *
    have nl := hn.1
    have f1 := fFmt_s (y := ks) (by omega)
    have f2 := fFmt_s (y := n) (by omega)
    have L1 : (Str.empty ++ Str.ofString "call ").length ≤ 16777216 := by rw [Str.length_append]; omega
    have L2 : (Str.empty ++ Str.ofString "call " ++ n).length ≤ 16777216 := by simp only [Str.length_append]; omega
    have L3 : (Str.empty ++ Str.ofString "call " ++ n ++ Str.ofString " ").length ≤ 16777216 := by simp only [Str.length_append]; omega
    have L4 : (Str.empty ++ Str.ofString "call " ++ n ++ Str.ofString " " ++ ks).length ≤ 200 := by simp only [Str.length_append]; omega
    have L4' : (Str.empty ++ Str.ofString "call " ++ n ++ Str.ofString " " ++ ks).length ≤ 16777216 := by omega
    have f4 := fFmt_s L4'
    generalize hz : (Str.empty ++ Str.ofString "call " ++ n ++ Str.ofString " " ++ ks) = z at *
    have M1 : (Str.empty ++ z).length ≤ 16777216 := by simp only [Str.length_append]; omega
    have M2 : (Str.empty ++ z ++ Str.ofString " at ").length ≤ 16777216 := by simp only [Str.length_append]; omega
    have M3 : (Str.empty ++ z ++ Str.ofString " at " ++ gs).length ≤ 300 := by simp only [Str.length_append]; omega
    have M3' : (Str.empty ++ z ++ Str.ofString " at " ++ gs).length ≤ 16777216 := by omega
    have M4 : z.length ≤ 300 := by omega
    clear l1 l2 l3 l4 l5 l6 l7 l8 l9 l10 l11 hr hm hw hg kl hk hk0 hn gl hgg hgs nl
    unfold F_Call_text B_Call_text rwT
    dsimp only
    by_cases h0 : g = 0
    · walk_at "eva"
      exact ⟨_, _, rfl, M4⟩
    · walk_at "eva"
      exact ⟨_, _, rfl, M3⟩
theorem head_text {ms : List Mb} {ws : List Str} {b : Bk} (hm : ∀ m ∈ ms, Mok m) (hb : Bok ms ws b) : ∃ z rest, M_head_2_3 (clsOf (bkT b)) [.val (bkT b)] = some (.val (.str z), rest) ∧ z.length ≤ 900 := by
  obtain ⟨l1, l2, l3, l4, l5, l6, l7, l8, l9, l10, l11⟩ := lit2
  cases b with
  | fst n af rs =>
    obtain ⟨hn, ha, hl, _⟩ := hb
    show ∃ z rest, F_First_head [.val (bkT (.fst n af rs))] = _ ∧ _
    have nl := hn.1
    have f1 := fFmt_s (y := n) (by omega)
    have L1 : (Str.empty ++ Str.ofString "first ").length ≤ 16777216 := by rw [Str.length_append]; omega
    have L2 : (Str.empty ++ Str.ofString "first " ++ n).length ≤ 900 := by simp only [Str.length_append]; omega
    have L2' : (Str.empty ++ Str.ofString "first " ++ n).length ≤ 16777216 := by omega
    have L3 : (Str.empty ++ Str.ofString "first " ++ n ++ Str.ofString " after ").length ≤ 16777216 := by simp only [Str.length_append]; omega
    have hs := Fo.sum_le (k := 100) fun s h => (ha s h).1
    have hj : (Txt.join (Str.ofString " ") af).length ≤ 400 := by
      have ej : Txt.join (Str.ofString " ") af = Str.join (Str.ofString " ") af := StrLaws.glued_eq_join _ _
      rw [ej]
      have h1 := StrLaws.join_length_le (Str.ofString " ") af
      rw [l4] at h1
      omega
    have f2 := fFmt_s (y := Txt.join (Str.ofString " ") af) (by omega)
    have jt := joinT (a := " ") (ss := af) (by rw [l4]; omega)
    have L4 : (Str.empty ++ Str.ofString "first " ++ n ++ Str.ofString " after " ++ Txt.join (Str.ofString " ") af).length ≤ 900 := by simp only [Str.length_append]; omega
    have L4' : (Str.empty ++ Str.ofString "first " ++ n ++ Str.ofString " after " ++ Txt.join (Str.ofString " ") af).length ≤ 16777216 := by omega
    clear l1 l2 l3 l4 l5 l6 l7 l8 l9 l10 l11 hs hj nl hn ha hl
    unfold F_First_head B_First_head bkT
    dsimp only
    generalize rs.map rwT = rl
    cases af with
    | nil =>
      walk_at "eva"
      exact ⟨_, _, rfl, L2⟩
    | cons x r =>
      rw [List.map_cons] at jt
      walk_at "eva"
      exact ⟨_, _, rfl, L4⟩
  | mem m rs =>
    obtain ⟨hmm, _⟩ := hb
    obtain ⟨hn, hd, g0, g1⟩ := hm m hmm
    show ∃ z rest, F_Member_head [.val (bkT (.mem m rs))] = _ ∧ _
    obtain ⟨n, a, g, u⟩ := m
    dsimp only at hn hd g0 g1
    have nl := hn.1
    have al : a.length ≤ 7 := by rcases hd with rfl | rfl | rfl <;> decide
    have hgs : g.natAbs < 10 ^ 18 := by omega
    have f3 := fFmt_i hgs
    have gl := itx_len hgs
    generalize hgg : Str.ofString (toString g) = gs at *
    have f1 := fFmt_s (y := n) (by omega)
    have f2 := fFmt_s (y := a) (by omega)
    have L1 : (Str.empty ++ Str.ofString "routine ").length ≤ 16777216 := by rw [Str.length_append]; omega
    have L2 : (Str.empty ++ Str.ofString "routine " ++ n).length ≤ 16777216 := by simp only [Str.length_append]; omega
    have L3 : (Str.empty ++ Str.ofString "routine " ++ n ++ Str.ofString " ").length ≤ 16777216 := by simp only [Str.length_append]; omega
    have L4 : (Str.empty ++ Str.ofString "routine " ++ n ++ Str.ofString " " ++ a).length ≤ 200 := by simp only [Str.length_append]; omega
    have L4' : (Str.empty ++ Str.ofString "routine " ++ n ++ Str.ofString " " ++ a).length ≤ 16777216 := by omega
    have f4 := fFmt_s L4'
    generalize hz : (Str.empty ++ Str.ofString "routine " ++ n ++ Str.ofString " " ++ a) = z at *
    have M1 : (Str.empty ++ z).length ≤ 16777216 := by simp only [Str.length_append]; omega
    have M2 : (Str.empty ++ z ++ Str.ofString " at ").length ≤ 16777216 := by simp only [Str.length_append]; omega
    have M3 : (Str.empty ++ z ++ Str.ofString " at " ++ gs).length ≤ 300 := by simp only [Str.length_append]; omega
    have M3' : (Str.empty ++ z ++ Str.ofString " at " ++ gs).length ≤ 16777216 := by omega
    have M4 : z.length ≤ 900 := by omega
    have M5 : (Str.empty ++ z ++ Str.ofString " default").length ≤ 900 := by simp only [Str.length_append]; omega
    have M5' : (Str.empty ++ z ++ Str.ofString " default").length ≤ 16777216 := by omega
    have f5 := fFmt_s M3'
    generalize hy : (Str.empty ++ z ++ Str.ofString " at " ++ gs) = y at *
    have N1 : (Str.empty ++ y).length ≤ 16777216 := by simp only [Str.length_append]; omega
    have N2 : (Str.empty ++ y ++ Str.ofString " default").length ≤ 900 := by simp only [Str.length_append]; omega
    have N2' : (Str.empty ++ y ++ Str.ofString " default").length ≤ 16777216 := by omega
    have N3 : y.length ≤ 900 := by omega
    clear l1 l2 l3 l4 l5 l6 l7 l8 l9 l10 l11 hd g0 g1 al gl hgg hgs nl hn hm hmm
    unfold F_Member_head B_Member_head bkT
    dsimp only
    generalize rs.map rwT = rl
    by_cases h0 : g = 0
    · cases u
      · walk_at "eva"
        exact ⟨_, _, rfl, M4⟩
      · walk_at "eva"
        exact ⟨_, _, rfl, M5⟩
    · cases u
      · walk_at "eva"
        exact ⟨_, _, rfl, N3⟩
      · walk_at "eva"
        exact ⟨_, _, rfl, N2⟩
theorem rows_texts {ms : List Mb} {ws : List Str} {rs : List Rw} {s0 s1 s2 s3 s4 s5 s6 : Sl} (hm : ∀ m ∈ ms, Mok m) (hw : ∀ w ∈ ws, Nm w) (hr : ∀ r ∈ rs, Ro ms ws r) (hg : ∀ r ∈ rs, ∀ n k g, r = .call n k g → g.natAbs < 10 ^ 18) : ∃ zs : List Str, compF (pN 7) bYes (eDyn "text" M_text_0_1 (eVar 7)) [7] (rs.map rwT) [s0, s1, s2, s3, s4, s5, s6, .no] = some (zs.map T.str, [s0, s1, s2, s3, s4, s5, s6, .no]) ∧ zs.length = rs.length ∧ ∀ z ∈ zs, z.length ≤ 300 := by
  obtain ⟨us, ρ', e, hp, h⟩ := comp_inv (s := pN 7) (el := eDyn "text" M_text_0_1 (eVar 7)) (vs := [7]) (fun ρ => ρ = [s0, s1, s2, s3, s4, s5, s6, .no]) (fun _ u => ∃ c, u = .str c ∧ c.length ≤ 300) (ts := rs.map rwT) (ρ := [s0, s1, s2, s3, s4, s5, s6, .no]) rfl (fun t ht ρ h => by
    obtain ⟨r, hrm, rfl⟩ := List.mem_map.mp ht
    obtain ⟨z, rest, q, hz⟩ := row_text hm hw (hr r hrm) (hg r hrm)
    subst h
    refine ⟨_, .str z, [s0, s1, s2, s3, s4, s5, s6, .val (rwT r)], rfl, ?_, ⟨z, rfl, hz⟩, rfl⟩
    clear hm hw hr hg ht hrm
    cases r <;> (simp only [rwT, clsOf] at q ⊢; walk_at "eva"))
  subst h
  obtain ⟨zs, rfl, hl, hz⟩ := paired_strs hp
  exact ⟨zs, e, by rw [hl, List.length_map], hz⟩
theorem text_turn {ga gx : T → List T → Option (T × T)} {b : Bk} {h : Str} {r : List Sl} {xs ys zs : List T} {us : List T} {s0 s2 s3 s4 s5 : Sl} (q : M_head_2_3 (clsOf (bkT b)) [.val (bkT b)] = some (.val (.str h), r)) (g1 : ga (.lst xs) [.str h] = some (.lst ys, .non)) (c : compF (pN 7) bYes (eDyn "text" M_text_0_1 (eVar 7)) [7] (b.rs.map rwT) [s0, .own (.lst ys), s2, s3, s4, s5, .val (bkT b), .no] = some (us, [s0, .own (.lst ys), s2, s3, s4, s5, .val (bkT b), .no])) (g2 : gx (.lst ys) [.lst us] = some (.lst zs, .non)) (hsz : (b.rs.map rwT).length < 16777216) {s7 : Sl} : (sSeq (sDrop (eMut "list" ga 1 (aC (eDyn "head" M_head_2_3 (eVar 6)) aN)))
  (sDrop (eMut "list" gx 1 (aC (eLc (iT (eFld "rows" (eVar 6))) (pN 7) bYes (eDyn "text" M_text_0_1 (eVar 7)) [7]) aN)))) [s0, .own (.lst xs), s2, s3, s4, s5, .val (bkT b), s7] = .nx [s0, .own (.lst zs), s2, s3, s4, s5, .val (bkT b), .no] := by
  cases b with
  | fst n af rs =>
    unfold Bk.rs at hsz c
    unfold bkT at *
    dsimp only [clsOf] at *
    generalize rs.map rwT = rl at *
    generalize af.map T.str = afl at *
    walk_at "eva"
  | mem m rs =>
    unfold Bk.rs at hsz c
    unfold bkT at *
    dsimp only [clsOf] at *
    generalize rs.map rwT = rl at *
    walk_at "eva"
theorem gEx {xs ys : List T} (h : xs.length + ys.length ≤ 1000) : gExtend (.lst xs) [.lst ys] = some (.lst (xs ++ ys), .non) := by
  rw [gExtend_v, if_pos (by rw [sizeLine_eq]; omega)]
theorem text_loop {ms : List Mb} {ws : List Str} (hm : ∀ m ∈ ms, Mok m) (hw : ∀ w ∈ ws, Nm w) {s0 s2 s3 s4 s5 : Sl} : ∀ {bs : List Bk} {ss : List Str} {s6 s7 : Sl}, (∀ b ∈ bs, Bok ms ws b) → (∀ s ∈ ss, s.length ≤ 1000) → ss.length + 4 * bs.length ≤ 100 → ∃ (zs : List Str) (s6' s7' : Sl), loopF (pN 6) (sSeq (sDrop (eMut "list" gAppend 1 (aC (eDyn "head" M_head_2_3 (eVar 6)) aN)))
  (sDrop (eMut "list" gExtend 1 (aC (eLc (iT (eFld "rows" (eVar 6))) (pN 7) bYes (eDyn "text" M_text_0_1 (eVar 7)) [7]) aN)))) (bs.map bkT) [s0, .own (.lst (ss.map .str)), s2, s3, s4, s5, s6, s7] = .nx [s0, .own (.lst (zs.map .str)), s2, s3, s4, s5, s6', s7'] ∧ (∀ s ∈ zs, s.length ≤ 1000) ∧ zs.length ≤ 100
  | [], ss, s6, s7, _, h, hl => ⟨ss, s6, s7, rfl, h, by simpa using hl⟩
  | b :: bs, ss, s6, s7, hb, h, hl => by
    rw [List.length_cons] at hl
    have hbb := hb b (by simp)
    obtain ⟨hr, hrl⟩ : (∀ r ∈ b.rs, Ro ms ws r) ∧ b.rs.length ≤ 3 := by
      cases b with
      | fst n af rs => exact ⟨hbb.2.2.2.1, hbb.2.2.2.2⟩
      | mem m rs => exact ⟨hbb.2.1, hbb.2.2⟩
    have hg : ∀ r ∈ b.rs, ∀ n k g, r = .call n k g → g.natAbs < 10 ^ 18 := fun r hrm n k g e => by
      have := hr r hrm
      subst e
      rcases this.2 with h | ⟨m, h1, h2⟩
      · rw [show g = 0 from h.2]; decide
      · have hmo := hm m h1
        unfold hit at h2
        simp only [Bool.and_eq_true, Bool.or_eq_true, decide_eq_true_eq] at h2
        have := hmo.2.2.1
        have := hmo.2.2.2
        rcases h2.2 with e | ⟨e, _⟩ <;> omega
    obtain ⟨z, r1, q, hz⟩ := head_text hm hbb
    obtain ⟨us, c, ul, hu⟩ := rows_texts (s0 := s0) (s1 := .own (.lst ((ss ++ [z]).map .str))) (s2 := s2) (s3 := s3) (s4 := s4) (s5 := s5) (s6 := .val (bkT b)) hm hw hr hg
    have g1 := gAp (xs := ss.map T.str) (y := .str z) (by rw [List.length_map]; omega)
    have g2 := gEx (xs := (ss ++ [z]).map T.str) (ys := us.map T.str) (by simp only [List.length_map, List.length_append, List.length_cons, List.length_nil]; omega)
    rw [show ss.map T.str ++ [.str z] = (ss ++ [z]).map T.str by simp] at g1
    rw [show (ss ++ [z]).map T.str ++ us.map T.str = (ss ++ [z] ++ us).map T.str by simp] at g2
    have tt := text_turn (ga := gAppend) (gx := gExtend) (b := b) (s7 := s7) q g1 c g2 (by rw [List.length_map]; omega)
    obtain ⟨zs, s6', s7', e, h1, h2⟩ := text_loop hm hw (s0 := s0) (s2 := s2) (s3 := s3) (s4 := s4) (s5 := s5) (bs := bs) (ss := ss ++ [z] ++ us) (s6 := .val (bkT b)) (s7 := .no) (fun x hx => hb x (by simp [hx])) (fun s hs => by
      simp only [List.mem_append, List.mem_singleton] at hs
      rcases hs with (hs | rfl) | hs
      · exact h s hs
      · omega
      · have := hu s hs; omega) (by simp only [List.length_append, List.length_cons, List.length_nil]; omega)
    refine ⟨zs, s6', s7', ?_, h1, h2⟩
    have e6 : pN 6 (bkT b) [s0, .own (.lst (ss.map .str)), s2, s3, s4, s5, s6, s7] = some [s0, .own (.lst (ss.map .str)), s2, s3, s4, s5, .val (bkT b), s7] := rfl
    rw [List.map_cons, loopF, e6]
    dsimp only
    rw [tt]
    exact e
theorem wants_turn {ga : T → List T → Option (T × T)} {w : Str} {xs ys : List T} {s0 s3 s4 s5 s6 s7 : Sl} (hw : w.length ≤ 100) (g : ga (.lst xs) [.str (Str.empty ++ Str.ofString "wants " ++ w)] = some (.lst ys, .non)) : (sDrop (eMut "list" ga 1 (aC (eJs [(eC (.str "wants ")), (eFmt (eVar 2))]) aN))) [s0, .own (.lst xs), .val (.str w), s3, s4, s5, s6, s7] = .nx [s0, .own (.lst ys), .val (.str w), s3, s4, s5, s6, s7] := by
  obtain ⟨l1, l2, l3, l4, l5, l6, l7, l8, l9, l10, l11⟩ := lit2
  have f1 := fFmt_s (y := w) (by omega)
  have L1 : (Str.empty ++ Str.ofString "wants ").length ≤ 16777216 := by rw [Str.length_append]; omega
  have L2 : (Str.empty ++ Str.ofString "wants " ++ w).length ≤ 16777216 := by simp only [Str.length_append]; omega
  clear l1 l2 l3 l4 l5 l6 l7 l8 l9 l10 l11 hw
  walk_at "eva"
theorem wants_loop {s0 s3 s4 s5 s6 s7 : Sl} : ∀ {ws ss : List Str} {s2 : Sl}, (∀ w ∈ ws, Nm w) → (∀ s ∈ ss, s.length ≤ 1000) → ss.length + ws.length ≤ 20 → ∃ (zs : List Str) (s2' : Sl), loopF (pN 2) (sDrop (eMut "list" gAppend 1 (aC (eJs [(eC (.str "wants ")), (eFmt (eVar 2))]) aN))) (ws.map T.str) [s0, .own (.lst (ss.map .str)), s2, s3, s4, s5, s6, s7] = .nx [s0, .own (.lst (zs.map .str)), s2', s3, s4, s5, s6, s7] ∧ (∀ s ∈ zs, s.length ≤ 1000) ∧ zs.length ≤ 20
  | [], ss, s2, _, h, hl => ⟨ss, s2, rfl, h, by simpa using hl⟩
  | w :: ws, ss, s2, hw, h, hl => by
    rw [List.length_cons] at hl
    have hw1 := (hw w (by simp)).1
    have g1 := gAp (xs := ss.map T.str) (y := .str (Str.empty ++ Str.ofString "wants " ++ w)) (by rw [List.length_map]; omega)
    rw [show ss.map T.str ++ [.str (Str.empty ++ Str.ofString "wants " ++ w)] = (ss ++ [Str.empty ++ Str.ofString "wants " ++ w]).map T.str by simp] at g1
    have tt := wants_turn (ga := gAppend) (s0 := s0) (s3 := s3) (s4 := s4) (s5 := s5) (s6 := s6) (s7 := s7) hw1 g1
    obtain ⟨zs, s2', e, h1, h2⟩ := wants_loop (s0 := s0) (s3 := s3) (s4 := s4) (s5 := s5) (s6 := s6) (s7 := s7) (ws := ws) (ss := ss ++ [Str.empty ++ Str.ofString "wants " ++ w]) (s2 := .val (.str w)) (fun x hx => hw x (by simp [hx])) (fun s hs => by
      rcases List.mem_append.mp hs with hs | hs
      · exact h s hs
      · rw [List.mem_singleton.mp hs]
        obtain ⟨l1, l2, l3, l4, l5, l6, l7, l8, l9, l10, l11⟩ := lit2
        simp only [Str.length_append]; omega) (by simp only [List.length_append, List.length_cons, List.length_nil]; omega)
    refine ⟨zs, s2', ?_, h1, h2⟩
    have e6 : pN 2 (.str w) [s0, .own (.lst (ss.map .str)), s2, s3, s4, s5, s6, s7] = some [s0, .own (.lst (ss.map .str)), .val (.str w), s3, s4, s5, s6, s7] := rfl
    rw [List.map_cons, loopF, e6]
    dsimp only
    rw [tt]
    exact e
theorem ed_text {nm : Str} {ms : List Mb} {ws : List Str} {bs : List Bk} (hm : ∀ m ∈ ms, Mok m) (hw : ∀ w ∈ ws, Nm w) (hwl : ws.length ≤ 3) (hb : ∀ b ∈ bs, Bok ms ws b) (hbl : bs.length ≤ 8) (hn : Nm nm) : ∃ z rest, F_Edition_text [.val (edT nm ws bs)] = some (.val (.str z), rest) := by
  have l10 := lit2.2.2.2.2.2.2.2.2.2.1
  have l11 := lit2.2.2.2.2.2.2.2.2.2.2
  have nl := hn.1
  have f1 := fFmt_s (y := nm) (by omega)
  have L1 : (Str.empty ++ Str.ofString "edition ").length ≤ 16777216 := by rw [Str.length_append]; omega
  have L2 : (Str.empty ++ Str.ofString "edition " ++ nm).length ≤ 16777216 := by simp only [Str.length_append]; omega
  obtain ⟨ss, s2', e1, h1, h2⟩ := wants_loop (s0 := .val (edT nm ws bs)) (s3 := .no) (s4 := .no) (s5 := .no) (s6 := .no) (s7 := .no) (ws := ws) (ss := [Str.empty ++ Str.ofString "edition " ++ nm]) (s2 := .no) hw (fun s hs => by rw [List.mem_singleton.mp hs]; simp only [Str.length_append]; omega) (by simp only [List.length_cons, List.length_nil]; omega)
  obtain ⟨zs, s6', s7', e2, h3, h4⟩ := text_loop (s0 := .val (edT nm ws bs)) (s2 := s2') (s3 := .no) (s4 := .no) (s5 := .no) (bs := bs) (ss := ss) (s6 := .no) (s7 := .no) hm hw hb h1 (by omega)
  have hs := Fo.sum_le h3
  have hj := joinS (a := "\n") (ss := zs) (by rw [show (Str.ofString "\n").length = 1 from by decide]; omega)
  have hsz : (ws.map T.str).length < 16777216 := by rw [List.length_map]; omega
  have hsz2 : (bs.map bkT).length < 16777216 := by rw [List.length_map]; omega
  unfold F_Edition_text B_Edition_text
  clear h1 h3 hm hw hb hs nl hn l10 l11
  rw [List.map_cons, List.map_nil] at e1
  generalize ((sSeq (sDrop (eMut "list" gAppend 1 (aC (eDyn "head" M_head_2_3 (eVar 6)) aN)))
  (sDrop (eMut "list" gExtend 1 (aC (eLc (iT (eFld "rows" (eVar 6))) (pN 7) bYes (eDyn "text" M_text_0_1 (eVar 7)) [7]) aN)))) : SF) = bd1 at e2 ⊢
  generalize ((sDrop (eMut "list" gAppend 1 (aC (eJs [(eC (.str "wants ")), (eFmt (eVar 2))]) aN))) : SF) = bd2 at e1 ⊢
  unfold edT edF at *
  generalize bs.map bkT = bl at *
  generalize ws.map T.str = wl at *
  generalize zs.map T.str = zl at *
  generalize (bs.filter isF).map bkT = fl at *
  generalize (bs.filter isM).map bkT = ml at *
  walk_at "eva"
  exact ⟨_, _, rfl⟩
/-! holds -/
theorem rs_nm {n : Str} (h : Nm n) : Rs 0 1002 (.str n) := rs_str (n := 100) h.2 h.1
theorem rs_lit {a : Str} (h : a = Str.ofString "client" ∨ a = Str.ofString "edition" ∨ a = Str.ofString "first" ∨ a = Str.ofString "routine" ∨ a = Str.ofString "wanted" ∨ a = Str.ofString "taken" ∨ a = Str.ofString "open" ∨ a = Str.ofString "guarded" ∨ a = Str.ofString "hidden") : Rs 0 1002 (.str a) := by
  have key : PyData.strOk a = true ∧ a.length ≤ 100 := by
    rcases h with rfl | rfl | rfl | rfl | rfl | rfl | rfl | rfl | rfl <;> exact ⟨by decide +kernel, by decide⟩
  exact rs_str (n := 100) key.1 key.2
theorem rs_dr {a : Str} (h : Dr a) : Rs 0 1002 (.str a) := rs_lit (by rcases h with rfl | rfl | rfl <;> simp)
theorem rs_i {g : Int} (h : g.natAbs < 10 ^ 18) : Rs 0 1002 (.int g) := (rs_int h).mono (by omega) (by omega)
theorem fw_rs {ms : List Mb} {ws gs : List Str} {n : Str} {g : Int} (hm : ∀ m ∈ ms, Mok m) (hn : Nm n) : Rs 1 3015 (fw ms ws gs n g).1 ∧ Rs 0 1002 (fw ms ws gs n g).2 := by
  have c : Rs 1 3015 (.tup [.str "client", .str n]) := (rs_tup (s := 1002) (k := 3) (fun t ht => by
    simp only [List.mem_cons, List.not_mem_nil, or_false] at ht
    rcases ht with rfl | rfl
    · exact rs_lit (by simp)
    · exact rs_nm hn) (by simp))
  unfold fw
  split
  · exact ⟨c, rs_lit (by simp)⟩
  · split
    · exact ⟨rs_non.mono (by omega) (by omega), rs_non.mono (by omega) (by omega)⟩
    · rename_i m hf
      have hmm : m ∈ ms := List.mem_of_find?_eq_some hf
      have hmo := hm m hmm
      split
      · exact ⟨c, rs_lit (by simp)⟩
      · refine ⟨rs_tup (s := 1002) (k := 3) (fun t ht => ?_) (by simp), rs_dr hmo.2.1⟩
        simp only [List.mem_cons, List.not_mem_nil, or_false] at ht
        rcases ht with rfl | rfl | rfl
        · exact rs_lit (by simp)
        · exact rs_nm hn
        · exact rs_i (by have := hmo.2.2.1; have := hmo.2.2.2; omega)
theorem fl_rs {ms : List Mb} {n : Str} {g : Int} (hm : ∀ m ∈ ms, Mok m) : Rs 0 1002 (fl ms n g) := by
  unfold fl
  split
  · exact rs_non.mono (by omega) (by omega)
  · rename_i m hf
    have hmo := hm m (List.mem_of_find?_eq_some hf)
    split
    · exact rs_non.mono (by omega) (by omega)
    · exact rs_i (by have := hmo.2.2.1; have := hmo.2.2.2; omega)
theorem pair_repr {ms : List Mb} {ws gs : List Str} {n : Str} {g : Int} (hm : ∀ m ∈ ms, Mok m) (hn : Nm n) : ∃ z, fReprV [.tup [(fw ms ws gs n g).1, (fw ms ws gs n g).2]] = some (.val (.str z)) :=
  rs_repr (d := 2) (s := 2 * 3017 + 3) (rs_tup (k := 2) (fun t ht => by
    simp only [List.mem_cons, List.not_mem_nil, or_false] at ht
    rcases ht with rfl | rfl
    · exact (fw_rs hm hn).1
    · exact (fw_rs hm hn).2.mono (by omega) (by omega)) (by simp)) (by omega) (by omega)
/-- what holds needs of the scope, the edition and the lists -/
structure Hl (F : Str → Int → T × T) (L : Str → Int → T) (fs es : List (Str × T)) (M W G : T) : Prop where
  rw : RW F (.obj 5 fs)
  n1 : fs.lookup (Str.ofString "reach") = none
  n2 : fs.lookup (Str.ofString "why") = none
  du : ∀ n g, ∃ o rest, F_due [.val M, .val W, .val G, .val (.str n), .val (.int g)] = some (o, rest) ∧ Od o (F n g).1 (F n g).2
  la : ∀ n g, ∃ rest, F_landed [.val (.obj 4 es), .val (.str n), .val (.int g)] = some (.val (L n g), rest)
  ll : ∀ n g, ∃ rest, F_llanded [.val M, .val (.str n), .val (.int g)] = some (.val (L n g), rest)
  rp : ∀ n g, Nm n → ∃ z, fReprV [.tup [(F n g).1, (F n g).2]] = some (.val (.str z))
  rl : ∀ n g, Nm n → ∃ z, fReprV [L n g] = some (.val (.str z))
theorem hold_tag {F : Str → Int → T × T} {L : Str → Int → T} {fs es : List (Str × T)} {M W G : T} (h : Hl F L fs es M W G) {n : Str} {g : Int} (hn : Nm n) {s2 s8 s9 s10 s11 s12 : Sl} : (sSeq (sIf (bE (e2 (fEq true) (eB fReprV (aC (eTup (aC (eDynN "reach" M_reach_5 [] (eVar 0) (aC (eVar 6) (aC (eVar 7) aN))) (aC (eDynN "why" M_why_5 [] (eVar 0) (aC (eVar 6) (aC (eVar 7) aN))) aN))) aN)) (eB fReprV (aC (eCall F_due (aC (eVar 3) (aC (eVar 4) (aC (eVar 5) (aC (eVar 6) (aC (eVar 7) aN)))))) aN))))
  (sRet (eC (.bl false)))
  sNext)
  (sIf (bE (e2 (fEq true) (eB fReprV (aC (eCall F_landed (aC (eVar 1) (aC (eVar 6) (aC (eVar 7) aN)))) aN)) (eB fReprV (aC (eCall F_llanded (aC (eVar 3) (aC (eVar 6) (aC (eVar 7) aN)))) aN))))
  (sRet (eC (.bl false)))
  sNext)) [.val (.obj 5 fs), .val (.obj 4 es), s2, .val M, .val W, .val G, .val (.str n), .val (.int g), s8, s9, s10, s11, s12] = .nx [.val (.obj 5 fs), .val (.obj 4 es), s2, .val M, .val W, .val G, .val (.str n), .val (.int g), s8, s9, s10, s11, s12] := by
  obtain ⟨⟨o, r1, q1, hs, ht, hp⟩, r2, q2⟩ := h.rw n g
  obtain ⟨o2, r3, q3, ho⟩ := h.du n g
  obtain ⟨hs2, ht2, hp2⟩ := ho.shr
  obtain ⟨r4, q4⟩ := h.la n g
  obtain ⟨r5, q5⟩ := h.ll n g
  obtain ⟨z, q6⟩ := h.rp n g hn
  obtain ⟨z2, q7⟩ := h.rl n g hn
  have n1 := h.n1
  have n2 := h.n2
  have mm : M_reach_5 5 = F_Scope_reach := rfl
  have mw : M_why_5 5 = F_Scope_why := rfl
  have dz : decide (z = z) = true := by simp
  have dz2 : decide (z2 = z2) = true := by simp
  clear h hn ho
  generalize (F n g).1 = a at *
  generalize (F n g).2 = b at *
  generalize L n g = l at *
  walk_at "eva"
theorem hold_name {F : Str → Int → T × T} {L : Str → Int → T} {fs es : List (Str × T)} {M W G : T} (h : Hl F L fs es M W G) {n : Str} (hn : Nm n) {s2 s7 s8 s9 s10 s11 s12 : Sl} : ∃ s7', (sSeq (sFor (iR1 (aC (eC (.int 10)) aN)) (pN 7)
  (sSeq (sIf (bE (e2 (fEq true) (eB fReprV (aC (eTup (aC (eDynN "reach" M_reach_5 [] (eVar 0) (aC (eVar 6) (aC (eVar 7) aN))) (aC (eDynN "why" M_why_5 [] (eVar 0) (aC (eVar 6) (aC (eVar 7) aN))) aN))) aN)) (eB fReprV (aC (eCall F_due (aC (eVar 3) (aC (eVar 4) (aC (eVar 5) (aC (eVar 6) (aC (eVar 7) aN)))))) aN))))
  (sRet (eC (.bl false)))
  sNext)
  (sIf (bE (e2 (fEq true) (eB fReprV (aC (eCall F_landed (aC (eVar 1) (aC (eVar 6) (aC (eVar 7) aN)))) aN)) (eB fReprV (aC (eCall F_llanded (aC (eVar 3) (aC (eVar 6) (aC (eVar 7) aN)))) aN))))
  (sRet (eC (.bl false)))
  sNext)))
  (sIf (bE (e2 (fEq true) (eB fReprV (aC (eTup (aC (eDynN "reach" M_reach_5 [(.int 0)] (eVar 0) (aC (eVar 6) aN)) (aC (eDynN "why" M_why_5 [(.int 0)] (eVar 0) (aC (eVar 6) aN)) aN))) aN)) (eB fReprV (aC (eCall F_due (aC (eVar 3) (aC (eVar 4) (aC (eVar 5) (aC (eVar 6) (aC (eC (.int 0)) aN)))))) aN))))
  (sRet (eC (.bl false)))
  sNext)) [.val (.obj 5 fs), .val (.obj 4 es), s2, .val M, .val W, .val G, .val (.str n), s7, s8, s9, s10, s11, s12] = .nx [.val (.obj 5 fs), .val (.obj 4 es), s2, .val M, .val W, .val G, .val (.str n), s7', s8, s9, s10, s11, s12] := by
  obtain ⟨ρ', e, s7', rfl⟩ := loop_inv (s := pN 7) (b := (sSeq (sIf (bE (e2 (fEq true) (eB fReprV (aC (eTup (aC (eDynN "reach" M_reach_5 [] (eVar 0) (aC (eVar 6) (aC (eVar 7) aN))) (aC (eDynN "why" M_why_5 [] (eVar 0) (aC (eVar 6) (aC (eVar 7) aN))) aN))) aN)) (eB fReprV (aC (eCall F_due (aC (eVar 3) (aC (eVar 4) (aC (eVar 5) (aC (eVar 6) (aC (eVar 7) aN)))))) aN))))
  (sRet (eC (.bl false)))
  sNext)
  (sIf (bE (e2 (fEq true) (eB fReprV (aC (eCall F_landed (aC (eVar 1) (aC (eVar 6) (aC (eVar 7) aN)))) aN)) (eB fReprV (aC (eCall F_llanded (aC (eVar 3) (aC (eVar 6) (aC (eVar 7) aN)))) aN))))
  (sRet (eC (.bl false)))
  sNext))) (fun ρ => ∃ s7 : Sl, ρ = [.val (.obj 5 fs), .val (.obj 4 es), s2, .val M, .val W, .val G, .val (.str n), s7, s8, s9, s10, s11, s12]) (ts := rngT 0 10) (ρ := [.val (.obj 5 fs), .val (.obj 4 es), s2, .val M, .val W, .val G, .val (.str n), s7, s8, s9, s10, s11, s12]) ⟨_, rfl⟩ (fun t ht ρ ⟨s7, e⟩ => by
    obtain ⟨i, _, rfl⟩ := rng_mem ht
    subst e
    exact ⟨_, _, rfl, hold_tag h hn (g := (i : Int)), _, rfl⟩)
  obtain ⟨⟨o, r1, q1, hs, ht, hp⟩, r2, q2⟩ := h.rw n 0
  obtain ⟨o2, r3, q3, ho⟩ := h.du n 0
  obtain ⟨hs2, ht2, hp2⟩ := ho.shr
  obtain ⟨z, q6⟩ := h.rp n 0 hn
  have n1 := h.n1
  have n2 := h.n2
  have mm : M_reach_5 5 = F_Scope_reach := rfl
  have mw : M_why_5 5 = F_Scope_why := rfl
  have dz : decide (z = z) = true := by simp
  have k10 : (10 : Int).toNat = 10 := rfl
  have hsz : (rngT 0 10).length < 16777216 := by rw [rngT_len]; decide
  refine ⟨s7', ?_⟩
  clear h hn ho
  generalize (F n 0).1 = a at *
  generalize (F n 0).2 = b at *
  generalize ((sSeq (sIf (bE (e2 (fEq true) (eB fReprV (aC (eTup (aC (eDynN "reach" M_reach_5 [] (eVar 0) (aC (eVar 6) (aC (eVar 7) aN))) (aC (eDynN "why" M_why_5 [] (eVar 0) (aC (eVar 6) (aC (eVar 7) aN))) aN))) aN)) (eB fReprV (aC (eCall F_due (aC (eVar 3) (aC (eVar 4) (aC (eVar 5) (aC (eVar 6) (aC (eVar 7) aN)))))) aN))))
  (sRet (eC (.bl false)))
  sNext)
  (sIf (bE (e2 (fEq true) (eB fReprV (aC (eCall F_landed (aC (eVar 1) (aC (eVar 6) (aC (eVar 7) aN)))) aN)) (eB fReprV (aC (eCall F_llanded (aC (eVar 3) (aC (eVar 6) (aC (eVar 7) aN)))) aN))))
  (sRet (eC (.bl false)))
  sNext)) : SF) = bd at *
  walk_at "eva"
theorem hold_loop {F : Str → Int → T × T} {L : Str → Int → T} {fs es : List (Str × T)} {M W G : T} (h : Hl F L fs es M W G) {ns : List Str} (hn : ∀ n ∈ ns, Nm n) {s2 s6 s7 s8 s9 s10 s11 s12 : Sl} : ∃ s6' s7', loopF (pN 6) (sSeq (sFor (iR1 (aC (eC (.int 10)) aN)) (pN 7)
  (sSeq (sIf (bE (e2 (fEq true) (eB fReprV (aC (eTup (aC (eDynN "reach" M_reach_5 [] (eVar 0) (aC (eVar 6) (aC (eVar 7) aN))) (aC (eDynN "why" M_why_5 [] (eVar 0) (aC (eVar 6) (aC (eVar 7) aN))) aN))) aN)) (eB fReprV (aC (eCall F_due (aC (eVar 3) (aC (eVar 4) (aC (eVar 5) (aC (eVar 6) (aC (eVar 7) aN)))))) aN))))
  (sRet (eC (.bl false)))
  sNext)
  (sIf (bE (e2 (fEq true) (eB fReprV (aC (eCall F_landed (aC (eVar 1) (aC (eVar 6) (aC (eVar 7) aN)))) aN)) (eB fReprV (aC (eCall F_llanded (aC (eVar 3) (aC (eVar 6) (aC (eVar 7) aN)))) aN))))
  (sRet (eC (.bl false)))
  sNext)))
  (sIf (bE (e2 (fEq true) (eB fReprV (aC (eTup (aC (eDynN "reach" M_reach_5 [(.int 0)] (eVar 0) (aC (eVar 6) aN)) (aC (eDynN "why" M_why_5 [(.int 0)] (eVar 0) (aC (eVar 6) aN)) aN))) aN)) (eB fReprV (aC (eCall F_due (aC (eVar 3) (aC (eVar 4) (aC (eVar 5) (aC (eVar 6) (aC (eC (.int 0)) aN)))))) aN))))
  (sRet (eC (.bl false)))
  sNext)) (ns.map T.str) [.val (.obj 5 fs), .val (.obj 4 es), s2, .val M, .val W, .val G, s6, s7, s8, s9, s10, s11, s12] = .nx [.val (.obj 5 fs), .val (.obj 4 es), s2, .val M, .val W, .val G, s6', s7', s8, s9, s10, s11, s12] := by
  obtain ⟨ρ', e, s6', s7', rfl⟩ := loop_inv (s := pN 6) (b := (sSeq (sFor (iR1 (aC (eC (.int 10)) aN)) (pN 7)
  (sSeq (sIf (bE (e2 (fEq true) (eB fReprV (aC (eTup (aC (eDynN "reach" M_reach_5 [] (eVar 0) (aC (eVar 6) (aC (eVar 7) aN))) (aC (eDynN "why" M_why_5 [] (eVar 0) (aC (eVar 6) (aC (eVar 7) aN))) aN))) aN)) (eB fReprV (aC (eCall F_due (aC (eVar 3) (aC (eVar 4) (aC (eVar 5) (aC (eVar 6) (aC (eVar 7) aN)))))) aN))))
  (sRet (eC (.bl false)))
  sNext)
  (sIf (bE (e2 (fEq true) (eB fReprV (aC (eCall F_landed (aC (eVar 1) (aC (eVar 6) (aC (eVar 7) aN)))) aN)) (eB fReprV (aC (eCall F_llanded (aC (eVar 3) (aC (eVar 6) (aC (eVar 7) aN)))) aN))))
  (sRet (eC (.bl false)))
  sNext)))
  (sIf (bE (e2 (fEq true) (eB fReprV (aC (eTup (aC (eDynN "reach" M_reach_5 [(.int 0)] (eVar 0) (aC (eVar 6) aN)) (aC (eDynN "why" M_why_5 [(.int 0)] (eVar 0) (aC (eVar 6) aN)) aN))) aN)) (eB fReprV (aC (eCall F_due (aC (eVar 3) (aC (eVar 4) (aC (eVar 5) (aC (eVar 6) (aC (eC (.int 0)) aN)))))) aN))))
  (sRet (eC (.bl false)))
  sNext))) (fun ρ => ∃ s6 s7 : Sl, ρ = [.val (.obj 5 fs), .val (.obj 4 es), s2, .val M, .val W, .val G, s6, s7, s8, s9, s10, s11, s12]) (ts := ns.map T.str) (ρ := [.val (.obj 5 fs), .val (.obj 4 es), s2, .val M, .val W, .val G, s6, s7, s8, s9, s10, s11, s12]) ⟨_, _, rfl⟩ (fun t ht ρ ⟨s6, s7, e⟩ => by
    obtain ⟨n, hnn, rfl⟩ := List.mem_map.mp ht
    subst e
    obtain ⟨s7', e⟩ := hold_name h (hn n hnn) (s2 := s2) (s7 := s7) (s8 := s8) (s9 := s9) (s10 := s10) (s11 := s11) (s12 := s12)
    exact ⟨_, _, rfl, e, _, _, rfl⟩)
  exact ⟨s6', s7', e⟩
theorem eqD_s {a b : Str} (ha : PyData.strOk a = true) (hb : PyData.strOk b = true) : fEqD false [.str a, .str b] = some (.val (.bl (decide (a = b)))) := by
  have s1 : ∀ x : Str, PyData.strOk x = true → SeqAt.shaped (.str x) = true := fun x hx => by
    simp [SeqAt.shaped, PyData.canLay0, PyData.depth, hx]
  have s2 : PyData.eqv (.str a) (.str b) = decide (a = b) := by
    have := eqv_plain (.str a) (.str b) rfl rfl
    rw [Bool.eq_iff_iff, this]
    simp
  simp only [fEqD, T.dat, Option.bind_some, s1 a ha, s1 b hb, s2, and_self, if_true, Bool.false_eq_true, if_false]
theorem eqD_c : fEqD false [.str "client", .str "client"] = some (.val (.bl true)) := by
  rw [eqD_s (by decide +kernel) (by decide +kernel)]
  simp
theorem eqD_e : fEqD false [.str "edition", .str "client"] = some (.val (.bl false)) := by
  rw [eqD_s (by decide +kernel) (by decide +kernel), show decide (Str.ofString "edition" = Str.ofString "client") = false by decide]
theorem back_comp2 {F : Str → Int → T × T} {tes : List Te} {p : Te → Bool} (hp : ∀ e ∈ tes, Cl F p e) {s0 s1 s2 s3 s4 s5 s6 s7 s8 s9 s10 s11 : Sl} : compF (pN 12) (bE (e2 (fEqD false) (e2 fIx (e2 fIx (eVar 12) (eC (.int 4))) (eC (.int 0))) (eC (.str "client")))) (e2 fIx (e2 fIx (eVar 12) (eC (.int 4))) (eC (.int 1))) [12] (tes.map (teT F)) [s0, s1, s2, s3, s4, s5, s6, s7, s8, s9, s10, s11, .no] = some (((tes.filter p).map (·.n)).map T.str, [s0, s1, s2, s3, s4, s5, s6, s7, s8, s9, s10, s11, .no]) := by
  have c := comp_filL (s := pN 12) (bt := (bE (e2 (fEqD false) (e2 fIx (e2 fIx (eVar 12) (eC (.int 4))) (eC (.int 0))) (eC (.str "client"))))) (el := (e2 fIx (e2 fIx (eVar 12) (eC (.int 4))) (eC (.int 1)))) (vs := [12]) (g := teT F) (p := p) (f := fun e => .str e.n) (ρ := [s0, s1, s2, s3, s4, s5, s6, s7, s8, s9, s10, s11, .no]) (l := tes) (fun e he => by
    obtain ⟨l, hl⟩ := hp e he
    have e1 := @fIx_0 (.str (if p e then Str.ofString "client" else Str.ofString "edition")) (.str e.n :: l)
    have e2 := @fIx_1 (.str (if p e then Str.ofString "client" else Str.ofString "edition")) (.str e.n) l
    have e4 : fIx [teT F e, .int 4] = some (.val (F e.n e.g).1) := rfl
    have ec := eqD_c
    have ed := eqD_e
    rw [← hl] at e1 e2
    refine ⟨[s0, s1, s2, s3, s4, s5, s6, s7, s8, s9, s10, s11, .val (teT F e)], [s0, s1, s2, s3, s4, s5, s6, s7, s8, s9, s10, s11, .val (teT F e)], rfl, ?_, fun _ => ⟨[s0, s1, s2, s3, s4, s5, s6, s7, s8, s9, s10, s11, .val (teT F e)], ?_, rfl⟩, fun _ => rfl⟩
    · clear hl he
      generalize teT F e = te at *
      generalize (F e.n e.g).1 = a at *
      cases h : p e <;> rw [h] at e1 <;> simp only [Bool.false_eq_true, if_false, if_true] at e1 <;> walk_at "eva"
    · clear hl he
      generalize teT F e = te at *
      generalize (F e.n e.g).1 = a at *
      walk_at "eva")
  rw [c, List.map_map]
  rfl
theorem holds_ok {F : Str → Int → T × T} {L : Str → Int → T} {fs es : List (Str × T)} {M W : T} {gl ns : List Str} {tes : List Te} {p : Te → Bool} (h : Hl F L fs es M W (.lst (gl.map .str))) (hn : ∀ n ∈ ns, Nm n) (hnl : ns.length ≤ 100)
    (lt : ∃ rest, F_ltargets [.val (.obj 4 es), .val M, .val W, .val (.lst (gl.map .str))] = some (.own (.lst (tes.map (teT F))), rest))
    (tg : ∃ rest, F_Scope_targets [.val (.obj 5 fs)] = some (.own (.lst (tes.map (teT F))), rest))
    (hp : ∀ e ∈ tes, Cl F p e) (tl : tes.length < 64) (n3 : fs.lookup (Str.ofString "targets") = none) (n4 : fs.lookup (Str.ofString "entered") = none)
    (fg : fs.lookup (Str.ofString "given") = some (.tup ((sortU gl).map .str))) (fe : fs.lookup (Str.ofString "edition") = some (.obj 4 es))
    (eq : ∃ rest, F_Edition_eq [.val (.obj 4 es), .val (.obj 4 es)] = some (.val (.bl true), rest))
    (r1 : ∃ z, fReprV [.lst (tes.map (teT F))] = some (.val (.str z)))
    (r2 : ∃ z, fReprV [.lst ((sortU ((tes.filter p).map (·.n))).map .str)] = some (.val (.str z)))
    (r3 : ∃ z, fReprV [.tup ((sortU gl).map .str)] = some (.val (.str z))) (gll : gl.length < 64) :
    ∃ rest, F_holds [.val (.obj 5 fs), .val (.obj 4 es), .val (.lst (ns.map .str)), .val M, .val W, .val (.lst (gl.map .str))] = some (.val (.bl true), rest) := by
  obtain ⟨s6, s7, e0⟩ := hold_loop h hn (s2 := .val (.lst (ns.map .str))) (s6 := .no) (s7 := .no) (s8 := .no) (s9 := .no) (s10 := .no) (s11 := .no) (s12 := .no)
  obtain ⟨x1, q1⟩ := lt
  obtain ⟨x2, q2⟩ := tg
  obtain ⟨x3, q3⟩ := entered_ok q2 n3 hp tl
  obtain ⟨x4, q4⟩ := eq
  obtain ⟨z1, q5⟩ := r1
  obtain ⟨z2, q6⟩ := r2
  obtain ⟨z3, q7⟩ := r3
  have c := back_comp2 hp (s0 := .val (.obj 5 fs)) (s1 := .val (.obj 4 es)) (s2 := .val (.lst (ns.map .str))) (s3 := .val M) (s4 := .val W) (s5 := .val (.lst (gl.map .str))) (s6 := s6) (s7 := s7) (s8 := .no) (s9 := .own (.lst (tes.map (teT F)))) (s10 := .own (.lst ((sortU ((tes.filter p).map (·.n))).map .str))) (s11 := .no)
  have sl := strL_map ((tes.filter p).map (·.n))
  have sg := strL_map gl
  have h1 : ((tes.filter p).map (·.n)).length + 1 < scanBound ∧ (sortU ((tes.filter p).map (·.n))).length < 64 := by
    have := sortU_len (xs := (tes.filter p).map (·.n))
    have := List.length_filter_le p tes
    rw [List.length_map] at *
    unfold scanBound
    exact ⟨by omega, by omega⟩
  have h2 : gl.length + 1 < scanBound ∧ (sortU gl).length < 64 := by
    have := sortU_len (xs := gl)
    unfold scanBound
    exact ⟨by omega, by omega⟩
  have d1 : decide (z1 = z1) = true := by simp
  have d2 : decide (z2 = z2) = true := by simp
  have d3 : decide (z3 = z3) = true := by simp
  have hsz : (ns.map T.str).length < 16777216 := by rw [List.length_map]; omega
  have hsz2 : (tes.map (teT F)).length < 16777216 := by rw [List.length_map]; omega
  have g1 := gAp (xs := tes.map (teT F)) (y := .str "x") (by rw [List.length_map]; omega)
  have g2 := gAp (xs := (sortU ((tes.filter p).map (·.n))).map T.str) (y := .str "x") (by rw [List.length_map]; omega)
  have mt : M_targets_5 5 = F_Scope_targets := rfl
  have me : M_entered_5 5 = F_Scope_entered := rfl
  have mq : M_eq_4 4 = F_Edition_eq := rfl
  clear h hn hp hnl
  unfold F_holds B_holds
  generalize ((sSeq (sFor (iR1 (aC (eC (.int 10)) aN)) (pN 7)
  (sSeq (sIf (bE (e2 (fEq true) (eB fReprV (aC (eTup (aC (eDynN "reach" M_reach_5 [] (eVar 0) (aC (eVar 6) (aC (eVar 7) aN))) (aC (eDynN "why" M_why_5 [] (eVar 0) (aC (eVar 6) (aC (eVar 7) aN))) aN))) aN)) (eB fReprV (aC (eCall F_due (aC (eVar 3) (aC (eVar 4) (aC (eVar 5) (aC (eVar 6) (aC (eVar 7) aN)))))) aN))))
  (sRet (eC (.bl false)))
  sNext)
  (sIf (bE (e2 (fEq true) (eB fReprV (aC (eCall F_landed (aC (eVar 1) (aC (eVar 6) (aC (eVar 7) aN)))) aN)) (eB fReprV (aC (eCall F_llanded (aC (eVar 3) (aC (eVar 6) (aC (eVar 7) aN)))) aN))))
  (sRet (eC (.bl false)))
  sNext)))
  (sIf (bE (e2 (fEq true) (eB fReprV (aC (eTup (aC (eDynN "reach" M_reach_5 [(.int 0)] (eVar 0) (aC (eVar 6) aN)) (aC (eDynN "why" M_why_5 [(.int 0)] (eVar 0) (aC (eVar 6) aN)) aN))) aN)) (eB fReprV (aC (eCall F_due (aC (eVar 3) (aC (eVar 4) (aC (eVar 5) (aC (eVar 6) (aC (eC (.int 0)) aN)))))) aN))))
  (sRet (eC (.bl false)))
  sNext)) : SF) = bd at e0 ⊢
  generalize gAppend = ga at *
  have hsz3 : ((sortU gl).map T.str).length < 16777216 := by rw [List.length_map]; omega
  have it : (T.lst (gl.map T.str)).items = some (gl.map T.str) := rfl
  have it2 : (T.lst (((tes.filter p).map (·.n)).map T.str)).items = some (((tes.filter p).map (·.n)).map T.str) := rfl
  generalize gl.map T.str = gx at *
  generalize ((tes.filter p).map (·.n)).map T.str = nx at *
  generalize tes.map (teT F) = tx at *
  generalize ns.map T.str = nsx at *
  walk_at "eva"
  exact ⟨_, rfl⟩
theorem ed_eq {es : List (Str × T)} {z : Str} {r : List Sl} (q : F_Edition_text [.val (.obj 4 es)] = some (.val (.str z), r)) (n1 : es.lookup (Str.ofString "text") = none) : ∃ rest, F_Edition_eq [.val (.obj 4 es), .val (.obj 4 es)] = some (.val (.bl true), rest) := by
  have mt : M_text_4 4 = F_Edition_text := rfl
  have s44 : sub 4 4 = true := rfl
  have dz : decide (z = z) = true := by simp
  unfold F_Edition_eq B_Edition_eq
  walk_at "eva"
  exact ⟨_, rfl⟩
theorem scope_l {ed : T} {gl : List Str} (h : gl.length < 64) : F_Scope_init [.io (.obj 5 []), .val ed, .io (.lst (gl.map .str))] = some (.val .non, [.io (scT ed (sortU gl)), .val ed, .io (.lst (gl.map .str))]) := by
  have sg := strL_map gl
  have h2 : gl.length + 1 < scanBound ∧ (sortU gl).length < 64 := by
    have := sortU_len (xs := gl)
    unfold scanBound
    exact ⟨by omega, by omega⟩
  have it : (T.lst (gl.map T.str)).items = some (gl.map T.str) := rfl
  have hsz3 : ((sortU gl).map T.str).length < 16777216 := by rw [List.length_map]; omega
  unfold F_Scope_init B_Scope_init scT
  generalize gl.map T.str = gx at *
  walk_at "eva"
theorem scope_t {ed : T} {gl : List Str} (h : gl.length < 64) : F_Scope_init [.io (.obj 5 []), .val ed, .val (.tup (gl.map .str))] = some (.val .non, [.io (scT ed (sortU gl)), .val ed, .val (.tup (gl.map .str))]) := by
  have sg := strL_map gl
  have h2 : gl.length + 1 < scanBound ∧ (sortU gl).length < 64 := by
    have := sortU_len (xs := gl)
    unfold scanBound
    exact ⟨by omega, by omega⟩
  have it : (T.tup (gl.map T.str)).items = some (gl.map T.str) := rfl
  have hsz3 : ((sortU gl).map T.str).length < 16777216 := by rw [List.length_map]; omega
  unfold F_Scope_init B_Scope_init scT
  generalize gl.map T.str = gx at *
  walk_at "eva"
theorem fw_shape {ms : List Mb} {ws gs : List Str} {n : Str} {g : Int} (h : Vc ms ws (n, g)) : ∃ l, (fw ms ws gs n g).1 = .tup (.str "client" :: .str n :: l) ∨ (fw ms ws gs n g).1 = .tup (.str "edition" :: .str n :: l) := by
  unfold fw
  split
  · exact ⟨[], .inl rfl⟩
  · rename_i hc
    cases hf : fm ms n g with
    | none =>
      exfalso
      rcases h with h | ⟨m, h1, h2⟩
      · exact hc (by simp only [Bool.and_eq_true, decide_eq_true_eq]; exact h)
      · have := List.find?_eq_none.mp hf m h1
        exact this h2
    | some m =>
      dsimp only
      split
      · exact ⟨[], .inl rfl⟩
      · exact ⟨_, .inr rfl⟩
def pcl (F : Str → Int → T × T) (e : Te) : Bool := match (F e.n e.g).1 with
  | .tup (.str c :: _) => decide (c = Str.ofString "client")
  | _ => false
theorem cl_of {ms : List Mb} {ws gs : List Str} {e : Te} (h : Vc ms ws (e.n, e.g)) : Cl (fw ms ws gs) (pcl (fw ms ws gs)) e := by
  obtain ⟨l, h | h⟩ := fw_shape (gs := gs) h
  · refine ⟨l, ?_⟩
    have : pcl (fw ms ws gs) e = true := by unfold pcl; rw [h]; simp
    rw [this, h]
    rfl
  · refine ⟨l, ?_⟩
    have : pcl (fw ms ws gs) e = false := by unfold pcl; rw [h]; exact decide_eq_false (by decide)
    rw [this, h]
    rfl
theorem tge_mem : ∀ {h : T} {rs : List Rw} {i : Nat} {e : Te}, e ∈ tge h i rs → e.h = h ∧ e.i < i + rs.length ∧ ∃ k, Rw.call e.n k e.g ∈ rs
  | _, [], _, _, h => by simp [tge] at h
  | h, .tell k :: r, i, e, hm => by
    obtain ⟨a, b, k, c⟩ := tge_mem (rs := r) (i := i + 1) (show e ∈ tge h (i + 1) r from hm)
    exact ⟨a, by rw [List.length_cons]; omega, k, by simp [c]⟩
  | h, .call n k g :: r, i, e, hm => by
    rcases List.mem_cons.mp hm with rfl | hm
    · exact ⟨rfl, by simp, k, by simp⟩
    · obtain ⟨a, b, k, c⟩ := tge_mem (rs := r) (i := i + 1) hm
      exact ⟨a, by rw [List.length_cons]; omega, k, by simp [c]⟩
theorem tga_ok {ms : List Mb} {ws : List Str} {bs : List Bk} (hm : ∀ m ∈ ms, Mok m) (hb : ∀ b ∈ bs, Bok ms ws b) : ∀ e ∈ tga bs, Vc ms ws (e.n, e.g) ∧ Rs 1 3015 e.h ∧ e.i ≤ 3 := fun e he => by
  obtain ⟨b, hbm, he⟩ := List.mem_flatMap.mp he
  obtain ⟨a, hi, k, hk⟩ := tge_mem he
  have hbb := hb b hbm
  obtain ⟨hr, hrl⟩ : (∀ r ∈ b.rs, Ro ms ws r) ∧ b.rs.length ≤ 3 := by
    cases b with
    | fst n af rs => exact ⟨hbb.2.2.2.1, hbb.2.2.2.2⟩
    | mem m rs => exact ⟨hbb.2.1, hbb.2.2⟩
  refine ⟨(hr _ hk).2, ?_, by omega⟩
  rw [a]
  cases b with
  | fst n af rs =>
    exact rs_tup (s := 1002) (k := 3) (fun t ht => by
      simp only [List.mem_cons, List.not_mem_nil, or_false] at ht
      rcases ht with rfl | rfl
      · exact rs_lit (by simp)
      · exact rs_nm hbb.1) (by simp)
  | mem m rs =>
    have hmo := hm m hbb.1
    exact rs_tup (s := 1002) (k := 3) (fun t ht => by
      simp only [List.mem_cons, List.not_mem_nil, or_false] at ht
      rcases ht with rfl | rfl | rfl
      · exact rs_lit (by simp)
      · exact rs_nm hmo.1
      · exact rs_i (by have := hmo.2.2.1; have := hmo.2.2.2; omega)) (by simp)
theorem tga_len {bs : List Bk} (h : ∀ b ∈ bs, b.rs.length ≤ 3) : (tga bs).length ≤ 3 * bs.length := by
  unfold tga
  induction bs with
  | nil => simp
  | cons b r ih =>
    have h1 := h b (by simp)
    have h2 := ih fun x hx => h x (by simp [hx])
    have h3 := tge_len (h := hdT b) (rs := b.rs) (i := 0)
    simp only [List.flatMap_cons, List.length_append, List.length_cons]
    omega
theorem vc_g {ms : List Mb} {ws : List Str} (hm : ∀ m ∈ ms, Mok m) {n : Str} {g : Int} (h : Vc ms ws (n, g)) : g.natAbs < 10 ^ 18 := by
  rcases h with h | ⟨m, h1, h2⟩
  · rw [show g = 0 from h.2]; decide
  · have hmo := hm m h1
    unfold hit at h2
    simp only [Bool.and_eq_true, Bool.or_eq_true, decide_eq_true_eq] at h2
    have := hmo.2.2.1
    have := hmo.2.2.2
    rcases h2.2 with e | ⟨e, _⟩ <;> omega
theorem tga_repr {ms : List Mb} {ws gs : List Str} {bs : List Bk} (hm : ∀ m ∈ ms, Mok m) (hw : ∀ w ∈ ws, Nm w) (hb : ∀ b ∈ bs, Bok ms ws b) (hl : (tga bs).length ≤ 64) : ∃ z, fReprV [.lst ((tga bs).map (teT (fw ms ws gs)))] = some (.val (.str z)) :=
  rs_repr (d := 3) (s := 64 * (6 * 3017 + 3 + 2) + 3) (rs_lst (k := 64) (fun t ht => by
    obtain ⟨e, he, rfl⟩ := List.mem_map.mp ht
    obtain ⟨h1, h2, h3⟩ := tga_ok hm hb e he
    have hn : Nm e.n := vc_nm hm hw h1
    have hg := vc_g hm h1
    obtain ⟨f1, f2⟩ := fw_rs (ws := ws) (gs := gs) (g := e.g) hm hn
    exact rs_tup (d := 1) (s := 3015) (k := 6) (fun t ht => by
      simp only [List.mem_cons, List.not_mem_nil, or_false] at ht
      rcases ht with rfl | rfl | rfl | rfl | rfl | rfl
      · exact h2
      · exact (rs_i (by omega)).mono (by omega) (by omega)
      · exact (rs_nm hn).mono (by omega) (by omega)
      · exact (rs_i hg).mono (by omega) (by omega)
      · exact f1
      · exact f2.mono (by omega) (by omega)) (by simp)) (by rw [List.length_map]; exact hl)) (by omega) (by omega)
theorem strs_repr {ns : List Str} (h : ∀ n ∈ ns, Nm n) (hl : ns.length ≤ 64) : (∃ z, fReprV [.lst (ns.map .str)] = some (.val (.str z))) ∧ ∃ z, fReprV [.tup (ns.map .str)] = some (.val (.str z)) := by
  have h1 : ∀ t ∈ ns.map T.str, Rs 0 1002 t := fun t ht => by
    obtain ⟨n, hn, rfl⟩ := List.mem_map.mp ht
    exact rs_nm (h n hn)
  exact ⟨rs_repr (d := 1) (s := 64 * 1004 + 3) (rs_lst (k := 64) h1 (by rw [List.length_map]; exact hl)) (by omega) (by omega), rs_repr (d := 1) (s := 64 * 1004 + 3) (rs_tup (k := 64) h1 (by rw [List.length_map]; exact hl)) (by omega) (by omega)⟩
/-- what one scope answers -/
theorem scope_holds {nm : Str} {ms : List Mb} {ws gl ns : List Str} {bs : List Bk} (hm : ∀ m ∈ ms, Mok m) (hml : ms.length ≤ 4) (hs : Sep ms) (hw : ∀ w ∈ ws, Nm w) (hwl : ws.length ≤ 3) (hmw : ∀ m ∈ ms, m.n ∉ ws) (hb : ∀ b ∈ bs, Bok ms ws b) (hbl : bs.length ≤ 8) (hbm : mems bs = ms) (hn : Nm nm) (hns : ∀ n ∈ ns, Nm n) (hnl : ns.length ≤ 100) (hg : ∀ n ∈ gl, Nm n) (hgl : gl.length < 64) :
    ∃ rest, F_holds [.val (scT (edT nm ws bs) (sortU gl)), .val (edT nm ws bs), .val (.lst (ns.map .str)), .val (.lst (ms.map mbT)), .val (.lst (ws.map .str)), .val (.lst (gl.map .str))] = some (.val (.bl true), rest) := by
  have hrl : ∀ b ∈ bs, b.rs.length ≤ 3 := fun b hb2 => by
    have := hb b hb2
    cases b with
    | fst n af rs => exact this.2.2.2.2
    | mem m rs => exact this.2.2
  have hps : (mbs bs).map (·.1) = ms := (mbs_mems bs).trans hbm
  have hpl : (mbs bs).length = ms.length := by rw [← hps, List.length_map]
  have ed : Ed (edF nm ws bs) ws (mbs bs) := ⟨by rw [← mbs_fil]; rfl, rfl, by omega, fun p hp => (hm p.1 (hps ▸ List.mem_map_of_mem hp)).2.1, rfl, rfl⟩
  have fe : ∀ n g, fw ms ws (sortU gl) n g = fw ms ws gl n g := fw_gs fun x => mem_sortU
  have rw' : RW (fw ms ws gl) (.obj 5 [("edition", .obj 4 (edF nm ws bs)), ("given", .tup ((sortU gl).map .str))]) := fun n g => by
    have h1 := reach_ok (gs := sortU gl) (n := n) (g := g) ed
    have h2 := why_ok (gs := sortU gl) (n := n) (g := g) ed
    rw [hps, fe] at h1 h2
    exact ⟨h1, h2⟩
  have hl : Hl (fw ms ws gl) (fl ms) [("edition", .obj 4 (edF nm ws bs)), ("given", .tup ((sortU gl).map .str))] (edF nm ws bs) (.lst (ms.map mbT)) (.lst (ws.map .str)) (.lst (gl.map .str)) :=
    { rw := rw', n1 := rfl, n2 := rfl
      du := fun n g => due_ok hmw (by omega)
      la := fun n g => by
        have := landed_ok (n := n) (g := g) ed
        rw [hps] at this
        exact this
      ll := fun n g => llanded_ok hs (by omega)
      rp := fun n g h => pair_repr hm h
      rl := fun n g h => rs_repr (fl_rs hm) (by omega) (by omega) }
  have tl := tga_len hrl
  obtain ⟨z, r, qt⟩ := ed_text hm hw hwl hb hbl hn
  have hsl := sortU_len (xs := gl)
  refine holds_ok (tes := tga bs) (p := pcl (fw ms ws gl)) hl hns hnl (ltargets_ok hl.du rfl hrl (by omega)) (targets_ok rw' rfl rfl rfl rfl hrl (by omega)) (fun e he => cl_of (tga_ok hm hb e he).1) (by omega) rfl rfl rfl rfl (ed_eq qt rfl) (tga_repr hm hw hb (by omega)) ?_ ?_ hgl
  · refine (strs_repr (fun n hn => ?_) ?_).1
    · have := mem_sortU.mp hn
      obtain ⟨e, he, rfl⟩ := List.mem_map.mp this
      exact vc_nm hm hw (tga_ok hm hb e (List.mem_filter.mp he).1).1
    · have h1 := sortU_len (xs := ((tga bs).filter (pcl (fw ms ws gl))).map (·.n))
      have h2 := List.length_filter_le (pcl (fw ms ws gl)) (tga bs)
      rw [List.length_map] at h1
      omega
  · exact (strs_repr (fun n hn => hg n (mem_sortU.mp hn)) (by omega)).2
/-! the law -/
theorem of_name {t : T} {ss : List Str} (ht : Bg t) (h0 : 0 < ss.length) (h1 : ss.length ≤ 100) : ∃ (c : Str) (t' : T) (y : Sl) (rest : List Sl), F_of [.io t, .val (.lst (ss.map .str))] = some (.val (.str c), .io t' :: y :: rest) ∧ c ∈ ss ∧ Bg t' := by
  obtain ⟨x, t', y, rest, e, hx, h⟩ := of_ok (xs := ss.map T.str) ht (by rw [List.length_map]; exact h0) (by rw [List.length_map]; omega)
  obtain ⟨c, hc, rfl⟩ := List.mem_map.mp hx
  exact ⟨c, t', y, rest, e, hc, h⟩
theorem given_comp {ss : List Str} (h0 : 0 < ss.length) (h1 : ss.length ≤ 100) {k : Nat} {t : T} {s0 s1 s3 s4 s5 s6 s7 s8 s9 s10 s11 s12 s13 s15 s16 : Sl} (ht : Bg t) (h3 : s3 = .own (.lst (ss.map .str)) ∨ s3 = .val (.lst (ss.map .str))) : ∃ (gl : List Str) (t' : T) (s3' : Sl), compF (pN 14) bYes (eCallL F_of [true, false] (aC (eVar 2) (aC (eVar 3) aN))) [14] (rngT 0 k) [s0, s1, .own t, s3, s4, s5, s6, s7, s8, s9, s10, s11, s12, s13, .no, s15, s16] = some (gl.map T.str, [s0, s1, .own t', s3', s4, s5, s6, s7, s8, s9, s10, s11, s12, s13, .no, s15, s16]) ∧ gl.length = k ∧ (∀ g ∈ gl, g ∈ ss) ∧ Bg t' ∧ (s3' = .own (.lst (ss.map .str)) ∨ s3' = .val (.lst (ss.map .str))) := by
  obtain ⟨us, ρ', e, hp, t', s3', rfl, h2, h4⟩ := comp_inv (s := pN 14) (el := eCallL F_of [true, false] (aC (eVar 2) (aC (eVar 3) aN))) (vs := [14]) (fun ρ => ∃ (t : T) (s3 : Sl), ρ = [s0, s1, .own t, s3, s4, s5, s6, s7, s8, s9, s10, s11, s12, s13, .no, s15, s16] ∧ Bg t ∧ (s3 = .own (.lst (ss.map .str)) ∨ s3 = .val (.lst (ss.map .str)))) (fun _ u => ∃ c, u = .str c ∧ c ∈ ss) (ts := rngT 0 k) (ρ := [s0, s1, .own t, s3, s4, s5, s6, s7, s8, s9, s10, s11, s12, s13, .no, s15, s16]) ⟨t, s3, rfl, ht, h3⟩ (fun u hu ρ ⟨t, s3, e, ht, h3⟩ => by
    obtain ⟨c, t2, y, r, q, hc, h2⟩ := of_name ht h0 h1
    subst e
    refine ⟨_, .str c, [s0, s1, .own t2, .val (.lst (ss.map .str)), s4, s5, s6, s7, s8, s9, s10, s11, s12, s13, .val u, s15, s16], rfl, ?_, ⟨c, rfl, hc⟩, t2, _, rfl, h2, .inr rfl⟩
    clear ht h2 hc h0 h1
    generalize ss.map T.str = sl at *
    rcases h3 with rfl | rfl <;> walk_at "eva")
  obtain ⟨gl, rfl, hl, hg⟩ := paired_strs hp
  exact ⟨gl, t', s3', e, by rw [hl, rngT_len], hg, h2, h4⟩
def entT (ed : T) (gl : List Str) : T := .tup [scT ed (sortU gl), .lst (gl.map .str)]
/-- what stands behind the given names of a turn -/
abbrev scTail (ga gx : T → List T → Option (T × T)) : SF := (sSeq (sAsg 15 (eB fLst (aC (eVar 13) aN)))
  (sSeq (sDrop (eMut "list" ga 11 (aC (eTup (aC (eMakeL 5 F_Scope_init [false, true] (aC (eVar 9) (aC (eIf (bE (e2 (fEq false) (eVar 12) (eC (.int 0)))) (eVar 15) (eB fTupl (aC (eVar 15) aN))) aN))) (aC (eVar 13) aN))) aN)))
  (sDrop (eMut "list" gx 15 (aC (eVar 3) aN)))))
theorem sc_tail0 {ga gx : T → List T → Option (T × T)} {ed : T} {gl : List Str} {N acc acc' pl : List T} {s0 s1 s2 s3 s4 s5 s6 s7 s8 s9 s10 s13 s14 s15 s16 : Sl} (h3 : s3 = .own (.lst N) ∨ s3 = .val (.lst N)) (h9 : s9 = .own ed ∨ s9 = .val ed) (h13 : s13 = .own (.lst (gl.map .str)) ∨ s13 = .val (.lst (gl.map .str))) (hl : gl.length < 64) (g1 : ga (.lst acc) [entT ed gl] = some (.lst acc', .non)) (g2 : gx (.lst (gl.map .str)) [.lst N] = some (.lst pl, .non)) : scTail ga gx [s0, s1, s2, s3, s4, s5, s6, s7, s8, s9, s10, .own (.lst acc), .val (.int 0), s13, s14, s15, s16] = .nx [s0, s1, s2, .val (.lst N), s4, s5, s6, s7, s8, .val ed, s10, .own (.lst acc'), .val (.int 0), .val (.lst (gl.map .str)), s14, .own (.lst pl), s16] := by
  have sl := scope_l (ed := ed) hl
  have hsz : (gl.map T.str).length < 16777216 := by rw [List.length_map]; omega
  unfold entT at g1
  unfold scTail
  generalize scT ed (sortU gl) = sc at *
  clear hl
  generalize gl.map T.str = gx2 at *
  rcases h3 with rfl | rfl <;> rcases h9 with rfl | rfl <;> rcases h13 with rfl | rfl <;> walk_at "eva"
theorem sc_tail1 {ga gx : T → List T → Option (T × T)} {ed : T} {gl : List Str} {N acc acc' pl : List T} {s0 s1 s2 s3 s4 s5 s6 s7 s8 s9 s10 s13 s14 s15 s16 : Sl} (h3 : s3 = .own (.lst N) ∨ s3 = .val (.lst N)) (h9 : s9 = .own ed ∨ s9 = .val ed) (h13 : s13 = .own (.lst (gl.map .str)) ∨ s13 = .val (.lst (gl.map .str))) (hl : gl.length < 64) (g1 : ga (.lst acc) [entT ed gl] = some (.lst acc', .non)) (g2 : gx (.lst (gl.map .str)) [.lst N] = some (.lst pl, .non)) : scTail ga gx [s0, s1, s2, s3, s4, s5, s6, s7, s8, s9, s10, .own (.lst acc), .val (.int 1), s13, s14, s15, s16] = .nx [s0, s1, s2, .val (.lst N), s4, s5, s6, s7, s8, .val ed, s10, .own (.lst acc'), .val (.int 1), .val (.lst (gl.map .str)), s14, .own (.lst pl), s16] := by
  have sl := scope_t (ed := ed) hl
  have hsz : (gl.map T.str).length < 16777216 := by rw [List.length_map]; omega
  have d10 : decide ((1 : Int) = 0) = false := by decide
  unfold entT at g1
  unfold scTail
  generalize scT ed (sortU gl) = sc at *
  clear hl
  generalize gl.map T.str = gx2 at *
  rcases h3 with rfl | rfl <;> rcases h9 with rfl | rfl <;> rcases h13 with rfl | rfl <;> walk_at "eva"
theorem sc_turn {ss ws : List Str} (h0 : 0 < ss.length) (h1 : ss.length ≤ 20) (hws : ∀ w ∈ ws, w ∈ ss) (hwl : ws.length ≤ 3) {j : Nat} (hj : j < 2) {ed t : T} {acc : List T} {s0 s1 s3 s4 s5 s7 s8 s9 s10 s13 s15 s16 : Sl} (ht : Bg t) (h3 : s3 = .own (.lst (ss.map .str)) ∨ s3 = .val (.lst (ss.map .str))) (h9 : s9 = .own ed ∨ s9 = .val ed) (hal : acc.length ≤ 10) : ∃ (gl : List Str) (t' : T) (s15' : Sl), (sSeq (sAsg 13 (eLc (iR1 (aC (eCallL F_take [true, false] (aC (eVar 2) (aC (eC (.int 9)) aN))) aN)) (pN 14) bYes (eCallL F_of [true, false] (aC (eVar 2) (aC (eVar 3) aN))) [14]))
  (sSeq (sAsg 13 (eIf (bE (e2 (fEq false) (eCallL F_take [true, false] (aC (eVar 2) (aC (eC (.int 2)) aN))) (eC (.int 0)))) (e2 fCat (eVar 13) (eVar 6)) (eVar 13)))
  (sSeq (sAsg 15 (eB fLst (aC (eVar 13) aN)))
  (sSeq (sDrop (eMut "list" gAppend 11 (aC (eTup (aC (eMakeL 5 F_Scope_init [false, true] (aC (eVar 9) (aC (eIf (bE (e2 (fEq false) (eVar 12) (eC (.int 0)))) (eVar 15) (eB fTupl (aC (eVar 15) aN))) aN))) (aC (eVar 13) aN))) aN)))
  (sDrop (eMut "list" gExtend 15 (aC (eVar 3) aN))))))) [s0, s1, .own t, s3, s4, s5, .val (.lst (ws.map .str)), s7, s8, s9, s10, .own (.lst acc), .val (.int (j : Int)), s13, .no, s15, s16] = .nx [s0, s1, .own t', .val (.lst (ss.map .str)), s4, s5, .val (.lst (ws.map .str)), s7, s8, .val ed, s10, .own (.lst (acc ++ [entT ed gl])), .val (.int (j : Int)), .val (.lst (gl.map .str)), .no, s15', s16] ∧ Bg t' ∧ (∀ g ∈ gl, g ∈ ss) ∧ gl.length < 64 := by
  obtain ⟨k, t1, r1, q1, k0, k1, b1⟩ := take_ok (m := 9) ht (by decide) (by decide)
  obtain ⟨gl, t2, s3', c, hgl, hg, b2, h3'⟩ := given_comp (k := k.toNat) (s0 := s0) (s1 := s1) (s4 := s4) (s5 := s5) (s6 := .val (.lst (ws.map .str))) (s7 := s7) (s8 := s8) (s9 := s9) (s10 := s10) (s11 := .own (.lst acc)) (s12 := .val (.int (j : Int))) (s13 := s13) (s15 := s15) (s16 := s16) h0 (by omega) b1 h3
  obtain ⟨d, t3, r3, q3, d0, d1, b3⟩ := take_ok (m := 2) b2 (by decide) (by decide)
  have hr : -4611686018427387904 ≤ k ∧ k < 4611686018427387904 := ⟨by omega, by omega⟩
  have hsz : (rngT 0 k.toNat).length < 16777216 := by rw [rngT_len]; omega
  have hsz2 : (gl.map T.str).length < 16777216 := by rw [List.length_map]; omega
  have hc := fCat_l (xs := gl.map T.str) (ys := ws.map T.str) (by simp only [List.length_map]; omega)
  rw [← List.map_append] at hc
  have key : ∀ (gs : List Str) (s13' : Sl), (s13' = .own (.lst (gs.map .str)) ∨ s13' = .val (.lst (gs.map .str))) → (∀ g ∈ gs, g ∈ ss) → gs.length < 64 → ∃ s15', scTail gAppend gExtend [s0, s1, .own t3, s3', s4, s5, .val (.lst (ws.map .str)), s7, s8, s9, s10, .own (.lst acc), .val (.int (j : Int)), s13', .no, s15, s16] = .nx [s0, s1, .own t3, .val (.lst (ss.map .str)), s4, s5, .val (.lst (ws.map .str)), s7, s8, .val ed, s10, .own (.lst (acc ++ [entT ed gs])), .val (.int (j : Int)), .val (.lst (gs.map .str)), .no, s15', s16] := fun gs s13' h13 _ hl => by
    have g1 := gAp (xs := acc) (y := entT ed gs) (by omega)
    have g2 := gEx (xs := gs.map T.str) (ys := ss.map T.str) (by simp only [List.length_map]; omega)
    rcases (by omega : j = 0 ∨ j = 1) with rfl | rfl
    · exact ⟨_, sc_tail0 h3' h9 h13 hl g1 g2⟩
    · exact ⟨_, sc_tail1 h3' h9 h13 hl g1 g2⟩
  by_cases hd : d = 0
  · obtain ⟨s15', e⟩ := key (gl ++ ws) _ (.inl rfl) (fun g hh => by
      rcases List.mem_append.mp hh with hh | hh
      · exact hg g hh
      · exact hws g hh) (by rw [List.length_append]; omega)
    refine ⟨gl ++ ws, t3, s15', ?_, b3, fun g hh => by
      rcases List.mem_append.mp hh with hh | hh
      · exact hg g hh
      · exact hws g hh, by rw [List.length_append]; omega⟩
    rw [← e]
    clear e key b1 b2 b3 ht hg hws h0 h1 hal hgl
    unfold scTail
    generalize ((sSeq (sAsg 15 (eB fLst (aC (eVar 13) aN)))
  (sSeq (sDrop (eMut "list" gAppend 11 (aC (eTup (aC (eMakeL 5 F_Scope_init [false, true] (aC (eVar 9) (aC (eIf (bE (e2 (fEq false) (eVar 12) (eC (.int 0)))) (eVar 15) (eB fTupl (aC (eVar 15) aN))) aN))) (aC (eVar 13) aN))) aN)))
  (sDrop (eMut "list" gExtend 15 (aC (eVar 3) aN))))) : SF) = tl
    generalize ss.map T.str = sl at *
    generalize gl.map T.str = gl2 at *
    generalize ws.map T.str = wl at *
    generalize (gl ++ ws).map T.str = gw at *
    have dd : decide (d = 0) = true := by simp [hd]
    clear hd
    walk_at "eva"
  · obtain ⟨s15', e⟩ := key gl _ (.inr rfl) hg (by omega)
    refine ⟨gl, t3, s15', ?_, b3, hg, by omega⟩
    rw [← e]
    clear e key b1 b2 b3 ht hg hws h0 h1 hal hgl
    unfold scTail
    generalize ((sSeq (sAsg 15 (eB fLst (aC (eVar 13) aN)))
  (sSeq (sDrop (eMut "list" gAppend 11 (aC (eTup (aC (eMakeL 5 F_Scope_init [false, true] (aC (eVar 9) (aC (eIf (bE (e2 (fEq false) (eVar 12) (eC (.int 0)))) (eVar 15) (eB fTupl (aC (eVar 15) aN))) aN))) (aC (eVar 13) aN))) aN)))
  (sDrop (eMut "list" gExtend 15 (aC (eVar 3) aN))))) : SF) = tl
    generalize ss.map T.str = sl at *
    generalize gl.map T.str = gl2 at *
    generalize ws.map T.str = wl at *
    have dd : decide (d = 0) = false := by simp [hd]
    clear hd
    walk_at "eva"
theorem names_comp {ms : List Mb} {s0 s1 s2 s3 s5 s6 s7 s9 s10 s11 s12 s13 s14 s15 s16 : Sl} : compF (pN 8) bYes (e2 fIxT (eVar 8) (eC (.int 0))) [8] (ms.map mbT) [s0, s1, s2, s3, .no, s5, s6, s7, .no, s9, s10, s11, s12, s13, s14, s15, s16] = some ((ms.map (·.n)).map T.str, [s0, s1, s2, s3, .no, s5, s6, s7, .no, s9, s10, s11, s12, s13, s14, s15, s16]) := by
  have := comp_mapL (s := pN 8) (el := e2 fIxT (eVar 8) (eC (.int 0))) (vs := [8]) (g := mbT) (f := fun m => .str m.n) (ρ := [s0, s1, s2, s3, .no, s5, s6, s7, .no, s9, s10, s11, s12, s13, s14, s15, s16]) (l := ms) (fun m _ => by
    have f0 := @fIxT_0 (.str m.n) [.str m.a, .int m.g, .bl m.u]
    refine ⟨_, [s0, s1, s2, s3, .no, s5, s6, s7, .val (mbT m), s9, s10, s11, s12, s13, s14, s15, s16], rfl, ?_, rfl⟩
    unfold mbT
    walk_at "eva")
  rw [this, List.map_map]
  rfl
theorem wants_comp {ms : List Mb} (hml : ms.length ≤ 4) {zs : List Str} {s0 s1 s2 s3 s5 s6 s9 s10 s11 s12 s13 s14 s15 s16 : Sl} : compF (pN 7) (bE (e2 (fIn true) (eVar 7) (eLcX false 4 (pN 8) bYes (e2 fIxT (eVar 8) (eC (.int 0))) [8]))) (eVar 7) [7] (zs.map T.str) [s0, s1, s2, s3, .own (.lst (ms.map mbT)), s5, s6, .no, .no, s9, s10, s11, s12, s13, s14, s15, s16] = some ((zs.filter fun z => !decide (z ∈ ms.map (·.n))).map T.str, [s0, s1, s2, s3, .own (.lst (ms.map mbT)), s5, s6, .no, .no, s9, s10, s11, s12, s13, s14, s15, s16]) := by
  refine comp_filL (s := pN 7) (el := eVar 7) (vs := [7]) (g := T.str) (p := fun z => !decide (z ∈ ms.map (·.n))) (f := T.str) (ρ := [s0, s1, s2, s3, .own (.lst (ms.map mbT)), s5, s6, .no, .no, s9, s10, s11, s12, s13, s14, s15, s16]) (l := zs) (fun z _ => ?_)
  have nc := names_comp (ms := ms) (s0 := s0) (s1 := s1) (s2 := s2) (s3 := s3) (s5 := s5) (s6 := s6) (s7 := .val (.str z)) (s9 := s9) (s10 := s10) (s11 := s11) (s12 := s12) (s13 := s13) (s14 := s14) (s15 := s15) (s16 := s16)
  have fi := @fIn_L true z (ms.map (·.n))
  rw [if_pos rfl] at fi
  have hsz : (ms.map mbT).length < 16777216 := by rw [List.length_map]; omega
  refine ⟨_, [s0, s1, s2, s3, .own (.lst (ms.map mbT)), s5, s6, .val (.str z), .no, s9, s10, s11, s12, s13, s14, s15, s16], rfl, ?_, fun _ => ⟨[s0, s1, s2, s3, .own (.lst (ms.map mbT)), s5, s6, .val (.str z), .no, s9, s10, s11, s12, s13, s14, s15, s16], ?_, rfl⟩, fun _ => rfl⟩
  · generalize (ms.map (·.n)).map T.str = nl at *
    generalize ms.map mbT = ml at *
    walk_at "eva"
  · walk_at "eva"
theorem ho_turn {ed : T} {gl : List Str} {N M W : T} {r : List Sl} (q : F_holds [.val (scT ed (sortU gl)), .val ed, .val N, .val M, .val W, .val (.lst (gl.map .str))] = some (.val (.bl true), r)) {s0 s1 s2 s5 s7 s8 s10 s11 s12 s14 s15 : Sl} : (sIf (bNot (bE (eCall F_holds (aC (eVar 16) (aC (eVar 9) (aC (eVar 3) (aC (eVar 4) (aC (eVar 6) (aC (eVar 13) aN)))))))))
  (sRet (eC (.bl false)))
  sNext) [s0, s1, s2, .val N, .val M, s5, .val W, s7, s8, .val ed, s10, s11, s12, .val (.lst (gl.map .str)), s14, s15, .val (scT ed (sortU gl))] = .nx [s0, s1, s2, .val N, .val M, s5, .val W, s7, s8, .val ed, s10, s11, s12, .val (.lst (gl.map .str)), s14, s15, .val (scT ed (sortU gl))] := by
  generalize scT ed (sortU gl) = sc at *
  generalize gl.map T.str = gx at *
  walk_at "eva"
theorem ho_loop {ed : T} {gls : List (List Str)} {N M W : T} (q : ∀ gl ∈ gls, ∃ r, F_holds [.val (scT ed (sortU gl)), .val ed, .val N, .val M, .val W, .val (.lst (gl.map .str))] = some (.val (.bl true), r)) {s0 s1 s2 s5 s7 s8 s10 s11 s12 s13 s14 s15 s16 : Sl} : ∃ s13' s16', loopF (pT 2 (pCons (pN 16) (pCons (pN 13) pNil))) (sIf (bNot (bE (eCall F_holds (aC (eVar 16) (aC (eVar 9) (aC (eVar 3) (aC (eVar 4) (aC (eVar 6) (aC (eVar 13) aN)))))))))
  (sRet (eC (.bl false)))
  sNext) (gls.map (entT ed)) [s0, s1, s2, .val N, .val M, s5, .val W, s7, s8, .val ed, s10, s11, s12, s13, s14, s15, s16] = .nx [s0, s1, s2, .val N, .val M, s5, .val W, s7, s8, .val ed, s10, s11, s12, s13', s14, s15, s16'] := by
  obtain ⟨ρ', e, s13', s16', rfl⟩ := loop_inv (s := pT 2 (pCons (pN 16) (pCons (pN 13) pNil))) (b := (sIf (bNot (bE (eCall F_holds (aC (eVar 16) (aC (eVar 9) (aC (eVar 3) (aC (eVar 4) (aC (eVar 6) (aC (eVar 13) aN)))))))))
  (sRet (eC (.bl false)))
  sNext)) (fun ρ => ∃ s13 s16 : Sl, ρ = [s0, s1, s2, .val N, .val M, s5, .val W, s7, s8, .val ed, s10, s11, s12, s13, s14, s15, s16]) (ts := gls.map (entT ed)) (ρ := [s0, s1, s2, .val N, .val M, s5, .val W, s7, s8, .val ed, s10, s11, s12, s13, s14, s15, s16]) ⟨_, _, rfl⟩ (fun t ht ρ ⟨s13, s16, e⟩ => by
    obtain ⟨gl, hg, rfl⟩ := List.mem_map.mp ht
    obtain ⟨r, q1⟩ := q gl hg
    subst e
    exact ⟨_, _, rfl, ho_turn q1, _, _, rfl⟩)
  exact ⟨s13', s16', e⟩
theorem ho_outer {ed : T} {gls : List (List Str)} {N M W : T} (hgl : gls.length ≤ 10) (q : ∀ gl ∈ gls, ∃ r, F_holds [.val (scT ed (sortU gl)), .val ed, .val N, .val M, .val W, .val (.lst (gl.map .str))] = some (.val (.bl true), r)) {s0 s1 s2 s5 s7 s8 s10 s12 s13 s14 s15 s16 : Sl} : ∃ s11' s12' s13' s16', loopF (pN 12) (sFor (iL (eVar 11)) (pT 2 (pCons (pN 16) (pCons (pN 13) pNil)))
  (sIf (bNot (bE (eCall F_holds (aC (eVar 16) (aC (eVar 9) (aC (eVar 3) (aC (eVar 4) (aC (eVar 6) (aC (eVar 13) aN)))))))))
  (sRet (eC (.bl false)))
  sNext)) (rngT 0 2) [s0, s1, s2, .val N, .val M, s5, .val W, s7, s8, .val ed, s10, .own (.lst (gls.map (entT ed))), s12, s13, s14, s15, s16] = .nx [s0, s1, s2, .val N, .val M, s5, .val W, s7, s8, .val ed, s10, s11', s12', s13', s14, s15, s16'] := by
  obtain ⟨ρ', e, s11', s12', s13', s16', rfl, _⟩ := loop_inv (s := pN 12) (b := (sFor (iL (eVar 11)) (pT 2 (pCons (pN 16) (pCons (pN 13) pNil)))
  (sIf (bNot (bE (eCall F_holds (aC (eVar 16) (aC (eVar 9) (aC (eVar 3) (aC (eVar 4) (aC (eVar 6) (aC (eVar 13) aN)))))))))
  (sRet (eC (.bl false)))
  sNext))) (fun ρ => ∃ s11 s12 s13 s16 : Sl, ρ = [s0, s1, s2, .val N, .val M, s5, .val W, s7, s8, .val ed, s10, s11, s12, s13, s14, s15, s16] ∧ (s11 = .own (.lst (gls.map (entT ed))) ∨ s11 = .val (.lst (gls.map (entT ed))))) (ts := rngT 0 2) (ρ := [s0, s1, s2, .val N, .val M, s5, .val W, s7, s8, .val ed, s10, .own (.lst (gls.map (entT ed))), s12, s13, s14, s15, s16]) ⟨_, _, _, _, rfl, .inl rfl⟩ (fun t ht ρ ⟨s11, s12, s13, s16, e, h⟩ => by
    obtain ⟨i, _, rfl⟩ := rng_mem ht
    subst e
    obtain ⟨s13', s16', e⟩ := ho_loop q (s0 := s0) (s1 := s1) (s2 := s2) (s5 := s5) (s7 := s7) (s8 := s8) (s10 := s10) (s11 := .val (.lst (gls.map (entT ed)))) (s12 := .val (.int (i : Int))) (s13 := s13) (s14 := s14) (s15 := s15) (s16 := s16)
    have hsz : (gls.map (entT ed)).length < 16777216 := by rw [List.length_map]; omega
    refine ⟨_, _, rfl, ?_, .val (.lst (gls.map (entT ed))), .val (.int (i : Int)), s13', s16', rfl, .inr rfl⟩
    rw [← e]
    clear e q
    generalize ((sIf (bNot (bE (eCall F_holds (aC (eVar 16) (aC (eVar 9) (aC (eVar 3) (aC (eVar 4) (aC (eVar 6) (aC (eVar 13) aN)))))))))
  (sRet (eC (.bl false)))
  sNext) : SF) = bd
    generalize gls.map (entT ed) = gl at *
    rcases h with rfl | rfl <;> walk_at "eva")
  exact ⟨s11', s12', s13', s16', e⟩
abbrev tailB : SF := (sSeq (sPar [10, 11] (aC (eDyn "text" M_text_4 (eVar 9)) (aC (eLst aN) aN)))
  (sSeq (sFor (iR1 (aC (eC (.int 2)) aN)) (pN 12)
  (sSeq (sAsg 13 (eLc (iR1 (aC (eCallL F_take [true, false] (aC (eVar 2) (aC (eC (.int 9)) aN))) aN)) (pN 14) bYes (eCallL F_of [true, false] (aC (eVar 2) (aC (eVar 3) aN))) [14]))
  (sSeq (sAsg 13 (eIf (bE (e2 (fEq false) (eCallL F_take [true, false] (aC (eVar 2) (aC (eC (.int 2)) aN))) (eC (.int 0)))) (e2 fCat (eVar 13) (eVar 6)) (eVar 13)))
  (sSeq (sAsg 15 (eB fLst (aC (eVar 13) aN)))
  (sSeq (sDrop (eMut "list" gAppend 11 (aC (eTup (aC (eMakeL 5 F_Scope_init [false, true] (aC (eVar 9) (aC (eIf (bE (e2 (fEq false) (eVar 12) (eC (.int 0)))) (eVar 15) (eB fTupl (aC (eVar 15) aN))) aN))) (aC (eVar 13) aN))) aN)))
  (sDrop (eMut "list" gExtend 15 (aC (eVar 3) aN))))))))
  (sSeq (sFor (iR1 (aC (eC (.int 2)) aN)) (pN 12)
  (sFor (iL (eVar 11)) (pT 2 (pCons (pN 16) (pCons (pN 13) pNil)))
  (sIf (bNot (bE (eCall F_holds (aC (eVar 16) (aC (eVar 9) (aC (eVar 3) (aC (eVar 4) (aC (eVar 6) (aC (eVar 13) aN)))))))))
  (sRet (eC (.bl false)))
  sNext)))
  (sIf (bE (e2 (fEq true) (eDyn "text" M_text_4 (eVar 9)) (eVar 10)))
  (sRet (eC (.bl false)))
  sNext))))
theorem tail_ok {nm : Str} {ms : List Mb} {ws ss : List Str} {bs : List Bk} {t : T} (hm : ∀ m ∈ ms, Mok m) (hml : ms.length ≤ 4) (hs : Sep ms) (hws : ∀ w ∈ ws, w ∈ ss) (hwl : ws.length ≤ 3) (hmw : ∀ m ∈ ms, m.n ∉ ws) (hb : ∀ b ∈ bs, Bok ms ws b) (hbl : bs.length ≤ 8) (hbm : mems bs = ms) (hn : nm ∈ ss) (hss : ∀ n ∈ ss, Nm n) (h0 : 0 < ss.length) (h1 : ss.length ≤ 20) (ht : Bg t) {s0 s1 s3 s5 s10 s11 s12 s13 s15 s16 : Sl} (h3 : s3 = .own (.lst (ss.map .str)) ∨ s3 = .val (.lst (ss.map .str))) : ∃ s2' s3' s4' s5' s6' s9' s10' s11' s12' s13' s15' s16', tailB [s0, s1, .own t, s3, .val (.lst (ms.map mbT)), s5, .val (.lst (ws.map .str)), .no, .no, .own (edT nm ws bs), s10, s11, s12, s13, .no, s15, s16] = .nx [s0, s1, s2', s3', s4', s5', s6', .no, .no, s9', s10', s11', s12', s13', .no, s15', s16'] := by
  have hw : ∀ w ∈ ws, Nm w := fun w h => hss w (hws w h)
  obtain ⟨z, r, qt⟩ := ed_text hm hw hwl hb hbl (hss nm hn)
  obtain ⟨gl1, t1, s15a, e1, b1, g1, l1⟩ := sc_turn (j := 0) (ed := edT nm ws bs) (acc := []) (s0 := s0) (s1 := s1) (s4 := .val (.lst (ms.map mbT))) (s5 := s5) (s7 := .no) (s8 := .no) (s9 := .val (edT nm ws bs)) (s10 := .val (.str z)) (s13 := s13) (s15 := s15) (s16 := s16) h0 h1 hws hwl (by decide) ht h3 (.inr rfl) (by simp)
  obtain ⟨gl2, t2, s15b, e2', b2, g2, l2⟩ := sc_turn (j := 1) (ed := edT nm ws bs) (acc := [entT (edT nm ws bs) gl1]) (s0 := s0) (s1 := s1) (s4 := .val (.lst (ms.map mbT))) (s5 := s5) (s7 := .no) (s8 := .no) (s9 := .val (edT nm ws bs)) (s10 := .val (.str z)) (s13 := .val (.lst (gl1.map .str))) (s15 := s15a) (s16 := s16) h0 h1 hws hwl (by decide) b1 (.inr rfl) (.inr rfl) (by simp)
  have hh : ∀ gl ∈ [gl1, gl2], ∃ r, F_holds [.val (scT (edT nm ws bs) (sortU gl)), .val (edT nm ws bs), .val (.lst (ss.map .str)), .val (.lst (ms.map mbT)), .val (.lst (ws.map .str)), .val (.lst (gl.map .str))] = some (.val (.bl true), r) := fun gl hgl => by
    simp only [List.mem_cons, List.not_mem_nil, or_false] at hgl
    rcases hgl with rfl | rfl
    · exact scope_holds hm hml hs hw hwl hmw hb hbl hbm (hss nm hn) hss (by omega) (fun n h => hss n (g1 n h)) l1
    · exact scope_holds hm hml hs hw hwl hmw hb hbl hbm (hss nm hn) hss (by omega) (fun n h => hss n (g2 n h)) l2
  obtain ⟨s11', s12', s13', s16', e3⟩ := ho_outer (by simp) hh (s0 := s0) (s1 := s1) (s2 := .own t2) (s5 := s5) (s7 := .no) (s8 := .no) (s10 := .val (.str z)) (s12 := .val (.int ((1 : Nat) : Int))) (s13 := .val (.lst (gl2.map .str))) (s14 := .no) (s15 := s15b) (s16 := s16)
  have r2 : rngT 0 2 = [.int ((0 : Nat) : Int), .int ((1 : Nat) : Int)] := rfl
  have el : loopF (pN 12) (sSeq (sAsg 13 (eLc (iR1 (aC (eCallL F_take [true, false] (aC (eVar 2) (aC (eC (.int 9)) aN))) aN)) (pN 14) bYes (eCallL F_of [true, false] (aC (eVar 2) (aC (eVar 3) aN))) [14]))
  (sSeq (sAsg 13 (eIf (bE (e2 (fEq false) (eCallL F_take [true, false] (aC (eVar 2) (aC (eC (.int 2)) aN))) (eC (.int 0)))) (e2 fCat (eVar 13) (eVar 6)) (eVar 13)))
  (sSeq (sAsg 15 (eB fLst (aC (eVar 13) aN)))
  (sSeq (sDrop (eMut "list" gAppend 11 (aC (eTup (aC (eMakeL 5 F_Scope_init [false, true] (aC (eVar 9) (aC (eIf (bE (e2 (fEq false) (eVar 12) (eC (.int 0)))) (eVar 15) (eB fTupl (aC (eVar 15) aN))) aN))) (aC (eVar 13) aN))) aN)))
  (sDrop (eMut "list" gExtend 15 (aC (eVar 3) aN))))))) (rngT 0 2) [s0, s1, .own t, s3, .val (.lst (ms.map mbT)), s5, .val (.lst (ws.map .str)), .no, .no, .val (edT nm ws bs), .val (.str z), .own (.lst []), s12, s13, .no, s15, s16] = .nx [s0, s1, .own t2, .val (.lst (ss.map .str)), .val (.lst (ms.map mbT)), s5, .val (.lst (ws.map .str)), .no, .no, .val (edT nm ws bs), .val (.str z), .own (.lst ([gl1, gl2].map (entT (edT nm ws bs)))), .val (.int ((1 : Nat) : Int)), .val (.lst (gl2.map .str)), .no, s15b, s16] := by
    have p0 : ∀ (x : T) (a b c d e f g h i j k l m n o p q : Sl), pN 12 x [a, b, c, d, e, f, g, h, i, j, k, l, m, n, o, p, q] = some [a, b, c, d, e, f, g, h, i, j, k, l, .val x, n, o, p, q] := fun _ _ _ _ _ _ _ _ _ _ _ _ _ _ _ _ _ _ => rfl
    rw [List.nil_append] at e1
    rw [r2, loopF, p0]
    dsimp only
    rw [e1]
    dsimp only
    rw [loopF, p0]
    dsimp only
    rw [e2']
    rfl
  have hsz : (rngT 0 2).length < 16777216 := by rw [rngT_len]; decide
  have k2 : (2 : Int).toNat = 2 := rfl
  have mt : M_text_4 4 = F_Edition_text := rfl
  have n1 : List.lookup (Str.ofString "text") (edF nm ws bs) = none := rfl
  have dz : decide (z = z) = true := by simp
  clear hh hm hs hws hmw hb hss hw hn b1 b2 g1 g2 ht e1 e2' r2 h3 hbm
  unfold tailB
  unfold edT at *
  generalize ((sSeq (sAsg 13 (eLc (iR1 (aC (eCallL F_take [true, false] (aC (eVar 2) (aC (eC (.int 9)) aN))) aN)) (pN 14) bYes (eCallL F_of [true, false] (aC (eVar 2) (aC (eVar 3) aN))) [14]))
  (sSeq (sAsg 13 (eIf (bE (e2 (fEq false) (eCallL F_take [true, false] (aC (eVar 2) (aC (eC (.int 2)) aN))) (eC (.int 0)))) (e2 fCat (eVar 13) (eVar 6)) (eVar 13)))
  (sSeq (sAsg 15 (eB fLst (aC (eVar 13) aN)))
  (sSeq (sDrop (eMut "list" gAppend 11 (aC (eTup (aC (eMakeL 5 F_Scope_init [false, true] (aC (eVar 9) (aC (eIf (bE (e2 (fEq false) (eVar 12) (eC (.int 0)))) (eVar 15) (eB fTupl (aC (eVar 15) aN))) aN))) (aC (eVar 13) aN))) aN)))
  (sDrop (eMut "list" gExtend 15 (aC (eVar 3) aN))))))) : SF) = bd1 at *
  generalize ((sFor (iL (eVar 11)) (pT 2 (pCons (pN 16) (pCons (pN 13) pNil)))
  (sIf (bNot (bE (eCall F_holds (aC (eVar 16) (aC (eVar 9) (aC (eVar 3) (aC (eVar 4) (aC (eVar 6) (aC (eVar 13) aN)))))))))
  (sRet (eC (.bl false)))
  sNext)) : SF) = bd2 at *
  generalize [gl1, gl2].map (entT (.obj 4 (edF nm ws bs))) = ents at *
  generalize edF nm ws bs = ef at *
  generalize ms.map mbT = ml at *
  generalize ws.map T.str = wl at *
  generalize ss.map T.str = sl at *
  walk_at "eva"
  exact ⟨_, _, _, _, _, _, _, _, _, _, _, _, rfl⟩
theorem sep_swap {xs ys : List Mb} (h : Sep (xs ++ ys)) : Sep (ys ++ xs) := by
  obtain ⟨a, b, c⟩ := List.pairwise_append.mp h
  exact List.pairwise_append.mpr ⟨b, a, fun y hy x hx n t ⟨p, q⟩ => c x hx y hy n t ⟨q, p⟩⟩
theorem cut_hi {α : Type} {f : α → T} {l : List α} {k : Int} (h0 : 0 ≤ k) (h : k ≤ l.length) : cutT (l.map f) none (some k) = (l.take k.toNat).map f := by
  obtain ⟨n, rfl⟩ : ∃ n : Nat, k = (n : Int) := ⟨k.toNat, by omega⟩
  unfold cutT
  rw [HT.sIx_nat, HT.sIx_none, List.length_map, Nat.min_eq_left (by omega)]
  simp [List.map_take]
theorem cut_lo {α : Type} {f : α → T} {l : List α} {k : Int} (h0 : 0 ≤ k) (h : k ≤ l.length) : cutT (l.map f) (some k) none = (l.drop k.toNat).map f := by
  obtain ⟨n, rfl⟩ : ∃ n : Nat, k = (n : Int) := ⟨k.toNat, by omega⟩
  unfold cutT
  rw [HT.sIx_nat, HT.sIx_none, List.length_map, Nat.min_eq_left (by omega), List.take_of_length_le (by simp)]
  simp [List.map_drop]
theorem law_turn {ns : List Int} {i : Nat} {s2 s3 s4 s5 s6 s9 s10 s11 s12 s13 s15 s16 : Sl} : ∃ s2' s3' s4' s5' s6' s9' s10' s11' s12' s13' s15' s16', (sSeq (sAsg 2 (eCall F_bag (aC (eVar 0) (aC (eVar 1) aN))))
  (sSeq (sAsg 3 (eCallL F_names [true, false] (aC (eVar 2) (aC (eC (.int 8)) aN))))
  (sSeq (sAsg 4 (eCallL F_members [true, false] (aC (eVar 2) (aC (eSl fSlL (eVar 3) oNo (oSome (e2 fAdd (eC (.int 1)) (eCallL F_take [true, false] (aC (eVar 2) (aC (eC (.int 5)) aN)))))) aN))))
  (sSeq (sAsg 5 (eCallL F_take [true, false] (aC (eVar 2) (aC (e2 fAdd (eB fLen (aC (eVar 4) aN)) (eC (.int 1))) aN))))
  (sSeq (sAsg 4 (e2 fCat (eSl fSlL (eVar 4) (oSome (eVar 5)) oNo) (eSl fSlL (eVar 4) oNo (oSome (eVar 5)))))
  (sSeq (sAsg 6 (eSl fSlL (eLc (iL (eSl fSlL (eVar 3) (oSome (eC (.int 4))) (oSome (eC (.int 7))))) (pN 7) (bE (e2 (fIn true) (eVar 7) (eLcX false 4 (pN 8) bYes (e2 fIxT (eVar 8) (eC (.int 0))) [8]))) (eVar 7) [7]) oNo (oSome (eCallL F_take [true, false] (aC (eVar 2) (aC (eC (.int 3)) aN))))))
  (sSeq (sAsg 9 (eCallL F_ledition [true, false, false, false, false] (aC (eVar 2) (aC (e2 fIxL (eVar 3) (eC (.int 0))) (aC (eVar 4) (aC (eVar 6) (aC (eLst aN) aN)))))))
  (sSeq (sPar [10, 11] (aC (eDyn "text" M_text_4 (eVar 9)) (aC (eLst aN) aN)))
  (sSeq (sFor (iR1 (aC (eC (.int 2)) aN)) (pN 12)
  (sSeq (sAsg 13 (eLc (iR1 (aC (eCallL F_take [true, false] (aC (eVar 2) (aC (eC (.int 9)) aN))) aN)) (pN 14) bYes (eCallL F_of [true, false] (aC (eVar 2) (aC (eVar 3) aN))) [14]))
  (sSeq (sAsg 13 (eIf (bE (e2 (fEq false) (eCallL F_take [true, false] (aC (eVar 2) (aC (eC (.int 2)) aN))) (eC (.int 0)))) (e2 fCat (eVar 13) (eVar 6)) (eVar 13)))
  (sSeq (sAsg 15 (eB fLst (aC (eVar 13) aN)))
  (sSeq (sDrop (eMut "list" gAppend 11 (aC (eTup (aC (eMakeL 5 F_Scope_init [false, true] (aC (eVar 9) (aC (eIf (bE (e2 (fEq false) (eVar 12) (eC (.int 0)))) (eVar 15) (eB fTupl (aC (eVar 15) aN))) aN))) (aC (eVar 13) aN))) aN)))
  (sDrop (eMut "list" gExtend 15 (aC (eVar 3) aN))))))))
  (sSeq (sFor (iR1 (aC (eC (.int 2)) aN)) (pN 12)
  (sFor (iL (eVar 11)) (pT 2 (pCons (pN 16) (pCons (pN 13) pNil)))
  (sIf (bNot (bE (eCall F_holds (aC (eVar 16) (aC (eVar 9) (aC (eVar 3) (aC (eVar 4) (aC (eVar 6) (aC (eVar 13) aN)))))))))
  (sRet (eC (.bl false)))
  sNext)))
  (sIf (bE (e2 (fEq true) (eDyn "text" M_text_4 (eVar 9)) (eVar 10)))
  (sRet (eC (.bl false)))
  sNext))))))))))) [.val (.lst (ns.map .int)), .val (.int (i : Int)), s2, s3, s4, s5, s6, .no, .no, s9, s10, s11, s12, s13, .no, s15, s16] = .nx [.val (.lst (ns.map .int)), .val (.int (i : Int)), s2', s3', s4', s5', s6', .no, .no, s9', s10', s11', s12', s13', .no, s15', s16'] := by
  obtain ⟨t0, r0, e0, b0⟩ := bag_ok (ns := ns) (at_ := (i : Int)) (by omega)
  obtain ⟨ss, t1, y1, r1, e1, hl, hn, hd, b1⟩ := names_ok b0
  obtain ⟨d, t2, r2, q2, d0, d1, b2⟩ := take_ok (m := 5) b1 (by decide) (by decide)
  have c1 := cut_hi (f := T.str) (l := ss) (k := 1 + d) (by omega) (by omega)
  obtain ⟨ms, t3, y3, r3, q3, b3, hm, hs, hml⟩ := members_ok (ns := ss.take (1 + d).toNat) b2 (fun s h => hn s (List.mem_of_mem_take h)) (hd.sublist (List.take_sublist _ _))
  obtain ⟨j, t4, r4, q4, j0, j1, b4⟩ := take_ok (m := ((ms.map mbT).length : Int) + 1) b3 (by omega) (by rw [List.length_map]; omega)
  rw [List.length_map] at j1
  have c2 := cut_lo (f := mbT) (l := ms) (k := j) j0 (by omega)
  have c3 := cut_hi (f := mbT) (l := ms) (k := j) j0 (by omega)
  have hc := fCat_l (xs := (ms.drop j.toNat).map mbT) (ys := (ms.take j.toNat).map mbT) (by simp only [List.length_map, List.length_drop, List.length_take]; omega)
  rw [← List.map_append] at hc
  obtain ⟨us, hus⟩ : ∃ us, us = ms.drop j.toNat ++ ms.take j.toNat := ⟨_, rfl⟩
  have hum : ∀ m ∈ us, Mok m := fun m h => by
    rw [hus] at h
    rcases List.mem_append.mp h with h | h
    · exact (hm m (List.mem_of_mem_drop h)).1
    · exact (hm m (List.mem_of_mem_take h)).1
  have hul : us.length ≤ 4 := by rw [hus]; simp only [List.length_append, List.length_drop, List.length_take]; omega
  have hu : Sep us := by
    rw [hus]
    refine sep_swap ?_
    rw [List.take_append_drop]
    exact hs
  rw [← hus] at hc
  obtain ⟨zs, ez, zl, zm⟩ := cut_map (f := T.str) (l := ss) (lo := some 4) (hi := some 7)
  have wc := wants_comp hul (zs := zs) (s0 := .val (.lst (ns.map .int))) (s1 := .val (.int (i : Int))) (s2 := .own t4) (s3 := .own (.lst (ss.map .str))) (s5 := .val (.int j)) (s6 := s6) (s9 := s9) (s10 := s10) (s11 := s11) (s12 := s12) (s13 := s13) (s14 := .no) (s15 := s15) (s16 := s16)
  obtain ⟨v, t5, r5, q5, v0, v1, b5⟩ := take_ok (m := 3) b4 (by decide) (by decide)
  obtain ⟨fs, hfs⟩ : ∃ fs, fs = zs.filter fun z => !decide (z ∈ us.map (·.n)) := ⟨_, rfl⟩
  rw [← hfs] at wc
  obtain ⟨ws, ew, wl, wm⟩ := cut_map (f := T.str) (l := fs) (lo := none) (hi := some v)
  have hws : ∀ w ∈ ws, w ∈ ss := fun w h => by
    have := wm w h
    rw [hfs] at this
    exact zm w (List.mem_filter.mp this).1
  have hmw : ∀ m ∈ us, m.n ∉ ws := fun m h h2 => by
    have := wm _ h2
    rw [hfs] at this
    have := (List.mem_filter.mp this).2
    simp at this
    exact this m h rfl
  have hwl : ws.length ≤ 3 := by
    have hk := congrArg List.length ew
    rw [List.length_map] at hk
    rw [← hk]
    unfold cutT
    obtain ⟨n, rfl⟩ : ∃ n : Nat, v = (n : Int) := ⟨v.toNat, by omega⟩
    rw [HT.sIx_nat, HT.sIx_none]
    simp only [List.length_take, List.length_drop]
    omega
  obtain ⟨n0, hn0⟩ : ∃ n0, ss[0]? = some n0 := ⟨_, List.getElem?_eq_getElem (by omega)⟩
  have hn0m : n0 ∈ ss := List.mem_of_getElem? hn0
  have ix : fIxL [.lst (ss.map T.str), .int 0] = some (.val (.str n0)) := fIxL_n (by decide) (by rw [List.getElem?_map]; show Option.map T.str ss[0]? = _; rw [hn0]; rfl)
  obtain ⟨bs, t6, r6, q6, b6, hbm, hbl, hb⟩ := edition_ok (nm := n0) b5 hum hul (fun w h => hn w (hws w h)) hwl
  obtain ⟨s2', s3', s4', s5', s6', s9', s10', s11', s12', s13', s15', s16', et⟩ := tail_ok hum hul hu hws hwl hmw hb hbl hbm hn0m hn (by omega) (by omega) b6 (s0 := .val (.lst (ns.map .int))) (s1 := .val (.int (i : Int))) (s5 := .val (.int j)) (s10 := s10) (s11 := s11) (s12 := s12) (s13 := s13) (s15 := s15) (s16 := s16) (s3 := .own (.lst (ss.map .str))) (.inl rfl)
  refine ⟨s2', s3', s4', s5', s6', s9', s10', s11', s12', s13', s15', s16', ?_⟩
  rw [← et]
  have hz1 : (ss.map T.str).length < 16777216 := by rw [List.length_map]; omega
  have hz2 : (us.map mbT).length < 16777216 := by rw [List.length_map]; omega
  have hz3 : (ms.map mbT).length < 16777216 := by rw [List.length_map]; omega
  have hz4 : (zs.map T.str).length < 16777216 := by rw [List.length_map]; omega
  have hz5 : (fs.map T.str).length < 16777216 := by
    have := List.length_filter_le (fun z => !decide (z ∈ us.map (·.n))) zs
    rw [List.length_map, hfs]; omega
  clear et hum hul hu hws hwl hmw hb hbl hbm hn0m hn hd hm hs hml b0 b1 b2 b3 b4 b5 b6 hus hfs wm zm zl wl hn0
  unfold tailB
  generalize ((sSeq (sPar [10, 11] (aC (eDyn "text" M_text_4 (eVar 9)) (aC (eLst aN) aN)))
  (sSeq (sFor (iR1 (aC (eC (.int 2)) aN)) (pN 12)
  (sSeq (sAsg 13 (eLc (iR1 (aC (eCallL F_take [true, false] (aC (eVar 2) (aC (eC (.int 9)) aN))) aN)) (pN 14) bYes (eCallL F_of [true, false] (aC (eVar 2) (aC (eVar 3) aN))) [14]))
  (sSeq (sAsg 13 (eIf (bE (e2 (fEq false) (eCallL F_take [true, false] (aC (eVar 2) (aC (eC (.int 2)) aN))) (eC (.int 0)))) (e2 fCat (eVar 13) (eVar 6)) (eVar 13)))
  (sSeq (sAsg 15 (eB fLst (aC (eVar 13) aN)))
  (sSeq (sDrop (eMut "list" gAppend 11 (aC (eTup (aC (eMakeL 5 F_Scope_init [false, true] (aC (eVar 9) (aC (eIf (bE (e2 (fEq false) (eVar 12) (eC (.int 0)))) (eVar 15) (eB fTupl (aC (eVar 15) aN))) aN))) (aC (eVar 13) aN))) aN)))
  (sDrop (eMut "list" gExtend 15 (aC (eVar 3) aN))))))))
  (sSeq (sFor (iR1 (aC (eC (.int 2)) aN)) (pN 12)
  (sFor (iL (eVar 11)) (pT 2 (pCons (pN 16) (pCons (pN 13) pNil)))
  (sIf (bNot (bE (eCall F_holds (aC (eVar 16) (aC (eVar 9) (aC (eVar 3) (aC (eVar 4) (aC (eVar 6) (aC (eVar 13) aN)))))))))
  (sRet (eC (.bl false)))
  sNext)))
  (sIf (bE (e2 (fEq true) (eDyn "text" M_text_4 (eVar 9)) (eVar 10)))
  (sRet (eC (.bl false)))
  sNext)))) : SF) = tl
  generalize edT n0 ws bs = ed at *
  generalize (ss.take (1 + d).toNat).map T.str = l1 at *
  generalize (ms.drop j.toNat).map mbT = l2 at *
  generalize (ms.take j.toNat).map mbT = l3 at *
  generalize us.map mbT = l4 at *
  generalize ms.map mbT = l5 at *
  generalize ss.map T.str = l6 at *
  generalize zs.map T.str = l7 at *
  generalize fs.map T.str = l8 at *
  generalize ws.map T.str = l9 at *
  walk_at "eva"
theorem law_ok (ns : List Int) : ∃ rest, F_law [.val (.lst (ns.map .int))] = some (.val (.bl true), rest) := by
  have hr : -4611686018427387904 ≤ (if (if ((ns.map T.int).length : Int) < 3 then ((ns.map T.int).length : Int) else 3) > 1 then (if ((ns.map T.int).length : Int) < 3 then ((ns.map T.int).length : Int) else 3) else 1) ∧ (if (if ((ns.map T.int).length : Int) < 3 then ((ns.map T.int).length : Int) else 3) > 1 then (if ((ns.map T.int).length : Int) < 3 then ((ns.map T.int).length : Int) else 3) else 1) < 4611686018427387904 := ⟨by (repeat' split) <;> omega, by (repeat' split) <;> omega⟩
  obtain ⟨ρ', e, s1, s2, s3, s4, s5, s6, s9, s10, s11, s12, s13, s15, s16, rfl⟩ := loop_inv (s := pN 1) (b := (sSeq (sAsg 2 (eCall F_bag (aC (eVar 0) (aC (eVar 1) aN))))
  (sSeq (sAsg 3 (eCallL F_names [true, false] (aC (eVar 2) (aC (eC (.int 8)) aN))))
  (sSeq (sAsg 4 (eCallL F_members [true, false] (aC (eVar 2) (aC (eSl fSlL (eVar 3) oNo (oSome (e2 fAdd (eC (.int 1)) (eCallL F_take [true, false] (aC (eVar 2) (aC (eC (.int 5)) aN)))))) aN))))
  (sSeq (sAsg 5 (eCallL F_take [true, false] (aC (eVar 2) (aC (e2 fAdd (eB fLen (aC (eVar 4) aN)) (eC (.int 1))) aN))))
  (sSeq (sAsg 4 (e2 fCat (eSl fSlL (eVar 4) (oSome (eVar 5)) oNo) (eSl fSlL (eVar 4) oNo (oSome (eVar 5)))))
  (sSeq (sAsg 6 (eSl fSlL (eLc (iL (eSl fSlL (eVar 3) (oSome (eC (.int 4))) (oSome (eC (.int 7))))) (pN 7) (bE (e2 (fIn true) (eVar 7) (eLcX false 4 (pN 8) bYes (e2 fIxT (eVar 8) (eC (.int 0))) [8]))) (eVar 7) [7]) oNo (oSome (eCallL F_take [true, false] (aC (eVar 2) (aC (eC (.int 3)) aN))))))
  (sSeq (sAsg 9 (eCallL F_ledition [true, false, false, false, false] (aC (eVar 2) (aC (e2 fIxL (eVar 3) (eC (.int 0))) (aC (eVar 4) (aC (eVar 6) (aC (eLst aN) aN)))))))
  (sSeq (sPar [10, 11] (aC (eDyn "text" M_text_4 (eVar 9)) (aC (eLst aN) aN)))
  (sSeq (sFor (iR1 (aC (eC (.int 2)) aN)) (pN 12)
  (sSeq (sAsg 13 (eLc (iR1 (aC (eCallL F_take [true, false] (aC (eVar 2) (aC (eC (.int 9)) aN))) aN)) (pN 14) bYes (eCallL F_of [true, false] (aC (eVar 2) (aC (eVar 3) aN))) [14]))
  (sSeq (sAsg 13 (eIf (bE (e2 (fEq false) (eCallL F_take [true, false] (aC (eVar 2) (aC (eC (.int 2)) aN))) (eC (.int 0)))) (e2 fCat (eVar 13) (eVar 6)) (eVar 13)))
  (sSeq (sAsg 15 (eB fLst (aC (eVar 13) aN)))
  (sSeq (sDrop (eMut "list" gAppend 11 (aC (eTup (aC (eMakeL 5 F_Scope_init [false, true] (aC (eVar 9) (aC (eIf (bE (e2 (fEq false) (eVar 12) (eC (.int 0)))) (eVar 15) (eB fTupl (aC (eVar 15) aN))) aN))) (aC (eVar 13) aN))) aN)))
  (sDrop (eMut "list" gExtend 15 (aC (eVar 3) aN))))))))
  (sSeq (sFor (iR1 (aC (eC (.int 2)) aN)) (pN 12)
  (sFor (iL (eVar 11)) (pT 2 (pCons (pN 16) (pCons (pN 13) pNil)))
  (sIf (bNot (bE (eCall F_holds (aC (eVar 16) (aC (eVar 9) (aC (eVar 3) (aC (eVar 4) (aC (eVar 6) (aC (eVar 13) aN)))))))))
  (sRet (eC (.bl false)))
  sNext)))
  (sIf (bE (e2 (fEq true) (eDyn "text" M_text_4 (eVar 9)) (eVar 10)))
  (sRet (eC (.bl false)))
  sNext)))))))))))) (fun ρ => ∃ s1 s2 s3 s4 s5 s6 s9 s10 s11 s12 s13 s15 s16 : Sl, ρ = [.val (.lst (ns.map .int)), s1, s2, s3, s4, s5, s6, .no, .no, s9, s10, s11, s12, s13, .no, s15, s16]) (ts := rngT 0 ((if (if ((ns.map T.int).length : Int) < 3 then ((ns.map T.int).length : Int) else 3) > 1 then (if ((ns.map T.int).length : Int) < 3 then ((ns.map T.int).length : Int) else 3) else 1)).toNat) (ρ := .val (.lst (ns.map .int)) :: List.replicate 16 .no) ⟨_, _, _, _, _, _, _, _, _, _, _, _, _, rfl⟩ (fun t ht ρ ⟨s1, s2, s3, s4, s5, s6, s9, s10, s11, s12, s13, s15, s16, h⟩ => by
    obtain ⟨i, _, rfl⟩ := rng_mem ht
    subst h
    obtain ⟨s2', s3', s4', s5', s6', s9', s10', s11', s12', s13', s15', s16', e⟩ := law_turn (ns := ns) (i := i) (s2 := s2) (s3 := s3) (s4 := s4) (s5 := s5) (s6 := s6) (s9 := s9) (s10 := s10) (s11 := s11) (s12 := s12) (s13 := s13) (s15 := s15) (s16 := s16)
    exact ⟨_, _, rfl, e, _, _, _, _, _, _, _, _, _, _, _, _, _, rfl⟩)
  unfold F_law B_law
  generalize ((sSeq (sAsg 2 (eCall F_bag (aC (eVar 0) (aC (eVar 1) aN))))
  (sSeq (sAsg 3 (eCallL F_names [true, false] (aC (eVar 2) (aC (eC (.int 8)) aN))))
  (sSeq (sAsg 4 (eCallL F_members [true, false] (aC (eVar 2) (aC (eSl fSlL (eVar 3) oNo (oSome (e2 fAdd (eC (.int 1)) (eCallL F_take [true, false] (aC (eVar 2) (aC (eC (.int 5)) aN)))))) aN))))
  (sSeq (sAsg 5 (eCallL F_take [true, false] (aC (eVar 2) (aC (e2 fAdd (eB fLen (aC (eVar 4) aN)) (eC (.int 1))) aN))))
  (sSeq (sAsg 4 (e2 fCat (eSl fSlL (eVar 4) (oSome (eVar 5)) oNo) (eSl fSlL (eVar 4) oNo (oSome (eVar 5)))))
  (sSeq (sAsg 6 (eSl fSlL (eLc (iL (eSl fSlL (eVar 3) (oSome (eC (.int 4))) (oSome (eC (.int 7))))) (pN 7) (bE (e2 (fIn true) (eVar 7) (eLcX false 4 (pN 8) bYes (e2 fIxT (eVar 8) (eC (.int 0))) [8]))) (eVar 7) [7]) oNo (oSome (eCallL F_take [true, false] (aC (eVar 2) (aC (eC (.int 3)) aN))))))
  (sSeq (sAsg 9 (eCallL F_ledition [true, false, false, false, false] (aC (eVar 2) (aC (e2 fIxL (eVar 3) (eC (.int 0))) (aC (eVar 4) (aC (eVar 6) (aC (eLst aN) aN)))))))
  (sSeq (sPar [10, 11] (aC (eDyn "text" M_text_4 (eVar 9)) (aC (eLst aN) aN)))
  (sSeq (sFor (iR1 (aC (eC (.int 2)) aN)) (pN 12)
  (sSeq (sAsg 13 (eLc (iR1 (aC (eCallL F_take [true, false] (aC (eVar 2) (aC (eC (.int 9)) aN))) aN)) (pN 14) bYes (eCallL F_of [true, false] (aC (eVar 2) (aC (eVar 3) aN))) [14]))
  (sSeq (sAsg 13 (eIf (bE (e2 (fEq false) (eCallL F_take [true, false] (aC (eVar 2) (aC (eC (.int 2)) aN))) (eC (.int 0)))) (e2 fCat (eVar 13) (eVar 6)) (eVar 13)))
  (sSeq (sAsg 15 (eB fLst (aC (eVar 13) aN)))
  (sSeq (sDrop (eMut "list" gAppend 11 (aC (eTup (aC (eMakeL 5 F_Scope_init [false, true] (aC (eVar 9) (aC (eIf (bE (e2 (fEq false) (eVar 12) (eC (.int 0)))) (eVar 15) (eB fTupl (aC (eVar 15) aN))) aN))) (aC (eVar 13) aN))) aN)))
  (sDrop (eMut "list" gExtend 15 (aC (eVar 3) aN))))))))
  (sSeq (sFor (iR1 (aC (eC (.int 2)) aN)) (pN 12)
  (sFor (iL (eVar 11)) (pT 2 (pCons (pN 16) (pCons (pN 13) pNil)))
  (sIf (bNot (bE (eCall F_holds (aC (eVar 16) (aC (eVar 9) (aC (eVar 3) (aC (eVar 4) (aC (eVar 6) (aC (eVar 13) aN)))))))))
  (sRet (eC (.bl false)))
  sNext)))
  (sIf (bE (e2 (fEq true) (eDyn "text" M_text_4 (eVar 9)) (eVar 10)))
  (sRet (eC (.bl false)))
  sNext))))))))))) : SF) = bd at e ⊢
  simp only [List.replicate_succ, List.replicate_zero] at e
  walk_at "eva"
  exact ⟨_, rfl⟩

end L17

set_option Elab.async false
set_option linter.all false
set_option maxRecDepth 100000
set_option maxHeartbeats 4000000
namespace L17
open PySem PySem.Spec PyProof.Rows L2 QB QT
def lo0 : List PySem.Str := ["_wall", "QuietError", "BadText", "value_text", "Row", "Tell", "Put", "Same", "There", "Call", "End", "LETTERS", "DIGITS", "has_only", "is_name", "is_numeral", "is_tag", "place_parts", "read_value", "any_value", "EDITION_VALUES", "ACCESSES", "split_lines", "need_words", "check_head", "need_count", "need_name", "need_number", "need_tag", "need_value"]
def lo1 : List PySem.Str := ["place_kinds", "read_row", "check_skip", "is_cyclic_from", "ORDER", "read_cell", "read_first", "read_routine", "read_line", "read_lines", "MOST", "MOST_PLACES", "MOST_ROWS", "MOST_WORK", "Lines", "need", "check_many", "check_routine", "check_declaration", "check_row", "check_lines", "block_heads", "called_heads", "needed_heads", "check_rings", "work_of", "check_work", "First", "Member", "Edition"]
def lo2 : List PySem.Str := ["make_blocks", "rows_behind", "landed", "head_of", "Scope", "_law_bag", "_law_take", "_law_of", "_law_names", "_law_family", "_law_members", "_law_takes", "_law_rows", "_law_edition", "_law_due", "_law_landed", "_law_targets", "_law_holds"]
def loose : List PySem.Str := lo0 ++ lo1 ++ lo2
def cn : List Str := ["Tell", "Call", "First", "Member", "Edition", "Scope"]
def flds : List Str := [("value" : Str), "name", "tag", "after", "rows", "access", "is_default", "numbers", "cells", "wants", "blocks", "firsts", "members", "edition", "given"]
def frees : List Str := ["abs", "dict", "enumerate", "int", "isinstance", "len", "list", "max", "min", "range", "repr", "set", "sorted", "str", "tuple"]
def gfn : List Str := ["value_text", "_law_bag", "_law_take", "_law_takes", "_law_due", "_law_landed", "_law_of", "landed", "head_of", "_law_names", "_law_family", "_law_rows", "_law_targets", "_law_members", "_law_edition", "_law_holds", "law"]
def mfn : List (Str × Str) := [("First", "head"), ("Member", "head"), ("Edition", "member"), ("Tell", "text"), ("Call", "text"), ("Edition", "visible"), ("Scope", "why"), ("Edition", "text"), ("Scope", "reach"), ("Scope", "targets"), ("Edition", "__eq__"), ("Scope", "entered")]
def ifn : List Str := ["Tell", "Call", "First", "Member", "Scope", "Edition"]
def exB (K : PySem.W.Frag) : Bool := QH.topB cn flds frees sub K && ((gfn.all fun x => (He.Fa.glo x).ok K) && ((mfn.all fun p => (He.Fa.meth p.1 p.2).ok K) && ifn.all fun x => (He.Fa.mkr x).ok K))
def dd_value_text : He.DefD := ⟨("value_text", none), "value_text", "value_text", C8.fnArgs s_value_text, C8.fnBody s_value_text, C8.fnScope s_value_text, [], []⟩
def dd_Tell_init : He.DefD := ⟨("Tell", some "__init__"), "__init__", "Tell.__init__", C8.fnArgs s_Tell_init, C8.fnBody s_Tell_init, C8.fnScope s_Tell_init, [], []⟩
def dd_Call_init : He.DefD := ⟨("Call", some "__init__"), "__init__", "Call.__init__", C8.fnArgs s_Call_init, C8.fnBody s_Call_init, C8.fnScope s_Call_init, [.int 0], []⟩
def dd_First_init : He.DefD := ⟨("First", some "__init__"), "__init__", "First.__init__", C8.fnArgs s_First_init, C8.fnBody s_First_init, C8.fnScope s_First_init, [], []⟩
def dd_First_head : He.DefD := ⟨("First", some "head"), "head", "First.head", C8.fnArgs s_First_head, C8.fnBody s_First_head, C8.fnScope s_First_head, [], []⟩
def dd_Member_init : He.DefD := ⟨("Member", some "__init__"), "__init__", "Member.__init__", C8.fnArgs s_Member_init, C8.fnBody s_Member_init, C8.fnScope s_Member_init, [], []⟩
def dd_Member_head : He.DefD := ⟨("Member", some "head"), "head", "Member.head", C8.fnArgs s_Member_head, C8.fnBody s_Member_head, C8.fnScope s_Member_head, [], []⟩
def dd_Edition_member : He.DefD := ⟨("Edition", some "member"), "member", "Edition.member", C8.fnArgs s_Edition_member, C8.fnBody s_Edition_member, C8.fnScope s_Edition_member, [.int 0], []⟩
def dd_Scope_init : He.DefD := ⟨("Scope", some "__init__"), "__init__", "Scope.__init__", C8.fnArgs s_Scope_init, C8.fnBody s_Scope_init, C8.fnScope s_Scope_init, [], []⟩
def dd_bag : He.DefD := ⟨("_law_bag", none), "_law_bag", "_law_bag", C8.fnArgs s_bag, C8.fnBody s_bag, C8.fnScope s_bag, [], []⟩
def dd_take : He.DefD := ⟨("_law_take", none), "_law_take", "_law_take", C8.fnArgs s_take, C8.fnBody s_take, C8.fnScope s_take, [], []⟩
def dd_takes : He.DefD := ⟨("_law_takes", none), "_law_takes", "_law_takes", C8.fnArgs s_takes, C8.fnBody s_takes, C8.fnScope s_takes, [], []⟩
def dd_due : He.DefD := ⟨("_law_due", none), "_law_due", "_law_due", C8.fnArgs s_due, C8.fnBody s_due, C8.fnScope s_due, [], []⟩
def dd_llanded : He.DefD := ⟨("_law_landed", none), "_law_landed", "_law_landed", C8.fnArgs s_llanded, C8.fnBody s_llanded, C8.fnScope s_llanded, [], []⟩
def dd_Tell_text : He.DefD := ⟨("Tell", some "text"), "text", "Tell.text", C8.fnArgs s_Tell_text, C8.fnBody s_Tell_text, C8.fnScope s_Tell_text, [], []⟩
def dd_Call_text : He.DefD := ⟨("Call", some "text"), "text", "Call.text", C8.fnArgs s_Call_text, C8.fnBody s_Call_text, C8.fnScope s_Call_text, [], []⟩
def dd_Edition_visible : He.DefD := ⟨("Edition", some "visible"), "visible", "Edition.visible", C8.fnArgs s_Edition_visible, C8.fnBody s_Edition_visible, C8.fnScope s_Edition_visible, [.int 0], []⟩
def dd_Scope_why : He.DefD := ⟨("Scope", some "why"), "why", "Scope.why", C8.fnArgs s_Scope_why, C8.fnBody s_Scope_why, C8.fnScope s_Scope_why, [.int 0], []⟩
def dd_of : He.DefD := ⟨("_law_of", none), "_law_of", "_law_of", C8.fnArgs s_of, C8.fnBody s_of, C8.fnScope s_of, [], []⟩
def dd_Edition_init : He.DefD := ⟨("Edition", some "__init__"), "__init__", "Edition.__init__", C8.fnArgs s_Edition_init, C8.fnBody s_Edition_init, C8.fnScope s_Edition_init, [], []⟩
def dd_Edition_text : He.DefD := ⟨("Edition", some "text"), "text", "Edition.text", C8.fnArgs s_Edition_text, C8.fnBody s_Edition_text, C8.fnScope s_Edition_text, [], []⟩
def dd_landed : He.DefD := ⟨("landed", none), "landed", "landed", C8.fnArgs s_landed, C8.fnBody s_landed, C8.fnScope s_landed, [], []⟩
def dd_head_of : He.DefD := ⟨("head_of", none), "head_of", "head_of", C8.fnArgs s_head_of, C8.fnBody s_head_of, C8.fnScope s_head_of, [], []⟩
def dd_Scope_reach : He.DefD := ⟨("Scope", some "reach"), "reach", "Scope.reach", C8.fnArgs s_Scope_reach, C8.fnBody s_Scope_reach, C8.fnScope s_Scope_reach, [.int 0], []⟩
def dd_names : He.DefD := ⟨("_law_names", none), "_law_names", "_law_names", C8.fnArgs s_names, C8.fnBody s_names, C8.fnScope s_names, [], []⟩
def dd_family : He.DefD := ⟨("_law_family", none), "_law_family", "_law_family", C8.fnArgs s_family, C8.fnBody s_family, C8.fnScope s_family, [], []⟩
def dd_rows : He.DefD := ⟨("_law_rows", none), "_law_rows", "_law_rows", C8.fnArgs s_rows, C8.fnBody s_rows, C8.fnScope s_rows, [], []⟩
def dd_ltargets : He.DefD := ⟨("_law_targets", none), "_law_targets", "_law_targets", C8.fnArgs s_ltargets, C8.fnBody s_ltargets, C8.fnScope s_ltargets, [], []⟩
def dd_Scope_targets : He.DefD := ⟨("Scope", some "targets"), "targets", "Scope.targets", C8.fnArgs s_Scope_targets, C8.fnBody s_Scope_targets, C8.fnScope s_Scope_targets, [], []⟩
def dd_members : He.DefD := ⟨("_law_members", none), "_law_members", "_law_members", C8.fnArgs s_members, C8.fnBody s_members, C8.fnScope s_members, [], []⟩
def dd_Edition_eq : He.DefD := ⟨("Edition", some "__eq__"), "__eq__", "Edition.__eq__", C8.fnArgs s_Edition_eq, C8.fnBody s_Edition_eq, C8.fnScope s_Edition_eq, [], []⟩
def dd_Scope_entered : He.DefD := ⟨("Scope", some "entered"), "entered", "Scope.entered", C8.fnArgs s_Scope_entered, C8.fnBody s_Scope_entered, C8.fnScope s_Scope_entered, [], []⟩
def dd_ledition : He.DefD := ⟨("_law_edition", none), "_law_edition", "_law_edition", C8.fnArgs s_ledition, C8.fnBody s_ledition, C8.fnScope s_ledition, [], []⟩
def dd_holds : He.DefD := ⟨("_law_holds", none), "_law_holds", "_law_holds", C8.fnArgs s_holds, C8.fnBody s_holds, C8.fnScope s_holds, [], []⟩
def dd_law : He.DefD := ⟨("law", none), "law", "law", C8.fnArgs s_law, C8.fnBody s_law, C8.fnScope s_law, [], []⟩
def fns : List He.DefD := [dd_value_text, dd_Tell_init, dd_Call_init, dd_First_init, dd_First_head, dd_Member_init, dd_Member_head, dd_Edition_member, dd_Scope_init, dd_bag, dd_take, dd_takes, dd_due, dd_llanded, dd_Tell_text, dd_Call_text, dd_Edition_visible, dd_Scope_why, dd_of, dd_Edition_init, dd_Edition_text, dd_landed, dd_head_of, dd_Scope_reach, dd_names, dd_family, dd_rows, dd_ltargets, dd_Scope_targets, dd_members, dd_Edition_eq, dd_Scope_entered, dd_ledition, dd_holds, dd_law]
def rootN : List Str := ["Tell", "Call", "First", "Member", "Edition", "Scope", "value_text", "_law_bag", "_law_take", "_law_takes", "_law_due", "_law_landed", "_law_of", "landed", "head_of", "_law_names", "_law_family", "_law_rows", "_law_targets", "_law_members", "_law_edition", "_law_holds", "law"]
abbrev Rr : PySem.W.OpenRow := PySem.W.OpenLaw.row PySem.Challenge.rw_quietedition_k17_calls_of_editions
abbrev hk : PySem.W.Hook := QH.hookB 4 rootN exB fns
def ob (s : PySem.W.SharedT) : QH.AlB := QH.obsBG 4 rootN exB fns (HandSHeadRun.getT s)
theorem ob_eq (s : PySem.W.SharedT) : ob s = hk.obs s.abs := QH.obsBG_eq (HandSHeadRun.getT_eq s)
theorem run_false (w : World) : HandSHeadRun.RunEq Rr (PySem.W.view Rr.prog [87]) hk ob 20000 loose (w.withFollow "special-get-raises" false) := by
  intro os
  kernel_rfl
theorem run_true (w : World) : HandSHeadRun.RunEq Rr (PySem.W.view Rr.prog [87]) hk ob 20000 loose (w.withFollow "special-get-raises" true) := by
  intro os
  kernel_rfl
theorem run (w : World) : HandSHeadRun.RunEq Rr (PySem.W.view Rr.prog [87]) hk ob 20000 loose w := PySem.W.byRow2 "special-get-raises" (P := fun w => HandSHeadRun.RunEq Rr (PySem.W.view Rr.prog [87]) hk ob 20000 loose w) run_false run_true w
theorem top_mk {K : PySem.W.Frag} {h : Heap} {mg : Str → Option Value} (X : K.In h) (G : h.Ns mainGlobals mg) (c : QH.SaysB exB fns K) : ∃ A, Top K mg A := by
  obtain ⟨t, e⟩ := He.ba c.exK
  obtain ⟨eg, e⟩ := He.ba e
  obtain ⟨em, ei⟩ := He.ba e
  obtain ⟨f_value_text, F_value_text⟩ := c.def_ 0 (d := dd_value_text) rfl
  have h_value_text : Dd K mg "value_text" s_value_text ["value"] := QH.dd_of F_value_text (He.glo_ok X G (List.all_eq_true.mp eg "value_text" (by decide +kernel))) (fun _ _ _ _ _ _ us hl => match us, hl with | [_], _ => rfl)
  obtain ⟨f_Tell_init, F_Tell_init⟩ := c.def_ 1 (d := dd_Tell_init) rfl
  obtain ⟨ds0_Tell_init, q1, q2, q3⟩ : ∃ ds, C8.Fun K "__init__" "Tell.__init__" s_Tell_init (He.fAd K dd_Tell_init.at_) f_Tell_init ∧ Binds K f_Tell_init ["self", "value"] ds ∧ Vals [] ds := ⟨[], QH.fun_of F_Tell_init, L2.FunD.bindsN F_Tell_init (fun _ _ _ _ _ _ us hl => match us, hl with | [_, _], _ => rfl), .nil⟩
  have h_Tell1 : Mi K mg "Tell" (QH.Acl cn K 0) "Tell.__init__" s_Tell_init ["self", "value"] [] := ⟨_, f_Tell_init, ds0_Tell_init, He.mkr_ok (x := "Tell") (List.all_eq_true.mp ei "Tell" (by decide +kernel)), QH.glo_of t X G 0, q1, q2, q3⟩
  obtain ⟨f_Call_init, F_Call_init⟩ := c.def_ 2 (d := dd_Call_init) rfl
  obtain ⟨ds0_Call_init, q1, q2, q3⟩ : ∃ ds, C8.Fun K "__init__" "Call.__init__" s_Call_init (He.fAd K dd_Call_init.at_) f_Call_init ∧ Binds K f_Call_init ["self", "name", "value", "tag"] ds ∧ Vals [] ds := by
    obtain ⟨ds, v, b⟩ := L2.FunD.binds1 (ps := ["self", "name", "value", "tag"]) F_Call_init 4 1 (by simp [dd_Call_init, He.DefD.dvs]) (by rfl) (fun _ _ _ _ _ _ _ us its h1 h2 => match us, its, h1, h2 with | [_, _, _, _], [_], _, _ => ⟨_, rfl, rfl⟩)
    exact ⟨ds, QH.fun_of F_Call_init, b, v⟩
  have h_Call3 : Mi K mg "Call" (QH.Acl cn K 1) "Call.__init__" s_Call_init ["self", "name", "value", "tag"] [] := ⟨_, f_Call_init, ds0_Call_init, He.mkr_ok (x := "Call") (List.all_eq_true.mp ei "Call" (by decide +kernel)), QH.glo_of t X G 1, q1, q2, q3⟩
  obtain ⟨ds1_Call_init, q1, q2, q3⟩ : ∃ ds, C8.Fun K "__init__" "Call.__init__" s_Call_init (He.fAd K dd_Call_init.at_) f_Call_init ∧ Binds K f_Call_init ["self", "name", "value", "tag"] ds ∧ Vals [(.int 0)] ds := by
    obtain ⟨ds, v, b⟩ := L2.FunD.binds1 (ps := ["self", "name", "value", "tag"]) F_Call_init 3 0 (by simp [dd_Call_init, He.DefD.dvs]) (by rfl) (fun _ _ _ _ _ _ _ us its h1 h2 => match us, its, h1, h2 with | [_, _, _], [_], _, _ => ⟨_, rfl, rfl⟩)
    exact ⟨ds, QH.fun_of F_Call_init, b, v⟩
  have h_Call2 : Mi K mg "Call" (QH.Acl cn K 1) "Call.__init__" s_Call_init ["self", "name", "value", "tag"] [(.int 0)] := ⟨_, f_Call_init, ds1_Call_init, He.mkr_ok (x := "Call") (List.all_eq_true.mp ei "Call" (by decide +kernel)), QH.glo_of t X G 1, q1, q2, q3⟩
  obtain ⟨f_First_init, F_First_init⟩ := c.def_ 3 (d := dd_First_init) rfl
  obtain ⟨ds0_First_init, q1, q2, q3⟩ : ∃ ds, C8.Fun K "__init__" "First.__init__" s_First_init (He.fAd K dd_First_init.at_) f_First_init ∧ Binds K f_First_init ["self", "name", "after", "rows"] ds ∧ Vals [] ds := ⟨[], QH.fun_of F_First_init, L2.FunD.bindsN F_First_init (fun _ _ _ _ _ _ us hl => match us, hl with | [_, _, _, _], _ => rfl), .nil⟩
  have h_First3 : Mi K mg "First" (QH.Acl cn K 2) "First.__init__" s_First_init ["self", "name", "after", "rows"] [] := ⟨_, f_First_init, ds0_First_init, He.mkr_ok (x := "First") (List.all_eq_true.mp ei "First" (by decide +kernel)), QH.glo_of t X G 2, q1, q2, q3⟩
  obtain ⟨f_First_head, F_First_head⟩ := c.def_ 4 (d := dd_First_head) rfl
  obtain ⟨ds_First_head, q2, q3⟩ : ∃ ds, Binds K f_First_head ["self"] ds ∧ Vals [] ds := ⟨[], L2.FunD.bindsN F_First_head (fun _ _ _ _ _ _ us hl => match us, hl with | [_], _ => rfl), .nil⟩
  have h_First_head : Md K (QH.Acl cn K 2) "head" "First.head" s_First_head ["self"] [] := ⟨_, f_First_head, ds_First_head, QH.cls_of (QH.cls_at t (by decide) 2), He.meth_ok (x := "First") (List.all_eq_true.mp em ("First", "head") (by decide +kernel)), QH.fun_of F_First_head, q2, q3⟩
  obtain ⟨f_Member_init, F_Member_init⟩ := c.def_ 5 (d := dd_Member_init) rfl
  obtain ⟨ds0_Member_init, q1, q2, q3⟩ : ∃ ds, C8.Fun K "__init__" "Member.__init__" s_Member_init (He.fAd K dd_Member_init.at_) f_Member_init ∧ Binds K f_Member_init ["self", "name", "access", "tag", "is_default", "rows"] ds ∧ Vals [] ds := ⟨[], QH.fun_of F_Member_init, L2.FunD.bindsN F_Member_init (fun _ _ _ _ _ _ us hl => match us, hl with | [_, _, _, _, _, _], _ => rfl), .nil⟩
  have h_Member5 : Mi K mg "Member" (QH.Acl cn K 3) "Member.__init__" s_Member_init ["self", "name", "access", "tag", "is_default", "rows"] [] := ⟨_, f_Member_init, ds0_Member_init, He.mkr_ok (x := "Member") (List.all_eq_true.mp ei "Member" (by decide +kernel)), QH.glo_of t X G 3, q1, q2, q3⟩
  obtain ⟨f_Member_head, F_Member_head⟩ := c.def_ 6 (d := dd_Member_head) rfl
  obtain ⟨ds_Member_head, q2, q3⟩ : ∃ ds, Binds K f_Member_head ["self"] ds ∧ Vals [] ds := ⟨[], L2.FunD.bindsN F_Member_head (fun _ _ _ _ _ _ us hl => match us, hl with | [_], _ => rfl), .nil⟩
  have h_Member_head : Md K (QH.Acl cn K 3) "head" "Member.head" s_Member_head ["self"] [] := ⟨_, f_Member_head, ds_Member_head, QH.cls_of (QH.cls_at t (by decide) 3), He.meth_ok (x := "Member") (List.all_eq_true.mp em ("Member", "head") (by decide +kernel)), QH.fun_of F_Member_head, q2, q3⟩
  obtain ⟨f_Edition_member, F_Edition_member⟩ := c.def_ 7 (d := dd_Edition_member) rfl
  obtain ⟨ds_Edition_member, q3, q2⟩ := L2.FunD.binds1 (ps := ["self", "name", "tag"]) F_Edition_member 3 1 (by simp [dd_Edition_member, He.DefD.dvs]) (by rfl) (fun _ _ _ _ _ _ _ us its h1 h2 => match us, its, h1, h2 with | [_, _, _], [_], _, _ => ⟨_, rfl, rfl⟩)
  have h_Edition_member : Md K (QH.Acl cn K 4) "member" "Edition.member" s_Edition_member ["self", "name", "tag"] [] := ⟨_, f_Edition_member, ds_Edition_member, QH.cls_of (QH.cls_at t (by decide) 4), He.meth_ok (x := "Edition") (List.all_eq_true.mp em ("Edition", "member") (by decide +kernel)), QH.fun_of F_Edition_member, q2, q3⟩
  obtain ⟨dsd1_Edition_member, q3, q2⟩ := L2.FunD.binds1 (ps := ["self", "name", "tag"]) F_Edition_member 2 0 (by simp [dd_Edition_member, He.DefD.dvs]) (by rfl) (fun _ _ _ _ _ _ _ us its h1 h2 => match us, its, h1, h2 with | [_, _], [_], _, _ => ⟨_, rfl, rfl⟩)
  have h_Edition_memberd1 : Md K (QH.Acl cn K 4) "member" "Edition.member" s_Edition_member ["self", "name", "tag"] [(.int 0)] := ⟨_, f_Edition_member, dsd1_Edition_member, QH.cls_of (QH.cls_at t (by decide) 4), He.meth_ok (x := "Edition") (List.all_eq_true.mp em ("Edition", "member") (by decide +kernel)), QH.fun_of F_Edition_member, q2, q3⟩
  obtain ⟨f_Scope_init, F_Scope_init⟩ := c.def_ 8 (d := dd_Scope_init) rfl
  obtain ⟨ds0_Scope_init, q1, q2, q3⟩ : ∃ ds, C8.Fun K "__init__" "Scope.__init__" s_Scope_init (He.fAd K dd_Scope_init.at_) f_Scope_init ∧ Binds K f_Scope_init ["self", "edition", "given"] ds ∧ Vals [] ds := ⟨[], QH.fun_of F_Scope_init, L2.FunD.bindsN F_Scope_init (fun _ _ _ _ _ _ us hl => match us, hl with | [_, _, _], _ => rfl), .nil⟩
  have h_Scope2 : Mi K mg "Scope" (QH.Acl cn K 5) "Scope.__init__" s_Scope_init ["self", "edition", "given"] [] := ⟨_, f_Scope_init, ds0_Scope_init, He.mkr_ok (x := "Scope") (List.all_eq_true.mp ei "Scope" (by decide +kernel)), QH.glo_of t X G 5, q1, q2, q3⟩
  obtain ⟨f_bag, F_bag⟩ := c.def_ 9 (d := dd_bag) rfl
  have h_bag : Dd K mg "_law_bag" s_bag ["_law_script", "_law_at"] := QH.dd_of F_bag (He.glo_ok X G (List.all_eq_true.mp eg "_law_bag" (by decide +kernel))) (fun _ _ _ _ _ _ us hl => match us, hl with | [_, _], _ => rfl)
  obtain ⟨f_take, F_take⟩ := c.def_ 10 (d := dd_take) rfl
  have h_take : Dd K mg "_law_take" s_take ["_law_bag_here", "_law_many"] := QH.dd_of F_take (He.glo_ok X G (List.all_eq_true.mp eg "_law_take" (by decide +kernel))) (fun _ _ _ _ _ _ us hl => match us, hl with | [_, _], _ => rfl)
  obtain ⟨f_takes, F_takes⟩ := c.def_ 11 (d := dd_takes) rfl
  have h_takes : Dd K mg "_law_takes" s_takes ["_law_members_here"] := QH.dd_of F_takes (He.glo_ok X G (List.all_eq_true.mp eg "_law_takes" (by decide +kernel))) (fun _ _ _ _ _ _ us hl => match us, hl with | [_], _ => rfl)
  obtain ⟨f_due, F_due⟩ := c.def_ 12 (d := dd_due) rfl
  have h_due : Dd K mg "_law_due" s_due ["_law_members_here", "_law_wants", "_law_given", "_law_name", "_law_tag"] := QH.dd_of F_due (He.glo_ok X G (List.all_eq_true.mp eg "_law_due" (by decide +kernel))) (fun _ _ _ _ _ _ us hl => match us, hl with | [_, _, _, _, _], _ => rfl)
  obtain ⟨f_llanded, F_llanded⟩ := c.def_ 13 (d := dd_llanded) rfl
  have h_llanded : Dd K mg "_law_landed" s_llanded ["_law_members_here", "_law_name", "_law_tag"] := QH.dd_of F_llanded (He.glo_ok X G (List.all_eq_true.mp eg "_law_landed" (by decide +kernel))) (fun _ _ _ _ _ _ us hl => match us, hl with | [_, _, _], _ => rfl)
  obtain ⟨f_Tell_text, F_Tell_text⟩ := c.def_ 14 (d := dd_Tell_text) rfl
  obtain ⟨ds_Tell_text, q2, q3⟩ : ∃ ds, Binds K f_Tell_text ["self"] ds ∧ Vals [] ds := ⟨[], L2.FunD.bindsN F_Tell_text (fun _ _ _ _ _ _ us hl => match us, hl with | [_], _ => rfl), .nil⟩
  have h_Tell_text : Md K (QH.Acl cn K 0) "text" "Tell.text" s_Tell_text ["self"] [] := ⟨_, f_Tell_text, ds_Tell_text, QH.cls_of (QH.cls_at t (by decide) 0), He.meth_ok (x := "Tell") (List.all_eq_true.mp em ("Tell", "text") (by decide +kernel)), QH.fun_of F_Tell_text, q2, q3⟩
  obtain ⟨f_Call_text, F_Call_text⟩ := c.def_ 15 (d := dd_Call_text) rfl
  obtain ⟨ds_Call_text, q2, q3⟩ : ∃ ds, Binds K f_Call_text ["self"] ds ∧ Vals [] ds := ⟨[], L2.FunD.bindsN F_Call_text (fun _ _ _ _ _ _ us hl => match us, hl with | [_], _ => rfl), .nil⟩
  have h_Call_text : Md K (QH.Acl cn K 1) "text" "Call.text" s_Call_text ["self"] [] := ⟨_, f_Call_text, ds_Call_text, QH.cls_of (QH.cls_at t (by decide) 1), He.meth_ok (x := "Call") (List.all_eq_true.mp em ("Call", "text") (by decide +kernel)), QH.fun_of F_Call_text, q2, q3⟩
  obtain ⟨f_Edition_visible, F_Edition_visible⟩ := c.def_ 16 (d := dd_Edition_visible) rfl
  obtain ⟨ds_Edition_visible, q3, q2⟩ := L2.FunD.binds1 (ps := ["self", "name", "tag"]) F_Edition_visible 3 1 (by simp [dd_Edition_visible, He.DefD.dvs]) (by rfl) (fun _ _ _ _ _ _ _ us its h1 h2 => match us, its, h1, h2 with | [_, _, _], [_], _, _ => ⟨_, rfl, rfl⟩)
  have h_Edition_visible : Md K (QH.Acl cn K 4) "visible" "Edition.visible" s_Edition_visible ["self", "name", "tag"] [] := ⟨_, f_Edition_visible, ds_Edition_visible, QH.cls_of (QH.cls_at t (by decide) 4), He.meth_ok (x := "Edition") (List.all_eq_true.mp em ("Edition", "visible") (by decide +kernel)), QH.fun_of F_Edition_visible, q2, q3⟩
  obtain ⟨dsd1_Edition_visible, q3, q2⟩ := L2.FunD.binds1 (ps := ["self", "name", "tag"]) F_Edition_visible 2 0 (by simp [dd_Edition_visible, He.DefD.dvs]) (by rfl) (fun _ _ _ _ _ _ _ us its h1 h2 => match us, its, h1, h2 with | [_, _], [_], _, _ => ⟨_, rfl, rfl⟩)
  have h_Edition_visibled1 : Md K (QH.Acl cn K 4) "visible" "Edition.visible" s_Edition_visible ["self", "name", "tag"] [(.int 0)] := ⟨_, f_Edition_visible, dsd1_Edition_visible, QH.cls_of (QH.cls_at t (by decide) 4), He.meth_ok (x := "Edition") (List.all_eq_true.mp em ("Edition", "visible") (by decide +kernel)), QH.fun_of F_Edition_visible, q2, q3⟩
  obtain ⟨f_Scope_why, F_Scope_why⟩ := c.def_ 17 (d := dd_Scope_why) rfl
  obtain ⟨ds_Scope_why, q3, q2⟩ := L2.FunD.binds1 (ps := ["self", "name", "tag"]) F_Scope_why 3 1 (by simp [dd_Scope_why, He.DefD.dvs]) (by rfl) (fun _ _ _ _ _ _ _ us its h1 h2 => match us, its, h1, h2 with | [_, _, _], [_], _, _ => ⟨_, rfl, rfl⟩)
  have h_Scope_why : Md K (QH.Acl cn K 5) "why" "Scope.why" s_Scope_why ["self", "name", "tag"] [] := ⟨_, f_Scope_why, ds_Scope_why, QH.cls_of (QH.cls_at t (by decide) 5), He.meth_ok (x := "Scope") (List.all_eq_true.mp em ("Scope", "why") (by decide +kernel)), QH.fun_of F_Scope_why, q2, q3⟩
  obtain ⟨dsd1_Scope_why, q3, q2⟩ := L2.FunD.binds1 (ps := ["self", "name", "tag"]) F_Scope_why 2 0 (by simp [dd_Scope_why, He.DefD.dvs]) (by rfl) (fun _ _ _ _ _ _ _ us its h1 h2 => match us, its, h1, h2 with | [_, _], [_], _, _ => ⟨_, rfl, rfl⟩)
  have h_Scope_whyd1 : Md K (QH.Acl cn K 5) "why" "Scope.why" s_Scope_why ["self", "name", "tag"] [(.int 0)] := ⟨_, f_Scope_why, dsd1_Scope_why, QH.cls_of (QH.cls_at t (by decide) 5), He.meth_ok (x := "Scope") (List.all_eq_true.mp em ("Scope", "why") (by decide +kernel)), QH.fun_of F_Scope_why, q2, q3⟩
  obtain ⟨f_of, F_of⟩ := c.def_ 18 (d := dd_of) rfl
  have h_of : Dd K mg "_law_of" s_of ["_law_bag_here", "_law_some"] := QH.dd_of F_of (He.glo_ok X G (List.all_eq_true.mp eg "_law_of" (by decide +kernel))) (fun _ _ _ _ _ _ us hl => match us, hl with | [_, _], _ => rfl)
  obtain ⟨f_Edition_init, F_Edition_init⟩ := c.def_ 19 (d := dd_Edition_init) rfl
  obtain ⟨ds0_Edition_init, q1, q2, q3⟩ : ∃ ds, C8.Fun K "__init__" "Edition.__init__" s_Edition_init (He.fAd K dd_Edition_init.at_) f_Edition_init ∧ Binds K f_Edition_init ["self", "name", "numbers", "cells", "wants", "blocks"] ds ∧ Vals [] ds := ⟨[], QH.fun_of F_Edition_init, L2.FunD.bindsN F_Edition_init (fun _ _ _ _ _ _ us hl => match us, hl with | [_, _, _, _, _, _], _ => rfl), .nil⟩
  have h_Edition5 : Mi K mg "Edition" (QH.Acl cn K 4) "Edition.__init__" s_Edition_init ["self", "name", "numbers", "cells", "wants", "blocks"] [] := ⟨_, f_Edition_init, ds0_Edition_init, He.mkr_ok (x := "Edition") (List.all_eq_true.mp ei "Edition" (by decide +kernel)), QH.glo_of t X G 4, q1, q2, q3⟩
  obtain ⟨f_Edition_text, F_Edition_text⟩ := c.def_ 20 (d := dd_Edition_text) rfl
  obtain ⟨ds_Edition_text, q2, q3⟩ : ∃ ds, Binds K f_Edition_text ["self"] ds ∧ Vals [] ds := ⟨[], L2.FunD.bindsN F_Edition_text (fun _ _ _ _ _ _ us hl => match us, hl with | [_], _ => rfl), .nil⟩
  have h_Edition_text : Md K (QH.Acl cn K 4) "text" "Edition.text" s_Edition_text ["self"] [] := ⟨_, f_Edition_text, ds_Edition_text, QH.cls_of (QH.cls_at t (by decide) 4), He.meth_ok (x := "Edition") (List.all_eq_true.mp em ("Edition", "text") (by decide +kernel)), QH.fun_of F_Edition_text, q2, q3⟩
  obtain ⟨f_landed, F_landed⟩ := c.def_ 21 (d := dd_landed) rfl
  have h_landed : Dd K mg "landed" s_landed ["edition", "name", "noted"] := QH.dd_of F_landed (He.glo_ok X G (List.all_eq_true.mp eg "landed" (by decide +kernel))) (fun _ _ _ _ _ _ us hl => match us, hl with | [_, _, _], _ => rfl)
  obtain ⟨f_head_of, F_head_of⟩ := c.def_ 22 (d := dd_head_of) rfl
  have h_head_of : Dd K mg "head_of" s_head_of ["block"] := QH.dd_of F_head_of (He.glo_ok X G (List.all_eq_true.mp eg "head_of" (by decide +kernel))) (fun _ _ _ _ _ _ us hl => match us, hl with | [_], _ => rfl)
  obtain ⟨f_Scope_reach, F_Scope_reach⟩ := c.def_ 23 (d := dd_Scope_reach) rfl
  obtain ⟨ds_Scope_reach, q3, q2⟩ := L2.FunD.binds1 (ps := ["self", "name", "tag"]) F_Scope_reach 3 1 (by simp [dd_Scope_reach, He.DefD.dvs]) (by rfl) (fun _ _ _ _ _ _ _ us its h1 h2 => match us, its, h1, h2 with | [_, _, _], [_], _, _ => ⟨_, rfl, rfl⟩)
  have h_Scope_reach : Md K (QH.Acl cn K 5) "reach" "Scope.reach" s_Scope_reach ["self", "name", "tag"] [] := ⟨_, f_Scope_reach, ds_Scope_reach, QH.cls_of (QH.cls_at t (by decide) 5), He.meth_ok (x := "Scope") (List.all_eq_true.mp em ("Scope", "reach") (by decide +kernel)), QH.fun_of F_Scope_reach, q2, q3⟩
  obtain ⟨dsd1_Scope_reach, q3, q2⟩ := L2.FunD.binds1 (ps := ["self", "name", "tag"]) F_Scope_reach 2 0 (by simp [dd_Scope_reach, He.DefD.dvs]) (by rfl) (fun _ _ _ _ _ _ _ us its h1 h2 => match us, its, h1, h2 with | [_, _], [_], _, _ => ⟨_, rfl, rfl⟩)
  have h_Scope_reachd1 : Md K (QH.Acl cn K 5) "reach" "Scope.reach" s_Scope_reach ["self", "name", "tag"] [(.int 0)] := ⟨_, f_Scope_reach, dsd1_Scope_reach, QH.cls_of (QH.cls_at t (by decide) 5), He.meth_ok (x := "Scope") (List.all_eq_true.mp em ("Scope", "reach") (by decide +kernel)), QH.fun_of F_Scope_reach, q2, q3⟩
  obtain ⟨f_names, F_names⟩ := c.def_ 24 (d := dd_names) rfl
  have h_names : Dd K mg "_law_names" s_names ["_law_bag_here", "_law_many"] := QH.dd_of F_names (He.glo_ok X G (List.all_eq_true.mp eg "_law_names" (by decide +kernel))) (fun _ _ _ _ _ _ us hl => match us, hl with | [_, _], _ => rfl)
  obtain ⟨f_family, F_family⟩ := c.def_ 25 (d := dd_family) rfl
  have h_family : Dd K mg "_law_family" s_family ["_law_bag_here", "_law_name"] := QH.dd_of F_family (He.glo_ok X G (List.all_eq_true.mp eg "_law_family" (by decide +kernel))) (fun _ _ _ _ _ _ us hl => match us, hl with | [_, _], _ => rfl)
  obtain ⟨f_rows, F_rows⟩ := c.def_ 26 (d := dd_rows) rfl
  have h_rows : Dd K mg "_law_rows" s_rows ["_law_bag_here", "_law_calls"] := QH.dd_of F_rows (He.glo_ok X G (List.all_eq_true.mp eg "_law_rows" (by decide +kernel))) (fun _ _ _ _ _ _ us hl => match us, hl with | [_, _], _ => rfl)
  obtain ⟨f_ltargets, F_ltargets⟩ := c.def_ 27 (d := dd_ltargets) rfl
  have h_ltargets : Dd K mg "_law_targets" s_ltargets ["_law_edition_here", "_law_members_here", "_law_wants", "_law_given"] := QH.dd_of F_ltargets (He.glo_ok X G (List.all_eq_true.mp eg "_law_targets" (by decide +kernel))) (fun _ _ _ _ _ _ us hl => match us, hl with | [_, _, _, _], _ => rfl)
  obtain ⟨f_Scope_targets, F_Scope_targets⟩ := c.def_ 28 (d := dd_Scope_targets) rfl
  obtain ⟨ds_Scope_targets, q2, q3⟩ : ∃ ds, Binds K f_Scope_targets ["self"] ds ∧ Vals [] ds := ⟨[], L2.FunD.bindsN F_Scope_targets (fun _ _ _ _ _ _ us hl => match us, hl with | [_], _ => rfl), .nil⟩
  have h_Scope_targets : Md K (QH.Acl cn K 5) "targets" "Scope.targets" s_Scope_targets ["self"] [] := ⟨_, f_Scope_targets, ds_Scope_targets, QH.cls_of (QH.cls_at t (by decide) 5), He.meth_ok (x := "Scope") (List.all_eq_true.mp em ("Scope", "targets") (by decide +kernel)), QH.fun_of F_Scope_targets, q2, q3⟩
  obtain ⟨f_members, F_members⟩ := c.def_ 29 (d := dd_members) rfl
  have h_members : Dd K mg "_law_members" s_members ["_law_bag_here", "_law_names_here"] := QH.dd_of F_members (He.glo_ok X G (List.all_eq_true.mp eg "_law_members" (by decide +kernel))) (fun _ _ _ _ _ _ us hl => match us, hl with | [_, _], _ => rfl)
  obtain ⟨f_Edition_eq, F_Edition_eq⟩ := c.def_ 30 (d := dd_Edition_eq) rfl
  obtain ⟨ds_Edition_eq, q2, q3⟩ : ∃ ds, Binds K f_Edition_eq ["self", "other"] ds ∧ Vals [] ds := ⟨[], L2.FunD.bindsN F_Edition_eq (fun _ _ _ _ _ _ us hl => match us, hl with | [_, _], _ => rfl), .nil⟩
  have h_Edition_eq : Md K (QH.Acl cn K 4) "__eq__" "Edition.__eq__" s_Edition_eq ["self", "other"] [] := ⟨_, f_Edition_eq, ds_Edition_eq, QH.cls_of (QH.cls_at t (by decide) 4), He.meth_ok (x := "Edition") (List.all_eq_true.mp em ("Edition", "__eq__") (by decide +kernel)), QH.fun_of F_Edition_eq, q2, q3⟩
  obtain ⟨f_Scope_entered, F_Scope_entered⟩ := c.def_ 31 (d := dd_Scope_entered) rfl
  obtain ⟨ds_Scope_entered, q2, q3⟩ : ∃ ds, Binds K f_Scope_entered ["self"] ds ∧ Vals [] ds := ⟨[], L2.FunD.bindsN F_Scope_entered (fun _ _ _ _ _ _ us hl => match us, hl with | [_], _ => rfl), .nil⟩
  have h_Scope_entered : Md K (QH.Acl cn K 5) "entered" "Scope.entered" s_Scope_entered ["self"] [] := ⟨_, f_Scope_entered, ds_Scope_entered, QH.cls_of (QH.cls_at t (by decide) 5), He.meth_ok (x := "Scope") (List.all_eq_true.mp em ("Scope", "entered") (by decide +kernel)), QH.fun_of F_Scope_entered, q2, q3⟩
  obtain ⟨f_ledition, F_ledition⟩ := c.def_ 32 (d := dd_ledition) rfl
  have h_ledition : Dd K mg "_law_edition" s_ledition ["_law_bag_here", "_law_title", "_law_members_here", "_law_wants", "_law_cells"] := QH.dd_of F_ledition (He.glo_ok X G (List.all_eq_true.mp eg "_law_edition" (by decide +kernel))) (fun _ _ _ _ _ _ us hl => match us, hl with | [_, _, _, _, _], _ => rfl)
  obtain ⟨f_holds, F_holds⟩ := c.def_ 33 (d := dd_holds) rfl
  have h_holds : Dd K mg "_law_holds" s_holds ["_law_scope", "_law_edition_here", "_law_names_here", "_law_members_here", "_law_wants", "_law_given"] := QH.dd_of F_holds (He.glo_ok X G (List.all_eq_true.mp eg "_law_holds" (by decide +kernel))) (fun _ _ _ _ _ _ us hl => match us, hl with | [_, _, _, _, _, _], _ => rfl)
  obtain ⟨f_law, F_law⟩ := c.def_ 34 (d := dd_law) rfl
  have h_law : Dd K mg "law" s_law ["_law_script"] := QH.dd_of F_law (He.glo_ok X G (List.all_eq_true.mp eg "law" (by decide +kernel))) (fun _ _ _ _ _ _ us hl => match us, hl with | [_], _ => rfl)
  exact ⟨QH.Acl cn K, ⟨h_value_text, h_Tell1, h_Call3, h_Call2, h_First3, h_First_head, h_Member5, h_Member_head, h_Edition_member, h_Edition_memberd1, h_Scope2, h_bag, h_take, h_takes, h_due, h_llanded, h_Tell_text, h_Call_text, h_Edition_visible, h_Edition_visibled1, h_Scope_why, h_Scope_whyd1, h_of, h_Edition5, h_Edition_text, h_landed, h_head_of, h_Scope_reach, h_Scope_reachd1, h_names, h_family, h_rows, h_ltargets, h_Scope_targets, h_members, h_Edition_eq, h_Scope_entered, h_ledition, h_holds, h_law, QH.glo_of t X G 0, QH.glo_of t X G 1, QH.glo_of t X G 2, QH.glo_of t X G 3, QH.glo_of t X G 4, QH.glo_of t X G 5, QH.kits_of t (by decide) (fun _ _ => sub_min), QH.nf_of t (by decide), QH.fl_of t (by decide), QH.free_of t X G (by decide +kernel), QH.free_of t X G (by decide +kernel), QH.free_of t X G (by decide +kernel), QH.free_of t X G (by decide +kernel), QH.free_of t X G (by decide +kernel), QH.free_of t X G (by decide +kernel), QH.free_of t X G (by decide +kernel), QH.free_of t X G (by decide +kernel), QH.free_of t X G (by decide +kernel), QH.free_of t X G (by decide +kernel), QH.free_of t X G (by decide +kernel), QH.free_of t X G (by decide +kernel), QH.free_of t X G (by decide +kernel), QH.free_of t X G (by decide +kernel), QH.free_of t X G (by decide +kernel)⟩⟩
theorem law_fn {l : PySem.W.OpenLaw} {w : World} {K : PySem.W.Frag} {mg : Str → Option Value} {fa : Addr} (T : ∃ A, Top K mg A) (hfa : mg "law" = some (.ref fa)) :
    ∃ fd : FuncData, (∀ (s : Shared) (v : Value), BindsTo s fd ⟨[v], []⟩ [("_law_script", v)]) ∧ ∀ base : Heap, K.In base → base.Ns mainGlobals mg → QG.FnG l.prog w K mg base 7 fa fd ["_law_script"] (spLaw K) := by
  obtain ⟨A, T⟩ := T
  obtain ⟨f, fd, F, b, df⟩ := T.d_law.ex
  have e := hfa.symm.trans F.mgf
  cases e
  have F2 := F.fn
  obtain ⟨oc, od, dV, kV, doc, pm, an, cdv, ct, osl, rfl, lk, hcd⟩ := F2.ex
  have e2 : dV = .none := df
  subst e2
  exact ⟨_, fun s v => .of_eq rfl, fun base _ _ => fnG_imp (ok_law T F.fn) fun _ _ _ _ h => law_sp (fun ns hl => law_ok ns) h⟩
end L17
open PySem PySem.W PyProof.Rows in
set_option maxRecDepth 100000 in
set_option maxHeartbeats 0 in
theorem PySem.Challenge.cw_quietedition_k17_calls_of_editions_holds : PySem.Challenge.rw_quietedition_k17_calls_of_editions.Holds := by
  w_on; o_law
  refine HandSHeadRun.head_any (r := OpenLaw.row PySem.Challenge.rw_quietedition_k17_calls_of_editions) (q := view (OpenLaw.row PySem.Challenge.rw_quietedition_k17_calls_of_editions).prog [87]) (H := L17.hk) (ob := L17.ob) (M := 20000) (loose := L17.loose) (d := HandSHeadRun.topDef (OpenLaw.row PySem.Challenge.rw_quietedition_k17_calls_of_editions).prog 87) (kwd := []) L17.ob_eq
    (by kernel_rfl) (fun s => by kernel_rfl) L17.run (by kernel_rfl) (by kernel_rfl) (by kernel_rfl) (by rfl) (by first | assumption | decide +kernel) (by decide +kernel) ⟨rfl, rfl, rfl, rfl, rfl, by decide +kernel⟩ ?hw ?hc
  case hw => w_witness2
  case hc =>
    refine QH.walk_ofGE (l := PySem.Challenge.rw_quietedition_k17_calls_of_editions) (n := 63) (k := 7) (x := "_law_script") rfl (by decide) (by kernel_rfl) ⟨rfl, by decide, by decide⟩ ?F
    intro w mg fa h Y G hmg0
    obtain ⟨K, KX, c⟩ := Y
    have hmg : mg ("law" : PySem.Str) = some (.ref fa) := by
      have e : (HandSHeadRun.topDef (OpenLaw.row PySem.Challenge.rw_quietedition_k17_calls_of_editions).prog 87).name = ("law" : PySem.Str) := by kernel_rfl
      rw [← e]
      exact hmg0
    obtain ⟨fd, hb, hF⟩ := L17.law_fn (l := PySem.Challenge.rw_quietedition_k17_calls_of_editions) (w := w) (L17.top_mk KX G c) hmg
    exact ⟨K, fd, QT.spLaw K, KX, hb, fun H a ns hl _ hS => ⟨a, ns, rfl, hS, hl, fun _ => rfl⟩, hF⟩

