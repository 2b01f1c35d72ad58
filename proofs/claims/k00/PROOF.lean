import PyProof.Rows.All
import Wide.All
import OpenK.AllK
import Wide.FinOn
import HandS.ForMost
import HandS.Wide
import HandS.SetKeys
import HandS.IsInst
import HandS.Codes
import HandS.Deep
import HandS.SortInts
import HandS.Flow
import HandS.TupAny
import HandS.FStr
import HandS.SlotsOwn
import HandS.More
import HandS.Defaults
import PySem.Challenge.RW_quietedition_k00_rows_and_values
set_option Elab.async false
set_option linter.all false
set_option maxRecDepth 100000
set_option maxHeartbeats 4000000
/-! Own layer: backward rules for readings, frames, packages of defs. -/
namespace QB
open PySem PySem.Spec PyProof.Rows L2

/-! ### readings by name -/
def kTest (QT : Bool → Hp → Prop) : VK := fun x H' => ∃ k, x = .bl k ∧ QT k H'
def kPart (QO : Option Int → Hp → Prop) : VK := fun x H1 => ∃ i, x = .int i ∧ QO (some i) H1
def kAnd (tb : TE) (σ : L2.St) (Q : VK) : VK := fun x H1 => ∃ c, x = .bl c ∧ if c = true then tb σ H1 Q else Q (.bl false) H1
def kOr (tb : TE) (σ : L2.St) (Q : VK) : VK := fun x H1 => ∃ c, x = .bl c ∧ if c = true then Q (.bl true) H1 else tb σ H1 Q
def kNot (Q : VK) : VK := fun x H1 => ∃ c, x = .bl c ∧ Q (.bl (!c)) H1
def kTru (K : PySem.W.Frag) (QT : Bool → Hp → Prop) : VK := fun x H' => ∃ k, TruV K x H' k ∧ QT k H'
def tTruth (K : PySem.W.Frag) (ta : TE) : TT := fun σ H Q => ta σ H fun x H' => ∃ k, TruV K x H' k ∧ Q k H'
def rLen (K : PySem.W.Frag) : List V → Hp → VK → Prop := fun xs H Q => ∃ p ys, xs = [.ref p] ∧ (SqL K H p ys ∨ SqT K H p ys) ∧ Q (.int ys.length) H
def rLst (K : PySem.W.Frag) : List V → Hp → VK → Prop := fun xs H Q => ∃ p ys, xs = [.ref p] ∧ (SqL K H p ys ∨ SqT K H p ys) ∧ ∀ l, H l = none → Q (.ref l) (upd H l (.lst ys))
def rTupl (K : PySem.W.Frag) : List V → Hp → VK → Prop := fun xs H Q => ∃ p ys, xs = [.ref p] ∧ ((SqL K H p ys ∧ ∀ l, H l = none → Q (.ref l) (upd H l (.tup ys))) ∨ (SqT K H p ys ∧ Q (.ref p) H))
def rInt : List V → Hp → VK → Prop := fun xs H Q => (∃ i, xs = [.int i] ∧ Q (.int i) H) ∨ ∃ k, xs = [.bl k] ∧ Q (.int (if k then 1 else 0)) H
def rAbs : List V → Hp → VK → Prop := fun xs H Q => ∃ i, xs = [.int i] ∧ Q (.int (if i < 0 then -i else i)) H
def rMax : List V → Hp → VK → Prop := fun xs H Q => ∃ i j, xs = [.int i, .int j] ∧ Q (.int (if j > i then j else i)) H
def rMin : List V → Hp → VK → Prop := fun xs H Q => ∃ i j, xs = [.int i, .int j] ∧ Q (.int (if j < i then j else i)) H
def rAddStr : R2 := fun x y H Q => ∃ i j, x = .str i ∧ y = .str j ∧ i.length + j.length ≤ sizeLine ∧ Q (.str (i ++ j)) H
section
variable {X : Cx}
theorem c_len : CallR X (.builtin "len") (rLen X.K) := call_len_seq
theorem c_lst : CallR X (.type "list") (rLst X.K) := call_list_of
theorem c_tup : CallR X (.type "tuple") (rTupl X.K) := call_tuple_of
theorem c_int : CallR X (.type "int") rInt := call_int1
theorem c_abs : CallR X (.builtin "abs") rAbs := call_abs
theorem c_max (hc : X.calm = true) : CallR X (.builtin "max") rMax := call_max2 hc
theorem c_min (hc : X.calm = true) : CallR X (.builtin "min") rMin := call_min2 hc
theorem o_adds : OpR X (binaryOp .Add) rAddStr := op_add_str
theorem pt_tru {a : Expr} {ta : TE} (ha : PE X a ta) (he : ∀ whole, isTrue a X.env whole = (do let v ← whole; standAt a.pos; holding [v] (truthy v))) : PT X a (tTruth X.K ta) := pt_truth ha he
end

/-! ### the same rules, the written part by its name (inside comprehensions) -/
section
variable {X : Cx} {e : Expr} {f : Str} {pos : Pos} {ta : TE} {tg : Expr} {a : Expr}
theorem kixL (K : PySem.W.Frag) (h : X.K = K) : IxR X (rIxL K) := h ▸ ix_list
theorem kixT (K : PySem.W.Frag) (h : X.K = K) : IxR X (rIxT K) := h ▸ ix_tup
theorem kixQ (K : PySem.W.Frag) (h : X.K = K) : IxR X (rIx K) := h ▸ ix_seq
theorem koIn (K : PySem.W.Frag) (h : X.K = K) : OpR X (compareOp .In) (rIn K false) := h ▸ op_in_seq
theorem koNi (K : PySem.W.Frag) (h : X.K = K) : OpR X (compareOp .NotIn) (rIn K true) := h ▸ op_notIn_seq
theorem koEq (K : PySem.W.Frag) (h : X.K = K) (hu : X.A.units + 64 < cLine) : OpR X (compareOp .Eq) (rEqD K) := h ▸ op_eqD hu
theorem koNe (K : PySem.W.Frag) (h : X.K = K) (hu : X.A.units + 64 < cLine) : OpR X (compareOp .NotEq) (rNeD K) := h ▸ op_neD hu
theorem koInD (K : PySem.W.Frag) (h : X.K = K) (hu : X.A.units + 65 < cLine) : OpR X (compareOp .In) (rInD K) := h ▸ op_inD hu
theorem koNiD (K : PySem.W.Frag) (h : X.K = K) (hu : X.A.units + 65 < cLine) : OpR X (compareOp .NotIn) (rNotInD K) := h ▸ op_notInD hu
theorem kcLen (K : PySem.W.Frag) (h : X.K = K) : CallR X (.builtin "len") (rLen K) := h ▸ c_len
theorem kcLst' (K : PySem.W.Frag) (h : X.K = K) : CallR X (.type "list") (rLst K) := h ▸ c_lst
theorem kcTup (K : PySem.W.Frag) (h : X.K = K) : CallR X (.type "tuple") (rTupl K) := h ▸ c_tup
theorem kcIsi (K : PySem.W.Frag) (h : X.K = K) : CallR X (.builtin "isinstance") (rIsi K) := h ▸ call_isi
theorem kslL (K : PySem.W.Frag) (h : X.K = K) : SlR X (rSlL K) := h ▸ sl_list
theorem kslT (K : PySem.W.Frag) (h : X.K = K) : SlR X (rSlA K) := h ▸ sl_tupA
theorem kcatA (K : PySem.W.Frag) (h : X.K = K) : OpR X (binaryOp .Add) (rCatA K) := h ▸ op_catA
theorem kpt_tru (K : PySem.W.Frag) (h : X.K = K) (ha : PE X a ta) (he : ∀ whole, isTrue a X.env whole = (do let v ← whole; standAt a.pos; holding [v] (truthy v))) : PT X a (tTruth K ta) := h ▸ pt_tru ha he
theorem kpe_fld (K : PySem.W.Frag) (h : X.K = K) (he : PE X e ta) (hb : attributeBase e f X.env (eval e X.env) = eval e X.env) : PE X (.Attribute e f pos) (tFld K ta f) := h ▸ pe_fld he hb
theorem kpi_list (K : PySem.W.Frag) (h : X.K = K) {l : Expr} {tl : TE} (hl : PE X l tl) : PI X tg l (iList K tl) := h ▸ pi_list hl
theorem kpi_tup (K : PySem.W.Frag) (h : X.K = K) {l : Expr} {tl : TE} (hl : PE X l tl) : PI X tg l (iTup K tl) := h ▸ pi_tup hl
end

/-! ### rules, goal by goal -/
section
variable {K : PySem.W.Frag} {σ : L2.St} {H : Hp} {Q : VK} {QT : Bool → Hp → Prop} {QA : List V → Hp → Prop} {D : Ends} {t u u2 : TS} {ta tb te to ti : TE} {c c1 c2 : TT} {tl tr : TA} {r : R2} {v x y : V} {i : Nat}
theorem seq (h : t { D with nx := u D } σ H) : tSeq t u D σ H := h
theorem seqA {g : TG} (h : te σ H fun x H1 => g x σ H1 (u D)) : tSeq (tAsg te g) u D σ H := h
theorem seqD (h : te σ H fun _ H1 => u D σ H1) : tSeq (tDrop te) u D σ H := h
theorem seqU {ip : TIp} (h : tAug i te ip { D with nx := u D } σ H) : tSeq (tAug i te ip) u D σ H := h
theorem seqP {j : Nat} (h : tPar i j tl { D with nx := u D } σ H) : tSeq (tPar i j tl) u D σ H := h
theorem seqI (h : c σ H fun b H1 => if b = true then t { D with nx := u2 D } σ H1 else u { D with nx := u2 D } σ H1) : tSeq (tIfS c t u) u2 D σ H := h
theorem parv {j : Nat} (h : tl σ H fun vs H1 => ∃ v w, vs = [v, w] ∧ D.nx ((σ.set i (some v)).set j (some w)) H1) : tPar i j tl D σ H := h
theorem augv {ip : TIp} (e : σ[i]? = some (some x)) (h : te σ H fun y H1 => ip x y H1 fun z H2 => D.nx (σ.set i (some z)) H2) : tAug i te ip D σ H := ⟨x, e, h⟩
theorem ipi {f : Int → Int → Int} {a b : Int} (h : Q (.int (f a b)) H) : ipI f (.int a) (.int b) H Q := ⟨a, b, rfl, rfl, h⟩
theorem nxk {f b k : L2.St → Hp → Prop} {r : VK} (h : f σ H) : Ends.nx ⟨f, r, b, k⟩ σ H := h
theorem rtk {f b k : L2.St → Hp → Prop} {r : VK} (h : r v H) : Ends.rt ⟨f, r, b, k⟩ v H := h
theorem bkk {f b k : L2.St → Hp → Prop} {r : VK} (h : b σ H) : Ends.bk ⟨f, r, b, k⟩ σ H := h
theorem ctk {f b k : L2.St → Hp → Prop} {r : VK} (h : k σ H) : Ends.ct ⟨f, r, b, k⟩ σ H := h
theorem ifK (k : ∀ Y Z : Hp → Prop, (∀ H1, t D σ H1 → Y H1) → (∀ H1, u D σ H1 → Z H1) → c σ H fun b H1 => if b = true then Y H1 else Z H1) : tIfS c t u D σ H := k _ _ (fun _ q => q) (fun _ q => q)
theorem seqR {P : L2.St → Hp → Prop} (h : ∀ σ H, P σ H → u D σ H) (k : ∀ U : L2.St → Hp → Prop, (∀ σ H, P σ H → U σ H) → t { D with nx := U } σ H) : tSeq t u D σ H := k _ h
theorem nxt (h : D.nx σ H) : tNext D σ H := h
theorem drop (h : te σ H fun _ H1 => D.nx σ H1) : tDrop te D σ H := h
theorem ret (h : te σ H D.rt) : tRet te D σ H := h
theorem ifs (h : c σ H fun b H1 => if b = true then t D σ H1 else u D σ H1) : tIfS c t u D σ H := h
theorem setv (h : te σ H fun x H1 => D.nx (σ.set i (some x)) H1) : tAsg te (gName i) D σ H := h
theorem sets {ts : TSet} (h : te σ H fun v H1 => to σ H1 fun o H2 => ti σ H2 fun i H3 => ts o i v H3 fun H4 => D.nx σ H4) : tAsg te (gSub to ti ts) D σ H := h
theorem gsb {QG : L2.St → Hp → Prop} {ts : TSet} (h : to σ H fun o H2 => ti σ H2 fun i H3 => ts o i v H3 fun H4 => QG σ H4) : gSub to ti ts v σ H QG := h
theorem gnm {QG : L2.St → Hp → Prop} (h : QG (σ.set i (some v)) H) : gName i v σ H QG := h
theorem var (e : σ[i]? = some (some v)) (h : Q v H) : tVar i σ H Q := ⟨v, e, h⟩
theorem cst (h : Q v H) : tC v σ H Q := h
theorem opr (h : ta σ H fun x H1 => tb σ H1 fun y H2 => r x y H2 Q) : tOp r ta tb σ H Q := h
theorem unr {r : V → Hp → VK → Prop} (h : ta σ H fun x H1 => r x H1 Q) : tUn r ta σ H Q := h
theorem tst (h : te σ H (kTest QT)) : tTest te σ H QT := h
theorem tbb (h : te σ H (kTest QT)) : tB te σ H QT := h
theorem exb {b : Bool} (h : QT b H) : kTest QT (.bl b) H := ⟨b, rfl, h⟩
theorem exi {j : Int} {QO : Option Int → Hp → Prop} (h : QO (some j) H) : kPart QO (.int j) H := ⟨j, rfl, h⟩
theorem tand (h : c1 σ H fun b H1 => if b = true then c2 σ H1 QT else QT false H1) : tAnd c1 c2 σ H QT := h
theorem tor (h : c1 σ H fun b H1 => if b = true then QT true H1 else c2 σ H1 QT) : tOr c1 c2 σ H QT := h
theorem tnot (h : c1 σ H fun b H1 => QT (!b) H1) : tNot c1 σ H QT := h
theorem tif (h : c1 σ H fun b H1 => if b = true then ta σ H1 Q else tb σ H1 Q) : tIf c1 ta tb σ H Q := h
theorem andv (h : ta σ H (kAnd tb σ Q)) : tAndV ta tb σ H Q := h
theorem orv (h : ta σ H (kOr tb σ Q)) : tOrV ta tb σ H Q := h
theorem kand {b : Bool} (h : if b = true then tb σ H Q else Q (.bl false) H) : kAnd tb σ Q (.bl b) H := ⟨b, rfl, h⟩
theorem kor {b : Bool} (h : if b = true then Q (.bl true) H else tb σ H Q) : kOr tb σ Q (.bl b) H := ⟨b, rfl, h⟩
theorem notv (h : ta σ H (kNot Q)) : tNotV ta σ H Q := h
theorem knot {b : Bool} (h : Q (.bl (!b)) H) : kNot Q (.bl b) H := ⟨b, rfl, h⟩
theorem tnil (h : QA [] H) : tNil σ H QA := h
theorem tcons (h : ta σ H fun x H1 => tr σ H1 fun xs H2 => QA (x :: xs) H2) : tCons ta tr σ H QA := h
theorem tcb {r : List V → Hp → VK → Prop} (h : tl σ H fun vs H1 => r vs H1 Q) : tCB r tl σ H Q := h
theorem tcall {sp : Sp} {dvs : List V} {E : XK} (h : tl σ H fun vs H1 => sp (vs ++ dvs) H1 Q E) : tCall sp dvs E tl σ H Q := h
theorem ttup (h : tl σ H fun xs H1 => xs.length ≤ sizeLine ∧ ∀ p, H1 p = none → Q (.ref p) (upd H1 p (.tup xs))) : tTup tl σ H Q := h
theorem tlst (h : tl σ H fun xs H1 => xs.length ≤ sizeLine ∧ ∀ p, H1 p = none → Q (.ref p) (upd H1 p (.lst xs))) : tLst tl σ H Q := h
theorem tbm {T : String} {r : V → List V → Hp → VK → Prop} (h : to σ H fun x H1 => tyV K T x H1 ∧ tl σ H1 fun xs H2 => r x xs H2 Q) : tBM K T r to tl σ H Q := h
theorem tbm0 {T : String} {r : V → List V → Hp → VK → Prop} (h : to σ H fun x H1 => tyV K T x H1 ∧ r x [] H1 Q) : tBM0 K T r to σ H Q := h
theorem tsl {r : V → Option Int → Option Int → Hp → VK → Prop} {t1 t2 : TO} (h : te σ H fun x H1 => t1 σ H1 fun l H2 => t2 σ H2 fun u H3 => r x l u H3 Q) : tSl r te t1 t2 σ H Q := h
theorem prt {QO : Option Int → Hp → Prop} (h : te σ H (kPart QO)) : tPart te σ H QO := h
theorem npr {QO : Option Int → Hp → Prop} (h : QO none H) : tNoPart σ H QO := h
theorem rI0' {g : Int → Int → V} {a b : Int} (h : Q (g a b) H) : rI0 g (.int a) (.int b) H Q := ⟨a, b, rfl, rfl, h⟩
theorem rI' {C : Int → Int → Prop} {g : Int → Int → V} {a b : Int} (hc : C a b) (h : Q (g a b) H) : rI C g (.int a) (.int b) H Q := ⟨a, b, rfl, rfl, hc, h⟩
theorem rU' {g : Int → V} {a : Int} (h : Q (g a) H) : rU g (.int a) H Q := ⟨a, rfl, h⟩
theorem req (hs : scal x y = true) (h : Q (.bl (decide (x = y))) H) : rEq x y H Q := ⟨hs, h⟩
theorem rne (hs : scal x y = true) (h : Q (.bl (!decide (x = y))) H) : rNe x y H Q := ⟨hs, h⟩
theorem ixl {p : Addr} {xs : List V} {j : Int} (hp : SqL K H p xs) (ha : atI xs j = some v) (h : Q v H) : rIxL K (.ref p) (.int j) H Q := ⟨p, xs, j, v, rfl, rfl, hp, ha, h⟩
theorem ixt {p : Addr} {xs : List V} {j : Int} (hp : SqT K H p xs) (ha : atI xs j = some v) (h : Q v H) : rIxT K (.ref p) (.int j) H Q := ⟨p, xs, j, v, rfl, rfl, hp, ha, h⟩
theorem setl {p : Addr} {xs : List V} {k : Int} {j : Nat} {QH : Hp → Prop} (hp : H p = some (.lst xs)) (hj : ixN xs.length k = some j) (h : QH (upd H p (.lst (xs.set j v)))) : rSetL (.ref p) (.int k) v H QH := ⟨p, xs, k, j, rfl, rfl, hp, hj, h⟩
theorem ins {neg : Bool} {p : Addr} {xs : List V} (hp : SqL K H p xs) (hx : flatV x = true) (ha : xs.all flatV = true) (h : Q (.bl (if neg then !inV x xs else inV x xs)) H) : rIn K neg x (.ref p) H Q := ⟨p, xs, rfl, .inl hp, hx, ha, h⟩
theorem inst {neg : Bool} {p : Addr} {xs : List V} (hp : SqT K H p xs) (hx : flatV x = true) (ha : xs.all flatV = true) (h : Q (.bl (if neg then !inV x xs else inV x xs)) H) : rIn K neg x (.ref p) H Q := ⟨p, xs, rfl, .inr hp, hx, ha, h⟩
theorem app {l : Addr} {xs : List V} (hl : H l = some (.lst xs)) (hn : xs.length < sizeLine) (h : Q .non (upd H l (.lst (xs ++ [y])))) : rAppend (.ref l) [y] H Q := ⟨l, xs, y, rfl, rfl, hl, hn, h⟩
theorem rvs {l : Addr} {xs : List V} (hl : H l = some (.lst xs)) (h : Q .non (upd H l (.lst xs.reverse))) : rReverse (.ref l) [] H Q := ⟨l, xs, rfl, rfl, hl, h⟩
theorem tyl {l : Addr} {xs : List V} {P : Prop} (hl : SqL K H l xs) (h : P) : tyV K "list" (.ref l) H ∧ P := ⟨.inl ⟨rfl, xs, hl⟩, h⟩
theorem sll {p : Addr} {xs : List V} {lo hi : Option Int} (hp : SqL K H p xs) (h : ∀ q, H q = none → Q (.ref q) (upd H q (.lst (cutV xs lo hi)))) : rSlL K (.ref p) lo hi H Q := ⟨p, xs, rfl, hp, h⟩
theorem cat {a b : Addr} {xs ys : List V} (h1 : H a = some (.lst xs)) (h2 : H b = some (.lst ys)) (hn : xs.length + ys.length ≤ sizeLine) (h : ∀ q, H q = none → Q (.ref q) (upd H q (.lst (xs ++ ys)))) : rCat (.ref a) (.ref b) H Q := ⟨a, b, xs, ys, rfl, rfl, h1, h2, hn, h⟩
theorem srtd {a : Addr} {ns : List Int} (h1 : SqL K H a (ns.map V.int)) (h : ∀ (ms : List Int) (q : Addr), ms.Perm ns → ms.Pairwise (· ≤ ·) → H q = none → Q (.ref q) (upd H q (.lst (ms.map V.int)))) : rSortedI K [.ref a] H Q := ⟨a, ns, rfl, h1, h⟩
theorem len_l {p : Addr} {xs : List V} (hp : SqL K H p xs) (h : Q (.int xs.length) H) : rLen K [.ref p] H Q := ⟨p, xs, rfl, .inl hp, h⟩
theorem len_t {p : Addr} {xs : List V} (hp : SqT K H p xs) (h : Q (.int xs.length) H) : rLen K [.ref p] H Q := ⟨p, xs, rfl, .inr hp, h⟩
theorem lst_l {p : Addr} {xs : List V} (hp : SqL K H p xs) (h : ∀ l, H l = none → Q (.ref l) (upd H l (.lst xs))) : rLst K [.ref p] H Q := ⟨p, xs, rfl, .inl hp, h⟩
theorem lst_t {p : Addr} {xs : List V} (hp : SqT K H p xs) (h : ∀ l, H l = none → Q (.ref l) (upd H l (.lst xs))) : rLst K [.ref p] H Q := ⟨p, xs, rfl, .inr hp, h⟩
theorem tup_l {p : Addr} {xs : List V} (hp : SqL K H p xs) (h : ∀ l, H l = none → Q (.ref l) (upd H l (.tup xs))) : rTupl K [.ref p] H Q := ⟨p, xs, rfl, .inl ⟨hp, h⟩⟩
theorem tup_t {p : Addr} {xs : List V} (hp : SqT K H p xs) (h : Q (.ref p) H) : rTupl K [.ref p] H Q := ⟨p, xs, rfl, .inr ⟨hp, h⟩⟩
theorem int_i {a : Int} (h : Q (.int a) H) : rInt [.int a] H Q := .inl ⟨a, rfl, h⟩
theorem abs_i {a : Int} (h : Q (.int (if a < 0 then -a else a)) H) : rAbs [.int a] H Q := ⟨a, rfl, h⟩
theorem max_i {a b : Int} (h : Q (.int (if b > a then b else a)) H) : rMax [.int a, .int b] H Q := ⟨a, b, rfl, h⟩
theorem min_i {a b : Int} (h : Q (.int (if b < a then b else a)) H) : rMin [.int a, .int b] H Q := ⟨a, b, rfl, h⟩
theorem adds {a b : Str} (hl : a.length + b.length ≤ sizeLine) (h : Q (.str (a ++ b)) H) : rAddStr (.str a) (.str b) H Q := ⟨a, b, rfl, rfl, hl, h⟩
theorem tru (h : te σ H (kTru K QT)) : tTruth K te σ H QT := h
theorem trl {p : Addr} {xs : List V} (hp : SqL K H p xs) (h : QT (!xs.isEmpty) H) : kTru K QT (.ref p) H := ⟨_, .inl ⟨xs, hp, rfl⟩, h⟩
theorem trt {p : Addr} {xs : List V} (hp : SqT K H p xs) (h : QT (!xs.isEmpty) H) : kTru K QT (.ref p) H := ⟨_, .inr (.inl ⟨xs, hp, rfl⟩), h⟩
theorem itT {A B : Prop} (h : A) : if true = true then A else B := by rw [if_pos rfl]; exact h
theorem itF {A B : Prop} (h : B) : if false = true then A else B := by rw [if_neg Bool.false_ne_true]; exact h
theorem itNT {A B : Prop} (h : B) : if (!true) = true then A else B := itF h
theorem itNF {A B : Prop} (h : A) : if (!false) = true then A else B := itT h
theorem itD {p : Prop} [Decidable p] {A B : Prop} (h1 : p → A) (h2 : ¬ p → B) : if decide p = true then A else B := by
  by_cases h : p
  · rw [if_pos (decide_eq_true h)]; exact h1 h
  · rw [if_neg (by rw [decide_eq_false h]; decide)]; exact h2 h
theorem itN {b : Bool} {A B : Prop} (h1 : b = false → A) (h2 : b = true → B) : if (!b) = true then A else B := by
  cases b with
  | true => exact itF (h2 rfl)
  | false => exact itT (h1 rfl)
theorem itB {b : Bool} {A B : Prop} (h1 : b = true → A) (h2 : b = false → B) : if b = true then A else B := by
  cases b with
  | true => exact itT (h1 rfl)
  | false => exact itF (h2 rfl)
end

/-! ### frames -/
/-- all but p is as it was -/
def Fr (p : Addr) (H H' : Hp) : Prop := ∀ b o, b ≠ p → H b = some o → H' b = some o
theorem Fr.refl (p : Addr) (H : Hp) : Fr p H H := fun _ _ _ h => h
theorem Fr.trans {p : Addr} {H H1 H2 : Hp} (a : Fr p H H1) (b : Fr p H1 H2) : Fr p H H2 := fun x o n h => b x o n (a x o n h)
theorem Fr.of {p : Addr} {H H' : Hp} (s : Same H H') : Fr p H H' := fun b o _ h => s b o h
theorem Fr.upd {p : Addr} {H H' : Hp} {o : HO} (f : Fr p H H') : Fr p H (upd H' p o) := fun b u n h => by rw [upd_ne n]; exact f b u n h
theorem Fr.l {K : PySem.W.Frag} {p a : Addr} {H H' : Hp} {xs : List V} (f : Fr p H H') (n : a ≠ p) (h : SqL K H a xs) : SqL K H' a xs := by
  rcases h with (h | ⟨o, h⟩) | h
  · exact .inl (.inl (f _ _ n h))
  · exact .inl (.inr ⟨o, f _ _ n h⟩)
  · exact .inr h
theorem Fr.t {K : PySem.W.Frag} {p a : Addr} {H H' : Hp} {xs : List V} (f : Fr p H H') (n : a ≠ p) (h : SqT K H a xs) : SqT K H' a xs := by
  rcases h with (h | ⟨o, h⟩) | h
  · exact .inl (.inl (f _ _ n h))
  · exact .inl (.inr ⟨o, f _ _ n h⟩)
  · exact .inr h
theorem same_new {H : Hp} {p : Addr} {o : HO} (h : H p = none) : Same H (upd H p o) := fun b x e => by
  rw [upd_ne (ne_of_none e h)]
  exact e
/-- an object that H does not know may change -/
theorem same_mut {H H' : Hp} {p : Addr} {o : HO} (s : Same H H') (h : H p = none) : Same H (upd H' p o) := fun a u ha => by
  rw [upd_ne (ne_of_none ha h)]
  exact s a u ha
theorem same_t {K : PySem.W.Frag} {H H' : Hp} {a : Addr} {xs : List V} (e : Same H H') (h : SqT K H a xs) : SqT K H' a xs := by
  rcases h with (h | ⟨o, h⟩) | h
  · exact .inl (.inl (e _ _ h))
  · exact .inl (.inr ⟨o, e _ _ h⟩)
  · exact .inr h
/-- what stood when g was new stands when g changes -/
theorem sq_mut {K : PySem.W.Frag} {H H' : Hp} {b g : Addr} {xs : List V} {o : HO} (h : SqL K H b xs) (hg : H g = none) (h' : SqL K H' b xs) : SqL K (upd H' g o) b xs := by
  by_cases e : b = g
  · subst e
    rcases h with (h | ⟨o, h⟩) | h
    · rw [hg] at h; cases h
    · rw [hg] at h; cases h
    · exact .inr h
  · rcases h' with (h' | ⟨o, h'⟩) | h'
    · exact .inl (.inl (by rw [upd_ne e]; exact h'))
    · exact .inl (.inr ⟨o, by rw [upd_ne e]; exact h'⟩)
    · exact .inr h'
/-- the heap without p -/
def wo (H : Hp) (p : Addr) : Hp := fun b => if b = p then none else H b
theorem wo_ne {H : Hp} {p b : Addr} (n : b ≠ p) : wo H p b = H b := by unfold wo; rw [if_neg n]
theorem wo_p {H : Hp} {p : Addr} : wo H p p = none := by unfold wo; rw [if_pos rfl]
theorem wo_same {H : Hp} {p : Addr} : Same (wo H p) H := fun b o e => by
  unfold wo at e
  split at e
  · cases e
  · exact e
theorem Fr.wo {p : Addr} {H H' : Hp} (f : Fr p H H') : Same (wo H p) (QB.wo H' p) := fun b o e => by
  by_cases n : b = p
  · subst n; rw [wo_p] at e; cases e
  · rw [wo_ne n] at e ⊢; exact f b o n e
theorem wo_upd {p : Addr} {H : Hp} {o : HO} : Same (wo H p) (wo (upd H p o) p) := Fr.wo ((Fr.refl p H).upd)

/-! ### defs as packages -/
structure Dd (K : PySem.W.Frag) (mg : Str → Option Value) (x : Str) (st : Stmt) (ps : List Str) : Prop where
  ex : ∃ (f : Addr) (fd : FuncData), C8.Def K mg x st f fd ∧ Binds K fd ps [] ∧ fd.defaults = .none
theorem dd_mk {K : PySem.W.Frag} {mg : Str → Option Value} {x : Str} {st : Stmt} {ps : List Str} {h : Heap} {f : Addr} {oc : Value} {od an : Option Addr} {osl : Array (Option Value)} {kV doc pm cdv ct : Value}
    (X : K.In h) (G : h.Ns mainGlobals mg) (a : PySem.W.nsIn K mainGlobals x = some (some (.ref f)))
    (l : K.lookup f = some ⟨oc, od, .func (PySem.W.fnOf x x (C8.fnArgs st) (C8.fnBody st) (C8.fnScope st) .none kV doc pm an cdv ct), osl⟩) (c : PySem.W.codeIn K cdv x = true) (k : PySem.W.keepIn K (.ref f) = true)
    (b : ∀ (kV doc pm : Value) (an : Option Addr) (cdv ct : Value) (us : List Value), us.length = ps.length → bindArgs (PySem.W.fnOf x x (C8.fnArgs st) (C8.fnBody st) (C8.fnScope st) .none kV doc pm an cdv ct) ⟨us, []⟩ = pure (ps.zip us)) : Dd K mg x st ps :=
  ⟨f, _, ⟨⟨_, _, _, _, _, _, _, _, _, _, rfl, l, c⟩, PySem.W.mg_of X G a, k⟩, .all (b kV doc pm an cdv ct), rfl⟩
theorem cal_of {P : Program} {w : World} {K : PySem.W.Frag} {mg : Str → Option Value} {base : Heap} {x : Str} {st : Stmt} {N ps : List Str} {k : Nat} {sp : Sp} (d : Dd K mg x st ps) (S : FnScope N ps (C8.fnScope st)) (len : ∀ vs H Q E, sp vs H Q E → vs.length = ps.length)
    (hbody : ∀ (f : Addr) (cdv : Value) (A : Around) (outer : List Env) (s : Shared) (H : Hp) (vs : List V) (Q : VK) (E : XK), Room k (A.deeper (envOfC x (C8.fnScope st) s.heap.objs.size f cdv)) → sp vs H Q E →
      ∃ t, PSs (cxOf CX0 P w K mg base N x (C8.fnScope st) f cdv A outer s H E).nox (C8.fnBody st) t ∧ t { nx := fun _ H' => Q .non H', rt := Q } (start N vs) H) : C8.Cal P w K mg base (k + 1) x sp [] := by
  obtain ⟨f, fd, F, b, _⟩ := d.ex
  exact C8.cal0 F b .nil S len (hbody f)
/-! ### ints in sequences -/
theorem idx_before : ∀ (ns : List Int) (x y : Int) (m : Nat), m < ns.idxOf x → ns[m]? = some y → y ≠ x
  | [], _, _, _, h, _ => by simp at h
  | z :: r, x, y, 0, h, e => by
    simp at e
    subst e
    intro e2
    subst e2
    simp at h
  | z :: r, x, y, m + 1, h, e => by
    rw [List.idxOf_cons] at h
    by_cases hz : z = x
    · subst hz; simp at h
    · have : (z == x) = false := by simp [hz]
      rw [this] at h
      simp at h e
      exact idx_before r x y m h e
theorem flat_ints (ns : List Int) : (ns.map V.int).all flatV = true := by simp [List.all_eq_true, flatV]
theorem in_ints (x : Int) (ns : List Int) : inV (.int x) (ns.map V.int) = decide (x ∈ ns) := by
  unfold inV
  induction ns with
  | nil => rfl
  | cons y r ih =>
    rw [List.map_cons, List.any_cons, ih]
    show ((y == x) || decide (x ∈ r)) = decide (x ∈ y :: r)
    by_cases h : y = x
    · subst h; simp
    · have h' : ¬ x = y := fun e => h e.symm
      simp [h, h']
section
variable {K : PySem.W.Frag} {σ : L2.St} {H : Hp} {Q : VK} {QT : Bool → Hp → Prop} {D : Ends} {t u tb : TS} {te : TE} {x : Int} {p : Addr} {ns : List Int} {g : TG} {A B : Prop} {v : V}
theorem inL (hp : SqL K H p (ns.map V.int)) (h : Q (.bl (decide (x ∈ ns))) H) : rIn K false (.int x) (.ref p) H Q := ⟨p, _, rfl, .inl hp, rfl, flat_ints ns, by rw [in_ints]; exact h⟩
theorem niL (hp : SqL K H p (ns.map V.int)) (h : Q (.bl (!decide (x ∈ ns))) H) : rIn K true (.int x) (.ref p) H Q := ⟨p, _, rfl, .inl hp, rfl, flat_ints ns, by rw [in_ints]; exact h⟩
theorem inT (hp : SqT K H p (ns.map V.int)) (h : Q (.bl (decide (x ∈ ns))) H) : rIn K false (.int x) (.ref p) H Q := ⟨p, _, rfl, .inr hp, rfl, flat_ints ns, by rw [in_ints]; exact h⟩
theorem niT (hp : SqT K H p (ns.map V.int)) (h : Q (.bl (!decide (x ∈ ns))) H) : rIn K true (.int x) (.ref p) H Q := ⟨p, _, rfl, .inr hp, rfl, flat_ints ns, by rw [in_ints]; exact h⟩
theorem idxL (hp : SqL K H p (ns.map V.int)) (hx : x ∈ ns) (h : Q (.int ((ns.idxOf x : Nat) : Int)) H) : rIndex K (.ref p) [.int x] H Q := by
  have hi := List.idxOf_lt_length_of_mem hx
  refine ⟨p, _, .int x, ns.idxOf x, .int x, rfl, rfl, hp, rfl, flat_ints ns, ?_, ?_, fun m z hm hz => ?_, h⟩
  · rw [List.getElem?_map, List.getElem?_eq_getElem hi, List.getElem_idxOf]; rfl
  · show (x == x) = true
    simp
  · rw [List.getElem?_map] at hz
    cases e : ns[m]? with
    | none => rw [e] at hz; cases hz
    | some y =>
      rw [e] at hz
      cases hz
      show (y == x) = false
      obtain ⟨hl, ey⟩ := List.getElem?_eq_some_iff.mp e
      have := idx_before ns x y m hm e
      simpa using this
theorem cut_take {xs : List V} {k : Nat} (h : k ≤ xs.length) : cutV xs none (some (k : Int)) = xs.take k := by
  unfold cutV
  rw [HT.sIx_nat, HT.sIx_none, Nat.min_eq_left h]
  simp
theorem cut_drop {xs : List V} {k : Nat} (h : k ≤ xs.length) : cutV xs (some (k : Int)) none = xs.drop k := by
  unfold cutV
  rw [HT.sIx_nat, HT.sIx_none, Nat.min_eq_left h]
  exact List.take_of_length_le (by rw [List.length_drop]; omega)
theorem itND {c : Prop} [Decidable c] (h1 : ¬ c → A) (h2 : c → B) : if (!decide c) = true then A else B := by
  by_cases h : c
  · rw [if_neg (by rw [decide_eq_true h]; decide)]; exact h2 h
  · rw [if_pos (by rw [decide_eq_false h]; rfl)]; exact h1 h
theorem len_map {f : Int → V} : ((ns.map f).length : Int) = (ns.length : Int) := by rw [List.length_map]
theorem at_ints {j : Int} {y : Int} (h0 : 0 ≤ j) (h : ns[j.toNat]? = some y) : atI (ns.map V.int) j = some (.int y) := at_of (j := j.toNat) (by omega) (by rw [List.getElem?_map, h]; rfl)
theorem at_any {xs : List V} {j : Int} {y : V} (h0 : 0 ≤ j) (h : xs[j.toNat]? = some y) : atI xs j = some y := at_of (j := j.toNat) (by omega) h
/-! ### for -/
def ForW (J : It) (g : TG) (tb : TS) (D : Ends) (σ : L2.St) (H : Hp) : Prop := ∃ W : Nat → Nat → L2.St → Hp → Prop, (∃ m, W 0 m σ H) ∧ ∀ i m σ H, W i m σ H →
  (J.stop i H ∧ D.nx σ H) ∨ (J.go i H ∧ ∃ N : L2.St → Hp → Prop, (∀ σ' H', N σ' H' → ∃ m', m' < m ∧ W (i + 1) m' σ' H') ∧ ∀ x H', J.yld i H x H' → g x σ H' fun σ2 H2 => tb { D with nx := N, ct := N, bk := D.nx } σ2 H2)
def kRng1 (g : TG) (tb : TS) (D : Ends) (σ : L2.St) : List V → Hp → Prop := fun vs H1 => ∃ j : Int, vs = [.int j] ∧ -(2 ^ 62) ≤ j ∧ j < 2 ^ 62 ∧ ForW (Itr 0 j.toNat) g tb D σ H1
def kRng2 (g : TG) (tb : TS) (D : Ends) (σ : L2.St) : List V → Hp → Prop := fun vs H1 => ∃ i j : Int, vs = [.int i, .int j] ∧ (-(2 ^ 62) ≤ i ∧ i < 2 ^ 62 ∧ -(2 ^ 62) ≤ j ∧ j < 2 ^ 62) ∧ ForW (Itr i (j - i).toNat) g tb D σ H1
def kLst (K : PySem.W.Frag) (g : TG) (tb : TS) (D : Ends) (σ : L2.St) : VK := fun x H1 => ∃ a, x = .ref a ∧ (∃ xs, SqL K H1 a xs) ∧ ForW (Itl K a) g tb D σ H1
def kTpl (K : PySem.W.Frag) (g : TG) (tb : TS) (D : Ends) (σ : L2.St) : VK := fun x H1 => ∃ a, x = .ref a ∧ (∃ xs, SqT K H1 a xs) ∧ ForW (Itt K a) g tb D σ H1
theorem f_rng1 {ta : TA} (h : ta σ H (kRng1 g tb D σ)) : tFor (iRng1 ta) g tb D σ H := h
theorem f_rng2 {ta : TA} (h : ta σ H (kRng2 g tb D σ)) : tFor (iRng2 ta) g tb D σ H := h
theorem f_lst (h : te σ H (kLst K g tb D σ)) : tFor (iList K te) g tb D σ H := h
theorem f_tup (h : te σ H (kTpl K g tb D σ)) : tFor (iTup K te) g tb D σ H := h
theorem fs_rng1 {ta : TA} (h : ta σ H (kRng1 g tb { D with nx := u D } σ)) : tSeq (tFor (iRng1 ta) g tb) u D σ H := h
theorem fs_rng2 {ta : TA} (h : ta σ H (kRng2 g tb { D with nx := u D } σ)) : tSeq (tFor (iRng2 ta) g tb) u D σ H := h
theorem fs_lst (h : te σ H (kLst K g tb { D with nx := u D } σ)) : tSeq (tFor (iList K te) g tb) u D σ H := h
theorem fs_tup (h : te σ H (kTpl K g tb { D with nx := u D } σ)) : tSeq (tFor (iTup K te) g tb) u D σ H := h
/-- for i in range(n): Pv by the turn; N: the next turn, B: behind the loop -/
theorem k_rng1 {j : Int} (Pv : Nat → L2.St → Hp → Prop) (b1 : -(2 ^ 62) ≤ j) (b2 : j < 2 ^ 62) (h0 : Pv 0 σ H)
    (hs : ∀ (i : Nat) σ H, (i : Int) < j → Pv i σ H → ∀ N B : L2.St → Hp → Prop, (∀ σ H, Pv (i + 1) σ H → N σ H) → (∀ σ H, D.nx σ H → B σ H) → g (.int (i : Int)) σ H fun σ2 H2 => tb ⟨N, D.rt, B, N⟩ σ2 H2)
    (hd : ∀ σ H, Pv j.toNat σ H → D.nx σ H) : kRng1 g tb D σ [.int j] H := by
  refine ⟨j, rfl, b1, b2, for_range (lo := 0) (n := j.toNat) Pv h0 (fun i σ H hi hp => ?_) hd⟩
  have e : (0 : Int) + (i : Int) = (i : Int) := Int.zero_add _
  rw [e]
  exact hs i σ H (by omega) hp _ _ (fun _ _ q => q) (fun _ _ q => q)
theorem k_rng2 {lo j : Int} (Pv : Nat → L2.St → Hp → Prop) (b : -(2 ^ 62) ≤ lo ∧ lo < 2 ^ 62 ∧ -(2 ^ 62) ≤ j ∧ j < 2 ^ 62) (h0 : Pv 0 σ H)
    (hs : ∀ (i : Nat) σ H, lo + (i : Int) < j → Pv i σ H → ∀ N B : L2.St → Hp → Prop, (∀ σ H, Pv (i + 1) σ H → N σ H) → (∀ σ H, D.nx σ H → B σ H) → g (.int (lo + (i : Int))) σ H fun σ2 H2 => tb ⟨N, D.rt, B, N⟩ σ2 H2)
    (hd : ∀ σ H, Pv (j - lo).toNat σ H → D.nx σ H) : kRng2 g tb D σ [.int lo, .int j] H := by
  refine ⟨lo, j, rfl, b, for_range (lo := lo) (n := (j - lo).toNat) Pv h0 (fun i σ H hi hp => ?_) hd⟩
  exact hs i σ H (by omega) hp _ _ (fun _ _ q => q) (fun _ _ q => q)
theorem k_lst {a : Addr} {xs : List V} (Pv : Nat → L2.St → Hp → Prop) (h0 : Pv 0 σ H) (hl : ∀ i σ H, Pv i σ H → SqL K H a xs)
    (hs : ∀ (i : Nat) x σ H, xs[i]? = some x → Pv i σ H → ∀ N B : L2.St → Hp → Prop, (∀ σ H, Pv (i + 1) σ H → N σ H) → (∀ σ H, D.nx σ H → B σ H) → g x σ H fun σ2 H2 => tb ⟨N, D.rt, B, N⟩ σ2 H2)
    (hd : ∀ σ H, Pv xs.length σ H → D.nx σ H) : kLst K g tb D σ (.ref a) H :=
  ⟨a, rfl, ⟨xs, hl 0 σ H h0⟩, for_list (K := K) (a := a) (xs := xs) Pv h0 (fun i σ H _ h => hl i σ H h) (fun i x σ H hx hp => hs i x σ H hx hp _ _ (fun _ _ q => q) (fun _ _ q => q)) hd⟩
theorem k_tpl {a : Addr} {xs : List V} (Pv : Nat → L2.St → Hp → Prop) (h0 : Pv 0 σ H) (hl : ∀ i σ H, Pv i σ H → SqT K H a xs)
    (hs : ∀ (i : Nat) x σ H, xs[i]? = some x → Pv i σ H → ∀ N B : L2.St → Hp → Prop, (∀ σ H, Pv (i + 1) σ H → N σ H) → (∀ σ H, D.nx σ H → B σ H) → g x σ H fun σ2 H2 => tb ⟨N, D.rt, B, N⟩ σ2 H2)
    (hd : ∀ σ H, Pv xs.length σ H → D.nx σ H) : kTpl K g tb D σ (.ref a) H :=
  ⟨a, rfl, ⟨xs, hl 0 σ H h0⟩, for_tup (K := K) (a := a) (xs := xs) Pv h0 (fun i σ H _ h => hl i σ H h) (fun i x σ H hx hp => hs i x σ H hx hp _ _ (fun _ _ q => q) (fun _ _ q => q)) hd⟩
/-! a list or a tuple -/
def iSeq (K : PySem.W.Frag) (tl : TE) : TI := fun σ H R => iList K tl σ H R ∨ iTup K tl σ H R
theorem pi_seq {X : Cx} {tg e : Expr} {tl : TE} (h : PE X e tl) : PI X tg e (iSeq X.K tl) := ⟨fun pins s σ H R I q => q.elim (fun q => (pi_list h).run pins s σ H R I q) fun q => (pi_tup h).run pins s σ H R I q⟩
theorem f_seq {a : Addr} {xs : List V} {i : Nat} (he : σ[i]? = some (some (.ref a))) (Pv : Nat → L2.St → Hp → Prop) (h0 : Pv 0 σ H) (hl : (∀ i σ H, Pv i σ H → SqL K H a xs) ∨ (∀ i σ H, Pv i σ H → SqT K H a xs))
    (hs : ∀ (i : Nat) x σ H, xs[i]? = some x → Pv i σ H → ∀ N B : L2.St → Hp → Prop, (∀ σ H, Pv (i + 1) σ H → N σ H) → (∀ σ H, D.nx σ H → B σ H) → g x σ H fun σ2 H2 => tb ⟨N, D.rt, B, N⟩ σ2 H2)
    (hd : ∀ σ H, Pv xs.length σ H → D.nx σ H) : tFor (iSeq K (tVar i)) g tb D σ H := by
  rcases hl with hl | hl
  · exact .inl ⟨_, he, k_lst (K := K) Pv h0 hl hs hd⟩
  · exact .inr ⟨_, he, k_tpl (K := K) Pv h0 hl hs hd⟩
/-! ### while -/
theorem k_while {c : TT} (Pv : L2.St → Hp → Prop) (μ : L2.St → Hp → Nat) (h0 : Pv σ H)
    (hs : ∀ σ H, Pv σ H → ∀ (Y : Hp → Prop) (Z : Hp → Prop), (∀ H1, (∀ N B : L2.St → Hp → Prop, (∀ σ' H', Pv σ' H' → μ σ' H' < μ σ H → N σ' H') → (∀ σ' H', D.nx σ' H' → B σ' H') → tb ⟨N, D.rt, B, N⟩ σ H1) → Y H1) → (∀ H1, D.nx σ H1 → Z H1) → c σ H fun b H1 => if b = true then Y H1 else Z H1)
    (mono : ∀ σ H Q Q', (∀ b H1, Q b H1 → Q' b H1) → c σ H Q → c σ H Q') : tWhile c tb D σ H := by
  refine while_by Pv μ h0 (fun σ H p => ?_) mono
  exact hs σ H p _ _ (fun H1 q => q _ _ (fun σ' H' p' l => ⟨p', l⟩) (fun _ _ q => q)) (fun H1 q => q)
/-! ### comprehensions -/
def LcW (J : It) (g : TG) (tt : TT) (te : TE) (vs : List Nat) (σ : L2.St) (H1 : Hp) (Q : VK) : Prop := ∀ D, H1 D = none → ∃ W : Nat → Nat → Hp → Prop, (∃ m, W 0 m (upd H1 D (.lst []))) ∧ ∀ i m H, W i m H →
  (J.stop i H ∧ Q (.ref D) H) ∨ (J.go i H ∧ ∃ Nx : Hp → Prop, (∀ H', Nx H' → ∃ m', m' < m ∧ W (i + 1) m' H') ∧ ∀ x H', J.yld i H x H' → g x (wipe σ vs) H' fun σ2 H2 => wipe σ2 vs = wipe σ vs ∧ tt σ2 H2 fun b H3 =>
    if b = true then te σ2 H3 fun y H4 => ∃ acc, H4 D = some (.lst acc) ∧ acc.length < sizeLine ∧ Nx (upd H4 D (.lst (acc ++ [y]))) else Nx H3)
def kcRng1 (g : TG) (tt : TT) (te : TE) (vs : List Nat) (σ : L2.St) (Q : VK) : List V → Hp → Prop := fun xs H1 => ∃ j : Int, xs = [.int j] ∧ -(2 ^ 62) ≤ j ∧ j < 2 ^ 62 ∧ LcW (Itr 0 j.toNat) g tt te vs σ H1 Q
def kcLst (K : PySem.W.Frag) (g : TG) (tt : TT) (te : TE) (vs : List Nat) (σ : L2.St) (Q : VK) : VK := fun x H1 => ∃ a, x = .ref a ∧ (∃ xs, SqL K H1 a xs) ∧ LcW (Itl K a) g tt te vs σ H1 Q
def kcTpl (K : PySem.W.Frag) (g : TG) (tt : TT) (te : TE) (vs : List Nat) (σ : L2.St) (Q : VK) : VK := fun x H1 => ∃ a, x = .ref a ∧ (∃ xs, SqT K H1 a xs) ∧ LcW (Itt K a) g tt te vs σ H1 Q
variable {tt : TT} {vs : List Nat} {tl : TE}
theorem c_rng1 {ta : TA} (h : ta σ H (kcRng1 g tt te vs σ Q)) : tLc (iRng1 ta) g tt te vs σ H Q := h
theorem c_lstL (h : tl σ H (kcLst K g tt te vs σ Q)) : tLc (iList K tl) g tt te vs σ H Q := h
theorem c_tupL (h : tl σ H (kcTpl K g tt te vs σ Q)) : tLc (iTup K tl) g tt te vs σ H Q := h
/-- over any iterator whose i-th item is xs[i] while G stands -/
theorem lcw {J : It} {xs : List V} (hsz : xs.length < sizeLine) (Pv : Addr → Nat → Hp → List V → Prop) (h0 : ∀ D, H D = none → Pv D 0 (upd H D (.lst [])) [])
    (hgo : ∀ D i H' acc, i < xs.length → Pv D i H' acc → J.go i H' ∧ ∀ x H2, J.yld i H' x H2 → H2 = H' ∧ xs[i]? = some x) (hst : ∀ D H' acc, Pv D xs.length H' acc → J.stop xs.length H')
    (hl : ∀ D i H' acc, Pv D i H' acc → H' D = some (.lst acc) ∧ acc.length ≤ i)
    (hs : ∀ D (i : Nat) x H' acc, xs[i]? = some x → Pv D i H' acc → ∀ (N : VK) (N0 : Hp → Prop), (∀ y H4, H4 D = some (.lst acc) → Pv D (i + 1) (upd H4 D (.lst (acc ++ [y]))) (acc ++ [y]) → N y H4) → (∀ H3, Pv D (i + 1) H3 acc → N0 H3) →
      g x (wipe σ vs) H' fun σ2 H2 => wipe σ2 vs = wipe σ vs ∧ tt σ2 H2 fun b H3 => if b = true then te σ2 H3 N else N0 H3)
    (hd : ∀ D H' acc, H D = none → Pv D xs.length H' acc → Q (.ref D) H') : LcW J g tt te vs σ H Q := by
  intro D hD
  refine ⟨fun i m H' => m = xs.length - i ∧ i ≤ xs.length ∧ ∃ acc, Pv D i H' acc, ⟨xs.length, by simp, Nat.zero_le _, [], h0 D hD⟩, ?_⟩
  rintro i m H' ⟨rfl, hi, acc, p⟩
  by_cases hlt : i < xs.length
  · obtain ⟨g1, g2⟩ := hgo D i H' acc hlt p
    refine .inr ⟨g1, fun H2 => ∃ acc, Pv D (i + 1) H2 acc, fun H2 p' => ⟨xs.length - (i + 1), by omega, rfl, hlt, p'⟩, fun x H2 y => ?_⟩
    obtain ⟨e, ex⟩ := g2 x H2 y
    subst e
    refine hs D i x _ acc ex p _ _ (fun y H4 e4 p4 => ⟨acc, e4, Nat.lt_of_le_of_lt (Nat.le_trans (hl D i _ acc p).2 hi) hsz, _, p4⟩) (fun H3 p3 => ⟨acc, p3⟩)
  · have e : i = xs.length := by omega
    subst e
    exact .inl ⟨hst D H' acc p, hd D H' acc hD p⟩
/-- the element and the test read what stood: f says what comes of an item -/
theorem lcp {J : It} {xs : List V} (hsz : xs.length < sizeLine) (f : V → Option V)
    (hgo : ∀ (i : Nat) H', i < xs.length → Same H H' → J.go i H' ∧ ∀ x H2, J.yld i H' x H2 → H2 = H' ∧ xs[i]? = some x) (hst : ∀ H', Same H H' → J.stop xs.length H')
    (hs : ∀ x H', x ∈ xs → Same H H' → ∀ (N : VK) (N0 : Hp → Prop), (∀ y, f x = some y → N y H') → (f x = none → N0 H') →
      g x (wipe σ vs) H' fun σ2 H2 => wipe σ2 vs = wipe σ vs ∧ tt σ2 H2 fun b H3 => if b = true then te σ2 H3 N else N0 H3)
    (hd : ∀ D H', H D = none → Same H H' → H' D = some (.lst (xs.filterMap f)) → Q (.ref D) H') : LcW J g tt te vs σ H Q := by
  refine lcw hsz (fun D i H' acc => H D = none ∧ Same H H' ∧ H' D = some (.lst acc) ∧ acc = (xs.take i).filterMap f) (fun D hD => ⟨hD, same_new hD, upd_same, by simp⟩)
    (fun D i H' acc hi p => hgo i H' hi p.2.1) (fun D H' acc p => hst H' p.2.1) (fun D i H' acc p => ⟨p.2.2.1, ?_⟩) (fun D i x H' acc hx p N N0 h1 h2 => ?_) (fun D H' acc hD p => ?_)
  · rw [p.2.2.2]
    exact Nat.le_trans (List.length_filterMap_le _ _) (by rw [List.length_take]; omega)
  · obtain ⟨hD, sm, hl, ha⟩ := p
    have ex : (xs.take (i + 1)).filterMap f = (xs.take i).filterMap f ++ (match f x with | some y => [y] | none => []) := by
      rw [List.take_add_one, hx, List.filterMap_append]
      cases hf : f x <;> simp [hf]
    refine hs x H' (List.mem_of_getElem? hx) sm N N0 (fun y hf => h1 y H' hl ⟨hD, same_mut sm hD, upd_same, ?_⟩) (fun hf => h2 H' ⟨hD, sm, hl, ?_⟩)
    · rw [ex, hf, ha]
    · rw [ex, hf, ha]; simp
  · obtain ⟨_, sm, hl, ha⟩ := p
    rw [ha, List.take_length] at hl
    exact hd D H' hD sm hl
/-- the same by places: R i the list behind i turns -/
theorem lcR {J : It} {xs : List V} (hsz : xs.length < sizeLine) (R : Nat → List V) (r0 : R 0 = [])
    (hgo : ∀ (i : Nat) H', i < xs.length → Same H H' → J.go i H' ∧ ∀ x H2, J.yld i H' x H2 → H2 = H' ∧ xs[i]? = some x) (hst : ∀ H', Same H H' → J.stop xs.length H')
    (hs : ∀ (i : Nat) x H', xs[i]? = some x → Same H H' → ∀ (N : VK) (N0 : Hp → Prop), (∀ y, R (i + 1) = R i ++ [y] → N y H') → (R (i + 1) = R i → N0 H') →
      g x (wipe σ vs) H' fun σ2 H2 => wipe σ2 vs = wipe σ vs ∧ tt σ2 H2 fun b H3 => if b = true then te σ2 H3 N else N0 H3)
    (hd : ∀ D H', H D = none → Same H H' → H' D = some (.lst (R xs.length)) → Q (.ref D) H') : LcW J g tt te vs σ H Q := by
  refine lcw hsz (fun D i H' acc => H D = none ∧ Same H H' ∧ H' D = some (.lst acc) ∧ acc = R i ∧ acc.length ≤ i) (fun D hD => ⟨hD, same_new hD, upd_same, r0.symm, Nat.le_refl _⟩)
    (fun D i H' acc hi p => hgo i H' hi p.2.1) (fun D H' acc p => hst H' p.2.1) (fun D i H' acc p => ⟨p.2.2.1, p.2.2.2.2⟩) (fun D i x H' acc hx p N N0 h1 h2 => ?_) (fun D H' acc hD p => ?_)
  · obtain ⟨hD, sm, hl, ha, hn⟩ := p
    refine hs i x H' hx sm N N0 (fun y hf => h1 y H' hl ⟨hD, same_mut sm hD, upd_same, by rw [hf, ha], by simp; omega⟩) (fun hf => h2 H' ⟨hD, sm, hl, by rw [hf, ha], by omega⟩)
  · obtain ⟨_, sm, hl, ha, _⟩ := p
    rw [ha] at hl
    exact hd D H' hD sm hl
/-- by places, new things may be made on the way -/
theorem lcRS {J : It} {xs : List V} (hsz : xs.length < sizeLine) (R : Nat → List V) (r0 : R 0 = [])
    (hgo : ∀ (i : Nat) H', i < xs.length → Same H H' → J.go i H' ∧ ∀ x H2, J.yld i H' x H2 → H2 = H' ∧ xs[i]? = some x) (hst : ∀ H', Same H H' → J.stop xs.length H')
    (hs : ∀ (i : Nat) x H', xs[i]? = some x → Same H H' → ∀ (N : VK) (N0 : Hp → Prop), (∀ y H4, Same H' H4 → R (i + 1) = R i ++ [y] → N y H4) → (∀ H3, Same H' H3 → R (i + 1) = R i → N0 H3) →
      g x (wipe σ vs) H' fun σ2 H2 => wipe σ2 vs = wipe σ vs ∧ tt σ2 H2 fun b H3 => if b = true then te σ2 H3 N else N0 H3)
    (hd : ∀ D H', H D = none → Same H H' → H' D = some (.lst (R xs.length)) → Q (.ref D) H') : LcW J g tt te vs σ H Q := by
  refine lcw hsz (fun D i H' acc => H D = none ∧ Same H H' ∧ H' D = some (.lst acc) ∧ acc = R i ∧ acc.length ≤ i) (fun D hD => ⟨hD, same_new hD, upd_same, r0.symm, Nat.le_refl _⟩)
    (fun D i H' acc hi p => hgo i H' hi p.2.1) (fun D H' acc p => hst H' p.2.1) (fun D i H' acc p => ⟨p.2.2.1, p.2.2.2.2⟩) (fun D i x H' acc hx p N N0 h1 h2 => ?_) (fun D H' acc hD p => ?_)
  · obtain ⟨hD, sm, hl, ha, hn⟩ := p
    refine hs i x H' hx sm N N0 (fun y H4 s4 hf => h1 y H4 (s4 _ _ hl) ⟨hD, same_mut (sm.trans s4) hD, upd_same, by rw [hf, ha], by simp; omega⟩) (fun H3 s3 hf => h2 H3 ⟨hD, sm.trans s3, s3 _ _ hl, by rw [hf, ha], by omega⟩)
  · obtain ⟨_, sm, hl, ha, _⟩ := p
    rw [ha] at hl
    exact hd D H' hD sm hl
theorem lst_go {a : Addr} {xs : List V} (hp : SqL K H a xs) : (∀ (i : Nat) H', i < xs.length → Same H H' → (Itl K a).go i H' ∧ ∀ x H2, (Itl K a).yld i H' x H2 → H2 = H' ∧ xs[i]? = some x) ∧ ∀ H', Same H H' → (Itl K a).stop xs.length H' :=
  ⟨fun i H' hi sm => ⟨⟨xs, xs[i], sm.seq hp, by simp [hi]⟩, fun x H2 y => ⟨y.1, y.2 xs (sm.seq hp)⟩⟩, fun H' sm => ⟨xs, sm.seq hp, Nat.le_refl _⟩⟩
theorem tup_go {a : Addr} {xs : List V} (hp : SqT K H a xs) : (∀ (i : Nat) H', i < xs.length → Same H H' → (Itt K a).go i H' ∧ ∀ x H2, (Itt K a).yld i H' x H2 → H2 = H' ∧ xs[i]? = some x) ∧ ∀ H', Same H H' → (Itt K a).stop xs.length H' :=
  ⟨fun i H' hi sm => ⟨⟨xs, xs[i], same_t sm hp, by simp [hi]⟩, fun x H2 y => ⟨y.1, y.2 xs (same_t sm hp)⟩⟩, fun H' sm => ⟨xs, same_t sm hp, Nat.le_refl _⟩⟩
def rngV (n : Nat) : List V := (List.range n).map fun i : Nat => V.int (i : Int)
theorem rng_go {n : Nat} : (∀ (i : Nat) H', i < (rngV n).length → Same H H' → (Itr 0 n).go i H' ∧ ∀ x H2, (Itr 0 n).yld i H' x H2 → H2 = H' ∧ (rngV n)[i]? = some x) ∧ ∀ H', Same H H' → (Itr 0 n).stop (rngV n).length H' := by
  have hl : (rngV n).length = n := by simp [rngV]
  refine ⟨fun i H' hi sm => ⟨by rw [hl] at hi; exact hi, fun x H2 y => ⟨y.1, ?_⟩⟩, fun H' sm => by rw [hl]; exact Nat.le_refl _⟩
  rw [y.2]
  rw [hl] at hi
  simp [rngV, hi]
theorem kc_lst {a : Addr} {xs : List V} (hp : SqL K H a xs) (hsz : xs.length < sizeLine) (f : V → Option V)
    (hs : ∀ x H', x ∈ xs → Same H H' → ∀ (N : VK) (N0 : Hp → Prop), (∀ y, f x = some y → N y H') → (f x = none → N0 H') → g x (wipe σ vs) H' fun σ2 H2 => wipe σ2 vs = wipe σ vs ∧ tt σ2 H2 fun b H3 => if b = true then te σ2 H3 N else N0 H3)
    (hd : ∀ D H', H D = none → Same H H' → H' D = some (.lst (xs.filterMap f)) → Q (.ref D) H') : kcLst K g tt te vs σ Q (.ref a) H :=
  ⟨a, rfl, ⟨xs, hp⟩, lcp hsz f (lst_go hp).1 (lst_go hp).2 hs hd⟩
theorem kc_tup {a : Addr} {xs : List V} (hp : SqT K H a xs) (hsz : xs.length < sizeLine) (f : V → Option V)
    (hs : ∀ x H', x ∈ xs → Same H H' → ∀ (N : VK) (N0 : Hp → Prop), (∀ y, f x = some y → N y H') → (f x = none → N0 H') → g x (wipe σ vs) H' fun σ2 H2 => wipe σ2 vs = wipe σ vs ∧ tt σ2 H2 fun b H3 => if b = true then te σ2 H3 N else N0 H3)
    (hd : ∀ D H', H D = none → Same H H' → H' D = some (.lst (xs.filterMap f)) → Q (.ref D) H') : kcTpl K g tt te vs σ Q (.ref a) H :=
  ⟨a, rfl, ⟨xs, hp⟩, lcp hsz f (tup_go hp).1 (tup_go hp).2 hs hd⟩
theorem kc_lstR {a : Addr} {xs : List V} (hp : SqL K H a xs) (hsz : xs.length < sizeLine) (R : Nat → List V) (r0 : R 0 = [])
    (hs : ∀ (i : Nat) x H', xs[i]? = some x → Same H H' → ∀ (N : VK) (N0 : Hp → Prop), (∀ y, R (i + 1) = R i ++ [y] → N y H') → (R (i + 1) = R i → N0 H') → g x (wipe σ vs) H' fun σ2 H2 => wipe σ2 vs = wipe σ vs ∧ tt σ2 H2 fun b H3 => if b = true then te σ2 H3 N else N0 H3)
    (hd : ∀ D H', H D = none → Same H H' → H' D = some (.lst (R xs.length)) → Q (.ref D) H') : kcLst K g tt te vs σ Q (.ref a) H :=
  ⟨a, rfl, ⟨xs, hp⟩, lcR hsz R r0 (lst_go hp).1 (lst_go hp).2 hs hd⟩
theorem kc_lstRS {a : Addr} {xs : List V} (hp : SqL K H a xs) (hsz : xs.length < sizeLine) (R : Nat → List V) (r0 : R 0 = [])
    (hs : ∀ (i : Nat) x H', xs[i]? = some x → Same H H' → ∀ (N : VK) (N0 : Hp → Prop), (∀ y H4, Same H' H4 → R (i + 1) = R i ++ [y] → N y H4) → (∀ H3, Same H' H3 → R (i + 1) = R i → N0 H3) → g x (wipe σ vs) H' fun σ2 H2 => wipe σ2 vs = wipe σ vs ∧ tt σ2 H2 fun b H3 => if b = true then te σ2 H3 N else N0 H3)
    (hd : ∀ D H', H D = none → Same H H' → H' D = some (.lst (R xs.length)) → Q (.ref D) H') : kcLst K g tt te vs σ Q (.ref a) H :=
  ⟨a, rfl, ⟨xs, hp⟩, lcRS hsz R r0 (lst_go hp).1 (lst_go hp).2 hs hd⟩
theorem kc_tupR {a : Addr} {xs : List V} (hp : SqT K H a xs) (hsz : xs.length < sizeLine) (R : Nat → List V) (r0 : R 0 = [])
    (hs : ∀ (i : Nat) x H', xs[i]? = some x → Same H H' → ∀ (N : VK) (N0 : Hp → Prop), (∀ y, R (i + 1) = R i ++ [y] → N y H') → (R (i + 1) = R i → N0 H') → g x (wipe σ vs) H' fun σ2 H2 => wipe σ2 vs = wipe σ vs ∧ tt σ2 H2 fun b H3 => if b = true then te σ2 H3 N else N0 H3)
    (hd : ∀ D H', H D = none → Same H H' → H' D = some (.lst (R xs.length)) → Q (.ref D) H') : kcTpl K g tt te vs σ Q (.ref a) H :=
  ⟨a, rfl, ⟨xs, hp⟩, lcR hsz R r0 (tup_go hp).1 (tup_go hp).2 hs hd⟩
theorem kc_rngR {j : Int} (b1 : 0 ≤ j) (b2 : j < 16777216) (R : Nat → List V) (r0 : R 0 = [])
    (hs : ∀ (i : Nat) H', (i : Int) < j → Same H H' → ∀ (N : VK) (N0 : Hp → Prop), (∀ y, R (i + 1) = R i ++ [y] → N y H') → (R (i + 1) = R i → N0 H') → g (.int (i : Int)) (wipe σ vs) H' fun σ2 H2 => wipe σ2 vs = wipe σ vs ∧ tt σ2 H2 fun b H3 => if b = true then te σ2 H3 N else N0 H3)
    (hd : ∀ D H', H D = none → Same H H' → H' D = some (.lst (R j.toNat)) → Q (.ref D) H') : kcRng1 g tt te vs σ Q [.int j] H := by
  have hl : (rngV j.toNat).length = j.toNat := by simp [rngV]
  refine ⟨j, rfl, by omega, by omega, lcR (xs := rngV j.toNat) (by rw [hl]; show j.toNat < 2 ^ 24; omega) R r0 rng_go.1 rng_go.2 (fun i x H' hx sm N N0 h1 h2 => ?_) (by rw [hl]; exact hd)⟩
  have hi : i < j.toNat := by rw [← hl]; exact (List.getElem?_eq_some_iff.mp hx).1
  have e : x = .int (i : Int) := by
    simp [rngV, hi] at hx
    exact hx.symm
  subst e
  exact hs i H' (by omega) sm N N0 h1 h2
theorem kc_rng {j : Int} (b1 : -(2 ^ 62) ≤ j) (b2 : j < 16777216) (f : V → Option V)
    (hs : ∀ (i : Nat) H', (i : Int) < j → Same H H' → ∀ (N : VK) (N0 : Hp → Prop), (∀ y, f (.int (i : Int)) = some y → N y H') → (f (.int (i : Int)) = none → N0 H') → g (.int (i : Int)) (wipe σ vs) H' fun σ2 H2 => wipe σ2 vs = wipe σ vs ∧ tt σ2 H2 fun b H3 => if b = true then te σ2 H3 N else N0 H3)
    (hd : ∀ D H', H D = none → Same H H' → H' D = some (.lst ((rngV j.toNat).filterMap f)) → Q (.ref D) H') : kcRng1 g tt te vs σ Q [.int j] H := by
  have hl : (rngV j.toNat).length = j.toNat := by simp [rngV]
  refine ⟨j, rfl, b1, by omega, lcp (xs := rngV j.toNat) (by rw [hl]; show j.toNat < 2 ^ 24; omega) f rng_go.1 rng_go.2 (fun x H' hx sm N N0 h1 h2 => ?_) hd⟩
  obtain ⟨i, hi, rfl⟩ := List.mem_map.mp hx
  exact hs i H' (by have := List.mem_range.mp hi; omega) sm N N0 h1 h2
theorem yes (h : QT true H) : tYes σ H QT := h
end
/-! ### data -/
mutual
theorem Dp.mono {K : PySem.W.Frag} {H H' : Hp} (s : Same H H') : ∀ {v : V} {d : PyData}, Dp K H v d → Dp K H' v d
  | _, _, .non => .non
  | _, _, .bl b => .bl b
  | _, _, .int i => .int i
  | _, _, .str x => .str x
  | _, _, .lst h a => .lst (s.seq h) (Dp.monoAll s a)
  | _, _, .tup h a => .tup (same_t s h) (Dp.monoAll s a)
theorem Dp.monoAll {K : PySem.W.Frag} {H H' : Hp} (s : Same H H') : ∀ {vs : List V} {ds : List PyData}, DpAll K H vs ds → DpAll K H' vs ds
  | _, _, .nil => .nil
  | _, _, .cons h t => .cons (Dp.mono s h) (Dp.monoAll s t)
end
theorem dp_ints {K : PySem.W.Frag} {H : Hp} : ∀ ns : List Int, DpAll K H (ns.map V.int) (ns.map PyData.int)
  | [] => .nil
  | n :: r => .cons (.int n) (dp_ints r)
theorem dp_app {K : PySem.W.Frag} {H : Hp} : ∀ {vs : List V} {ds : List PyData} {v : V} {d : PyData}, DpAll K H vs ds → Dp K H v d → DpAll K H (vs ++ [v]) (ds ++ [d])
  | _, _, _, _, .nil, h => .cons h .nil
  | _, _, _, _, .cons a b, h => .cons a (dp_app b h)
theorem dp_len {K : PySem.W.Frag} {H : Hp} : ∀ {vs : List V} {ds : List PyData}, DpAll K H vs ds → vs.length = ds.length
  | _, _, .nil => rfl
  | _, _, .cons _ b => by simp [dp_len b]
theorem dp_get {K : PySem.W.Frag} {H : Hp} : ∀ {vs : List V} {ds : List PyData} {i : Nat} {d : PyData}, DpAll K H vs ds → ds[i]? = some d → ∃ v, vs[i]? = some v ∧ Dp K H v d
  | _, _, _, _, .nil, h => by simp at h
  | _, _, 0, _, .cons a b, h => by simp at h; subst h; exact ⟨_, rfl, a⟩
  | _, _, i + 1, _, .cons a b, h => by simp at h; simpa using dp_get b h
theorem same_upd2 {G H : Hp} {t : Addr} {o : HO} (s : Same G H) : Same (upd G t o) (upd H t o) := fun b u e => by
  by_cases h : b = t
  · subst h; rw [upd_same] at e ⊢; exact e
  · rw [upd_ne h] at e ⊢; exact s b u e
/-! ### a dict of numbers by their order -/
def numsFrom : Nat → List Int → List (Key × V)
  | _, [] => []
  | n, v :: r => (.inl v, .int n) :: numsFrom (n + 1) r
theorem numsFrom_len : ∀ (s : List Int) (n : Nat), (numsFrom n s).length = s.length
  | [], _ => rfl
  | _ :: r, n => by simp [numsFrom, numsFrom_len r]
theorem numsFrom_val : ∀ (s : List Int) (n : Nat) (v : Int), valV (numsFrom n s) (.inl v) = if v ∈ s then some (.int ((n + s.idxOf v : Nat) : Int)) else none
  | [], _, _ => rfl
  | y :: r, n, v => by
    have ih := numsFrom_val r (n + 1) v
    unfold valV at ih ⊢
    rw [show numsFrom n (y :: r) = (Sum.inl y, V.int (n : Int)) :: numsFrom (n + 1) r from rfl, List.find?_cons]
    by_cases h : y = v
    · subst h
      simp
    · have h' : ¬ v = y := fun e => h e.symm
      have e1 : decide ((Sum.inl y : Key) = Sum.inl v) = false := decide_eq_false (fun e => h (Sum.inl.inj e))
      have e2 : (y == v) = false := by simp [h]
      simp only [e1, ih, List.idxOf_cons, e2, List.mem_cons, h', false_or]
      split <;> simp <;> omega
theorem numsFrom_snoc : ∀ (s : List Int) (n : Nat) (v : Int), numsFrom n (s ++ [v]) = numsFrom n s ++ [(.inl v, .int ((n + s.length : Nat) : Int))]
  | [], _, _ => rfl
  | y :: r, n, v => by
    show (_, _) :: numsFrom (n + 1) (r ++ [v]) = (_, _) :: (numsFrom (n + 1) r ++ _)
    rw [numsFrom_snoc r (n + 1) v]
    simp
    omega
/-! ### data: what == says -/
mutual
def plainD : PyData → Bool
  | .none => true
  | .int _ => true
  | .str _ => true
  | .list xs => plainDAll xs
  | .tuple xs => plainDAll xs
  | _ => false
def plainDAll : List PyData → Bool
  | [] => true
  | x :: xs => plainD x && plainDAll xs
end
mutual
theorem eqv_plain : ∀ (d e : PyData), plainD d = true → plainD e = true → (PyData.eqv d e = true ↔ d = e)
  | .none, e, _, h => by cases e <;> simp_all [PyData.eqv, plainD]
  | .int i, e, _, h => by cases e <;> simp_all [PyData.eqv, plainD]
  | .str x, e, _, h => by cases e <;> simp_all [PyData.eqv, plainD]
  | .list xs, e, hd, h => by
    cases e with
    | list ys =>
      have := eqv_plainAll xs ys (by simpa [plainD] using hd) (by simpa [plainD] using h)
      simp only [PyData.eqv, this, PyData.list.injEq]
    | _ => simp_all [PyData.eqv, plainD]
  | .tuple xs, e, hd, h => by
    cases e with
    | tuple ys =>
      have := eqv_plainAll xs ys (by simpa [plainD] using hd) (by simpa [plainD] using h)
      simp only [PyData.eqv, this, PyData.tuple.injEq]
    | _ => simp_all [PyData.eqv, plainD]
  | .bool _, _, h, _ => by simp [plainD] at h
  | .dict _, _, h, _ => by simp [plainD] at h
theorem eqv_plainAll : ∀ (ds es : List PyData), plainDAll ds = true → plainDAll es = true → (PyData.eqvAll ds es = true ↔ ds = es)
  | [], [], _, _ => by simp [PyData.eqvAll]
  | [], _ :: _, _, _ => by simp [PyData.eqvAll]
  | _ :: _, [], _, _ => by simp [PyData.eqvAll]
  | d :: ds, e :: es, h1, h2 => by
    simp only [plainDAll, Bool.and_eq_true] at h1 h2
    have a := eqv_plain d e h1.1 h2.1
    have b := eqv_plainAll ds es h1.2 h2.2
    simp only [PyData.eqvAll, Bool.and_eq_true, a, b, List.cons.injEq]
end
theorem eqv_dec {d e : PyData} [Decidable (d = e)] (h1 : plainD d = true) (h2 : plainD e = true) : PyData.eqv d e = decide (d = e) := by
  have := eqv_plain d e h1 h2
  by_cases h : d = e
  · rw [decide_eq_true h]; exact this.mpr h
  · rw [decide_eq_false h]
    cases hq : PyData.eqv d e with
    | true => exact absurd (this.mp hq) h
    | false => rfl
theorem plainAll_of : ∀ {ds : List PyData}, (∀ d ∈ ds, plainD d = true) → plainDAll ds = true
  | [], _ => rfl
  | d :: ds, h => by
    simp only [plainDAll, Bool.and_eq_true]
    exact ⟨h d List.mem_cons_self, plainAll_of fun x hx => h x (List.mem_cons_of_mem _ hx)⟩
theorem lay_of : ∀ {ds : List PyData}, (∀ d ∈ ds, PyData.canLay0 d = true) → PyData.canLayAll0 ds = true
  | [], _ => rfl
  | d :: ds, h => by
    simp only [PyData.canLayAll0, Bool.and_eq_true]
    exact ⟨h d List.mem_cons_self, lay_of fun x hx => h x (List.mem_cons_of_mem _ hx)⟩
theorem depth_of {n : Nat} : ∀ {ds : List PyData}, (∀ d ∈ ds, d.depth ≤ n) → PyData.depthAll ds ≤ n
  | [], _ => by simp [PyData.depthAll]
  | d :: ds, h => by
    simp only [PyData.depthAll]
    have h1 := h d List.mem_cons_self
    have h2 := depth_of fun x hx => h x (List.mem_cons_of_mem _ hx)
    omega
theorem shaped_t {ds : List PyData} (h : ∀ d ∈ ds, PyData.canLay0 d = true ∧ d.depth ≤ 63) : SeqAt.shaped (.tuple ds) = true := by
  unfold SeqAt.shaped
  rw [Bool.and_eq_true]
  refine ⟨by simp only [PyData.canLay0]; exact lay_of fun d hd => (h d hd).1, decide_eq_true ?_⟩
  simp only [PyData.depth]
  have := depth_of fun d hd => (h d hd).2
  omega
theorem shaped_l {ds : List PyData} (h : ∀ d ∈ ds, PyData.canLay0 d = true ∧ d.depth ≤ 63) : SeqAt.shaped (.list ds) = true := by
  unfold SeqAt.shaped
  rw [Bool.and_eq_true]
  refine ⟨by simp only [PyData.canLay0]; exact lay_of fun d hd => (h d hd).1, decide_eq_true ?_⟩
  simp only [PyData.depth]
  have := depth_of fun d hd => (h d hd).2
  omega
theorem shaped_ints_l (ns : List Int) : SeqAt.shaped (.list (ns.map PyData.int)) = true := shaped_l fun d hd => by
  obtain ⟨i, _, rfl⟩ := List.mem_map.mp hd
  exact ⟨rfl, by simp [PyData.depth]⟩
theorem shaped_ints_t (ns : List Int) : SeqAt.shaped (.tuple (ns.map PyData.int)) = true := shaped_t fun d hd => by
  obtain ⟨i, _, rfl⟩ := List.mem_map.mp hd
  exact ⟨rfl, by simp [PyData.depth]⟩
/-! ### isinstance -/
theorem isi {K : PySem.W.Frag} {H : Hp} {Q : VK} {x : V} {T C : String} {b : Bool} (ht : TyX K H x (.type T)) (hk : kitB T C = some b) (h : Q (.bl b) H) : rIsi K [x, .ty C] H Q := ⟨x, .ty C, .type T, .type C, b, rfl, .ty C, ht, kit_ty hk, h⟩
theorem ty_of_t {K : PySem.W.Frag} {H : Hp} {a : Addr} {xs : List V} (h : H a = some (.tup xs)) : TyX K H (.ref a) (.type "tuple") := .base (.tup h)
theorem ty_of_l {K : PySem.W.Frag} {H : Hp} {a : Addr} {xs : List V} (h : H a = some (.lst xs)) : TyX K H (.ref a) (.type "list") := .base (.lst h)
theorem ty_i {K : PySem.W.Frag} {H : Hp} {i : Int} : TyX K H (.int i) (.type "int") := .base (.int i)
theorem eqd {K : PySem.W.Frag} {H : Hp} {Q : VK} {x y : V} {d e : PyData} (h1 : Dp K H x d) (h2 : Dp K H y e) (s1 : SeqAt.shaped d = true) (s2 : SeqAt.shaped e = true) (h : Q (.bl (PyData.eqv d e)) H) : rEqD K x y H Q := ⟨d, e, h1, h2, s1, s2, h⟩
theorem ned {K : PySem.W.Frag} {H : Hp} {Q : VK} {x y : V} {d e : PyData} (h1 : Dp K H x d) (h2 : Dp K H y e) (s1 : SeqAt.shaped d = true) (s2 : SeqAt.shaped e = true) (h : Q (.bl (!PyData.eqv d e)) H) : rNeD K x y H Q := ⟨d, e, h1, h2, s1, s2, h⟩
/-! ### the laws' pool of draws -/
/-- the pool at p over the script at a -/
def Pool (K : PySem.W.Frag) (H : Hp) (p a : Addr) (ns : List Int) : Prop := SqL K (wo H p) a (ns.map V.int) ∧ ∃ i c s : Int, 0 ≤ i ∧ H p = some (.lst [.ref a, .int i, .int c, .int s])
def spDraw (K : PySem.W.Frag) : Sp := fun vs H Q _ => ∃ (p a : Addr) (ns : List Int) (m : Int), vs = [.ref p, .int m] ∧ 0 < m ∧ m < 2 ^ 60 ∧ Pool K H p a ns ∧ ∀ (r : Int) (H' : Hp), 0 ≤ r → r < m → Fr p H H' → Pool K H' p a ns → Q (.int r) H'
def spPick (K : PySem.W.Frag) : Sp := fun vs H Q _ => ∃ (p a l : Addr) (ns xs : List Int), vs = [.ref p, .ref l] ∧ Pool K H p a ns ∧ l ≠ p ∧ SqL K H l (xs.map V.int) ∧ 0 < xs.length ∧ xs.length < 1000 ∧ ∀ (x : Int) (H' : Hp), x ∈ xs → Fr p H H' → Pool K H' p a ns → Q (.int x) H'
def spNumber (K : PySem.W.Frag) : Sp := fun vs H Q _ => ∃ (p a : Addr) (ns : List Int), vs = [.ref p] ∧ Pool K H p a ns ∧ ∀ (x : Int) (H' : Hp), -1000000000 < x → x < 1000000000 → Fr p H H' → Pool K H' p a ns → Q (.int x) H'
def spKept (K : PySem.W.Frag) (m : Nat) : Sp := fun vs H Q _ => ∃ (p a : Addr) (ns : List Int), vs = [.ref p] ∧ Pool K H p a ns ∧ ∀ (l : Addr) (ks : List Int) (H' : Hp), H l = none → ks.Nodup → ks.length ≤ m → Fr p H H' → Pool K H' p a ns → H' l = some (.lst (ks.map V.int)) → Q (.ref l) H'
def spValues (K : PySem.W.Frag) : Sp := fun vs H Q _ => ∃ (p a l : Addr) (ns ks : List Int) (n : Nat), vs = [.ref p, .int n, .ref l] ∧ Pool K H p a ns ∧ l ≠ p ∧ SqL K H l (ks.map V.int) ∧ ks.length < 1000 ∧ n < 1000 ∧ ∀ (r : Addr) (xs : List Int) (H' : Hp), H r = none → xs.length = n → Fr p H H' → Pool K H' p a ns → H' r = some (.lst (xs.map V.int)) → Q (.ref r) H'
def spTaken (K : PySem.W.Frag) : Sp := fun vs H Q _ => ∃ (p a v l : Addr) (ns ks ws : List Int), vs = [.ref p, .ref v, .ref l] ∧ Pool K H p a ns ∧ l ≠ p ∧ v ≠ p ∧ SqL K H l (ks.map V.int) ∧ SqL K H v (ws.map V.int) ∧ ws.length < 1000 ∧ ∀ (r : Addr) (xs : List Int) (H' : Hp), H r = none → xs.length = ws.length → Fr p H H' → Pool K H' p a ns → H' r = some (.lst (xs.map V.int)) → Q (.ref r) H'
theorem wo_new {H : Hp} {p l : Addr} {o : HO} (hl : H l = none) : Same (wo H p) (wo (upd H l o) p) := (Fr.of (same_new hl)).wo
theorem Pool.fr {K : PySem.W.Frag} {H H' : Hp} {p a : Addr} {ns : List Int} {i c s : Int} (h : Pool K H p a ns) (f : Fr p H H') (hi : 0 ≤ i) (hp : H' p = some (.lst [.ref a, .int i, .int c, .int s])) : Pool K H' p a ns := ⟨f.wo.seq h.1, i, c, s, hi, hp⟩
theorem Pool.sq {K : PySem.W.Frag} {H : Hp} {p a : Addr} {ns : List Int} (h : Pool K H p a ns) : SqL K H a (ns.map V.int) := wo_same.seq h.1
theorem pool_mk {K : PySem.W.Frag} {H : Hp} {p a : Addr} {ns : List Int} {i c s : Int} (hS : SqL K H a (ns.map V.int)) (hp : H p = none) (hi : 0 ≤ i) : Pool K (upd H p (.lst [.ref a, .int i, .int c, .int s])) p a ns := by
  refine ⟨?_, i, c, s, hi, upd_same⟩
  rcases hS with (h | ⟨o, h⟩) | h
  · exact .inl (.inl (by rw [wo_ne (ne_of_none h hp), upd_ne (ne_of_none h hp)]; exact h))
  · exact .inl (.inr ⟨o, by rw [wo_ne (ne_of_none h hp), upd_ne (ne_of_none h hp)]; exact h⟩)
  · exact .inr h
/-- a new object, and then all but p as it was -/
theorem pool_new {K : PySem.W.Frag} {H : Hp} {p a l : Addr} {ns : List Int} {o : HO} (h : Pool K H p a ns) (hl : H l = none) : Pool K (upd H l o) p a ns := by
  obtain ⟨hS, i, c, s, h0, hp⟩ := h
  exact ⟨(wo_new hl).seq hS, i, c, s, h0, by rw [upd_ne (ne_of_none hp hl)]; exact hp⟩
/-- l is no part of the pool: it was new when the pool stood -/
theorem pool_mut {K : PySem.W.Frag} {H0 H : Hp} {p a l : Addr} {ns : List Int} {o : HO} (h0 : Pool K H0 p a ns) (hl : H0 l = none) (h : Pool K H p a ns) : Pool K (upd H l o) p a ns := by
  obtain ⟨hS, i, c, s, hi, hp⟩ := h
  obtain ⟨hS0, _, _, _, _, hp0⟩ := h0
  have np : p ≠ l := ne_of_none hp0 hl
  refine ⟨?_, i, c, s, hi, by rw [upd_ne np]; exact hp⟩
  have key : a = l → K.lookup a = K.lookup a ∧ SqL K (fun _ => Option.none) a (ns.map V.int) := fun e => by
    subst e
    have hw : wo H0 p a = Option.none := by rw [wo_ne np.symm]; exact hl
    refine ⟨rfl, ?_⟩
    rcases hS0 with (h' | ⟨o, h'⟩) | h'
    · rw [hw] at h'; cases h'
    · rw [hw] at h'; cases h'
    · exact .inr h'
  by_cases e : a = l
  · rcases (key e).2 with (h' | ⟨o, h'⟩) | h'
    · cases h'
    · cases h'
    · exact .inr h'
  · have eq : wo (upd H l o) p a = wo H p a := by
      unfold wo
      split
      · rfl
      · rw [upd_ne e]
    rcases hS with (h | ⟨o', h⟩) | h
    · exact .inl (.inl (by rw [eq]; exact h))
    · exact .inl (.inr ⟨o', by rw [eq]; exact h⟩)
    · exact .inr h
theorem pool_ne {K : PySem.W.Frag} {H : Hp} {p a l : Addr} {ns : List Int} (h : Pool K H p a ns) (hl : H l = none) : l ≠ p := by
  obtain ⟨_, _, _, _, _, hp⟩ := h
  exact (ne_of_none hp hl).symm
theorem Fr.mut {p l : Addr} {H H' : Hp} {o : HO} (f : Fr p H H') (h : H l = Option.none) : Fr p H (L2.upd H' l o) := fun b u n e => by rw [upd_ne (ne_of_none e h)]; exact f b u n e
theorem Fr.nne {p l : Addr} {H H' : Hp} (f : Fr p H H') (n : l ≠ p) (h : H' l = Option.none) : H l = Option.none := by
  cases e : H l with
  | none => rfl
  | some o => rw [f l o n e] at h; cases h
end QB

set_option Elab.async false
set_option linter.all false
set_option maxRecDepth 100000
set_option maxHeartbeats 4000000
/-! Own rules: objects of several classes under one promise (a method without arguments, ==), making without __init__. -/
namespace QC
open PySem PySem.Spec PyProof.Rows L2
section
variable {X : Cx} {pins : List (Addr × Obj)} {σ : L2.St} {H : Hp} {s : Shared}
theorem inst_of {a C dx : Addr} {fs : List (Str × V)} (I : Inv X pins σ H s) (h : H a = some (.ins C dx fs)) : ∃ ox od, PySem.W.InstAt s.heap a ox C od := by
  obtain ⟨mA, O, _⟩ := ins_get I.hok h
  obtain ⟨od, J, _⟩ := O.look
  exact ⟨_, _, J⟩
theorem met_raw {P : Program} {w : World} {K : PySem.W.Frag} {mg : Str → Option Value} {base : Heap} {k : Nat} {C : Addr} {m : Str} {sp : Sp} (c : C8.Met P w K mg base k C m sp []) : ∃ f, Cls K C ∧ Meth K C m f ∧ FnR P w K mg base CX0 k f sp := by
  obtain ⟨f, fd, ps, ds, hc, hm, F, hb, hd⟩ := c.ex
  refine ⟨f, hc, hm, ?_⟩
  have := F.raw hb hd
  refine this.imp fun vs H Q E h => ?_
  rw [List.append_nil]
  exact h
/-- o.m(), o an object of one of the classes C i, whose def m keeps the promise sp i -/
def kDyn {ι : Type} (C : ι → Addr) (m : Str) (sp : ι → Sp) (Q : VK) : VK := fun x H1 => ∃ i a dx fs, x = .ref a ∧ H1 a = some (.ins (C i) dx fs) ∧ fs.lookup m = none ∧ sp i [.ref a] H1 Q C8.E0
def tDyn0 {ι : Type} (C : ι → Addr) (m : Str) (sp : ι → Sp) (ta : TE) : TE := fun σ H Q => ta σ H (kDyn C m sp Q)
theorem pe_dyn0 {ι : Type} {C : ι → Addr} {k j : Nat} {o : Expr} {m : Str} {apos pos : Pos} {sp : ι → Sp} {ta : TE} {pl : Sem Bool} (c : ∀ i, C8.Met X.prog X.w X.K X.mg X.base k (C i) m (sp i) []) (hr : Room j X.A) (hk : k ≤ j) (he : PE X o ta)
    (shape : eval (.Call (.Attribute o m apos) [] [] pos) X.env = (do
      let ov ← eval o X.env
      standAt apos.atName
      let (f, first) ← holding [ov] (getMethod ov m pl)
      callWith pos f first (backTo pos (starEach [] X.env)) (backToKw pos (keywordEach [] X.env))) := by rfl) :
    PE X (.Call (.Attribute o m apos) [] [] pos) (tDyn0 C m sp ta) := by
  constructor
  intro pins s σ H Q I h
  refine PySem.W.methodCall_KW (pl := pl) (thn (he.run pins s σ H _ I h) fun u s1 h1 => ?_) shape
  obtain ⟨x, H1, I1, rx, i, a, dx, fs, rfl, ha, hl, q⟩ := h1
  obtain rfl : u = Value.ref a := rx
  obtain ⟨f, fd, ps, ds, hc, hm, F, hb, hd⟩ := (c i).ex
  refine getmeth_ok I1 ha hc hm hl ?_
  exact PySem.W.callWith_K0 (first := [.ref a]) I1.kIn hm.kp (run_fn (us := [.ref a]) (vs := [.ref a]) F (hr.mono hk) hb hd pass0 I1 (.cons rfl .nil) q)
/-- x == y by the __eq__ of x's class; y an object of these classes, or a text -/
def rDynEq {ι : Type} (K : PySem.W.Frag) (C : ι → Addr) (sp : ι → Sp) : R2 := fun x y H Q => ∃ i a dx fs, x = .ref a ∧ H a = some (.ins (C i) dx fs) ∧
  ((∃ b D dy gs, y = .ref b ∧ H b = some (.ins D dy gs) ∧ PySem.W.notFirst K (C i) (.ref D) = true) ∨ (∃ z, y = .str z ∧ PySem.W.notFirst K (C i) (.type "str") = true)) ∧ sp i [.ref a, y] H Q C8.E0
theorem op_dynEq {ι : Type} {C : ι → Addr} {k j : Nat} {sp : ι → Sp} (c : ∀ i, C8.Met X.prog X.w X.K X.mg X.base k (C i) "__eq__" (sp i) []) (hr : Room j X.A) (hk : k ≤ j) : OpR X (compareOp .Eq) (rDynEq X.K C sp) := by
  intro pins s σ H x y v u Q I rx ry h
  obtain ⟨i, a, dx, fs, rfl, ha, hy, q⟩ := h
  obtain rfl : v = Value.ref a := rx
  obtain ⟨f, hc, hm, F⟩ := met_raw (c i)
  obtain ⟨ox, od, J⟩ := inst_of I ha
  obtain ⟨m, hF⟩ := I.fr
  have run : wpAny (model X.prog X.w) X.A (call (.ref f) [.ref a, u]) (PySem.W.CmpBack (EP X pins σ Q)) X.xe s := by
    refine wpAny_mono (wpAny_call (run_fnR (us := [.ref a, u]) (vs := [.ref a, y]) F (hr.mono hk) pass0 I (.cons rfl (.cons ry .nil)) q)) (fun w s' z => ?_) fun _ _ e => e
    obtain ⟨z', H', I', rz, qz⟩ := z
    exact SlX.cmpback rz ⟨z', H', I', rz, qz⟩
  show wpAny _ _ (richCompare .Eq (.ref a) u) _ _ _
  rcases hy with ⟨b, D, dy, gs, rfl, hb, hn⟩ | ⟨z, rfl, hn⟩
  · obtain rfl : u = Value.ref b := ry
    obtain ⟨ob, od', J'⟩ := inst_of I hb
    exact PySem.W.cmp_K (op := .Eq) (tb := .ref D) hr.units0 hF I.ok.mod.kin J J'.type hn hm.at_ hm.fn run
  · obtain ⟨t, rfl⟩ := ry
    exact PySem.W.cmp_K (op := .Eq) (tb := .type "str") hr.units0 hF I.ok.mod.kin J (PySem.W.Looks.of_pure rfl) hn hm.at_ hm.fn run
/-- C(), a class without an __init__ of its own -/
def tMake0 (C : Addr) : TE := fun _ H Q => ∀ x dx, H x = none → H dx = none → dx ≠ x → Q (.ref x) (upd (upd H dx (.own x)) x (.ins C dx []))
theorem pe_mk00 {C : Addr} {x : Str} {p pos : Pos} (hmk : PySem.W.makesIn X.K C = true) (hin : PySem.W.findIn X.K (.ref C) "__init__" = some (some (.builtin "object.__init__"))) (hkp : PySem.W.keepIn X.K (.ref C) = true) (hg : Gl X x) (hm : X.mg x = some (.ref C))
    (hdb : (x == ("__debug__" : Str)) = false := by decide) : PE X (.Call (.Name x p) [] [] pos) (tMake0 C) := by
  constructor
  intro pins s σ H Q I h
  refine wpAny_Call_Name_kw (ld_glob I hg hm ?_ hdb)
  refine PySem.W.callWith_K0 I.kIn hkp (wpAny_call ?_)
  have fin := h (s.heap.objs.size + 1) s.heap.objs.size (I.hok.fresh (Nat.le_succ _)) (I.hok.fresh (Nat.le_refl _)) (Nat.ne_of_lt (Nat.lt_succ_self _))
  have I2 := Inv.made (C := C) I
  have Y := PySem.W.makes_of (M := model X.prog X.w) I.kIn hmk
  refine make_map0 I.kIn hmk hin (fun self => PySem.W.Looks.of_pure (PySem.W.oi_bind self)) ?_
  have at1 : ((s.heap.push PySem.W.emptyDict).push (PySem.W.instObj C s.heap.objs.size)).get? (s.heap.objs.size + 1) = some (PySem.W.instObj C s.heap.objs.size) := by
    have := Heap.get?_push_size (s.heap.push PySem.W.emptyDict) (o := PySem.W.instObj C s.heap.objs.size) rfl
    rwa [Heap.size_push] at this
  have ty : PySem.W.Looks (model X.prog X.w) ((s.heap.push PySem.W.emptyDict).push (PySem.W.instObj C s.heap.objs.size)) (typeOf (.ref (s.heap.objs.size + 1))) (.ref C) := (PySem.W.Looks.ld at1).andThen .now
  have isO : PySem.W.Looks (model X.prog X.w) ((s.heap.push PySem.W.emptyDict).push (PySem.W.instObj C s.heap.objs.size)) (isInstance (.ref (s.heap.objs.size + 1)) (.type "object")) true := ty.andThen (Y.top.keeps fun b o e => Heap.get?_push_of_some _ (Heap.get?_push_of_some _ e))
  refine codeAny_call_builtin PySem.W.oi_plain PySem.W.entry_oi (@PySem.W.check_slot (model X.prog X.w) _ _ _ "object.__init__" "object" "__init__" (.ref (s.heap.objs.size + 1)) [] [] _ PySem.W.oi_kind PySem.W.oi_split isO (PySem.W.oi_args (.ref (s.heap.objs.size + 1))) ?_)
  rw [PySem.W.oi_run]
  exact wpAny_pure (show PySem.W.InitBack (s.heap.objs.size + 1) _ (Except.ok (Flow.ret Value.none)) _ from ⟨rfl, V.ref _, _, I2, rfl, fin⟩)
end
/-! ### readings by name, rules goal by goal -/
def kFld (K : PySem.W.Frag) (f : Str) (Q : VK) : VK := fun x H1 => ∃ a C dx fs v, x = .ref a ∧ H1 a = some (.ins C dx fs) ∧ Cls K C ∧ NoAttr K C f ∧ fs.lookup f = some v ∧ Q v H1
def kSF (K : PySem.W.Frag) (f : Str) (y : V) (σ : L2.St) (R : L2.St → Hp → Prop) : VK := fun x H2 => ∃ a C dx fs, x = .ref a ∧ H2 a = some (.ins C dx fs) ∧ Cls K C ∧ NoAttr K C f ∧ fs.length < 1000 ∧ R σ (upd H2 a (.ins C dx (putF f y fs)))
def kMk (C : Addr) (sp : Sp) (dvs : List V) (E : XK) (Q : VK) : List V → Hp → Prop := fun vs H1 => ∀ x dx, H1 x = none → H1 dx = none → dx ≠ x → sp (.ref x :: (vs ++ dvs)) (upd (upd H1 dx (.own x)) x (.ins C dx [])) (fun v H2 => v = .non ∧ Q (.ref x) H2) E
def kJ (ts : List TE) (acc : Str) (σ : L2.St) (Q : Str → Hp → Prop) : VK := fun x H1 => ∃ y : Str, x = .str y ∧ (acc ++ y).length ≤ sizeLine ∧ tJs ts (acc ++ y) σ H1 Q
def kFmt (Q : VK) : VK := fun x H1 => (∃ y : Str, x = .str y ∧ y.length ≤ sizeLine ∧ Q (.str y) H1) ∨ ∃ i : Int, x = .int i ∧ i.natAbs.log2 < 1920 ∧ Q (.str (toString i)) H1
def tJoin (ts : List TE) : TE := fun σ H Q => tJs ts Str.empty σ H fun out H1 => Q (.str out) H1
def rStrI : List V → Hp → VK → Prop := fun xs H Q => ∃ i, xs = [.int i] ∧ i.natAbs.log2 < 1920 ∧ Q (.str (toString i)) H
section
variable {X : Cx}
theorem pe_join {v1 v2 : Expr} {rest : List Expr} {ts : List TE} {pos : Pos} (h : PJ X (v1 :: v2 :: rest) ts) : PE X (.JoinedStr (v1 :: v2 :: rest) pos) (tJoin ts) := pe_joined h
theorem c_strI : CallR X (.type "str") rStrI := call_str_int
end
section
variable {K : PySem.W.Frag} {σ : L2.St} {H : Hp} {Q : VK} {D : Ends} {ta tv : TE} {f : Str} {v y : V}
theorem fld (h : ta σ H (kFld K f Q)) : tFld K ta f σ H Q := h
theorem kfld {a C dx : Addr} {fs : List (Str × V)} (ha : H a = some (.ins C dx fs)) (hc : Cls K C ∧ NoAttr K C f) (hl : fs.lookup f = some v) (h : Q v H) : kFld K f Q (.ref a) H := ⟨a, C, dx, fs, v, rfl, ha, hc.1, hc.2, hl, h⟩
theorem sfld (h : tv σ H fun y H1 => ta σ H1 (kSF K f y σ D.nx)) : sFld K ta tv f D σ H := h
theorem sqfld {u : TS} (h : tv σ H fun y H1 => ta σ H1 (kSF K f y σ (u D))) : tSeq (sFld K ta tv f) u D σ H := h
theorem ksf {R : L2.St → Hp → Prop} {a C dx : Addr} {fs : List (Str × V)} (ha : H a = some (.ins C dx fs)) (hc : Cls K C ∧ NoAttr K C f) (hl : fs.length < 1000) (h : R σ (upd H a (.ins C dx (putF f y fs)))) : kSF K f y σ R (.ref a) H := ⟨a, C, dx, fs, rfl, ha, hc.1, hc.2, hl, h⟩
theorem dyn {ι : Type} {C : ι → Addr} {m : Str} {sp : ι → Sp} (h : ta σ H (kDyn C m sp Q)) : tDyn0 C m sp ta σ H Q := h
theorem mk {C : Addr} {sp : Sp} {dvs : List V} {E : XK} {t : TA} (h : t σ H (kMk C sp dvs E Q)) : tMake C sp dvs E t σ H Q := h
theorem join {ts : List TE} (h : tJs ts Str.empty σ H fun out H1 => Q (.str out) H1) : tJoin ts σ H Q := h
theorem jcons {t : TE} {ts : List TE} {acc : Str} {R : Str → Hp → Prop} (h : t σ H (kJ ts acc σ R)) : tJs (t :: ts) acc σ H R := h
theorem jnil {acc : Str} {R : Str → Hp → Prop} (h : R acc H) : tJs [] acc σ H R := h
theorem kj {ts : List TE} {acc y : Str} {R : Str → Hp → Prop} (hl : (acc ++ y).length ≤ sizeLine) (h : tJs ts (acc ++ y) σ H R) : kJ ts acc σ R (.str y) H := ⟨y, rfl, hl, h⟩
theorem fmt (h : ta σ H (kFmt Q)) : tFmt ta σ H Q := h
theorem kfs {y : Str} (hl : y.length ≤ sizeLine) (h : Q (.str y) H) : kFmt Q (.str y) H := .inl ⟨y, rfl, hl, h⟩
theorem kfi {i : Int} (hl : i.natAbs.log2 < 1920) (h : Q (.str (toString i)) H) : kFmt Q (.int i) H := .inr ⟨i, rfl, hl, h⟩
theorem stri {i : Int} (hl : i.natAbs.log2 < 1920) (h : Q (.str (toString i)) H) : rStrI [.int i] H Q := ⟨i, rfl, hl, h⟩
theorem adds {a b : Str} (hl : a.length + b.length ≤ sizeLine) (h : Q (.str (a ++ b)) H) : QB.rAddStr (.str a) (.str b) H Q := ⟨a, b, rfl, rfl, hl, h⟩
theorem ixs {z : Str} {i : Int} {c : Nat} (hz : z.length ≤ sizeLine) (ha : atI z.cps.toList i = some c) (h : Q (.str ⟨#[c]⟩) H) : rIxS (.str z) (.int i) H Q := ⟨z, i, c, rfl, rfl, hz, ha, h⟩
theorem isiO {x : V} {t : Value} {C : Addr} {b : Bool} (ht : TyX K H x t) (hk : PySem.W.kitOne K t (.ref C) = some b) (h : Q (.bl b) H) : rIsi K [x, .ref C] H Q := ⟨x, .ref C, t, .ref C, b, rfl, .own C, ht, hk, h⟩
theorem qs {a b : Str} (q : Q (.str b) H) (e : b = a) : Q (.str a) H := e ▸ q
theorem qb {a b : Bool} (q : Q (.bl b) H) (e : b = a) : Q (.bl a) H := e ▸ q
variable {g : TG} {tt : TT} {te : TE} {vs : List Nat}
theorem kc_rngW {j : Int} (b1 : 0 ≤ j) (b2 : j < 16777216) (Pv : Addr → Nat → Hp → List V → Prop) (h0 : ∀ D, H D = none → Pv D 0 (upd H D (.lst [])) [])
    (hl : ∀ D i H' acc, Pv D i H' acc → H' D = some (.lst acc) ∧ acc.length ≤ i)
    (hs : ∀ D (i : Nat) H' acc, (i : Int) < j → Pv D i H' acc → ∀ (N : VK) (N0 : Hp → Prop), (∀ y H4, H4 D = some (.lst acc) → Pv D (i + 1) (upd H4 D (.lst (acc ++ [y]))) (acc ++ [y]) → N y H4) → (∀ H3, Pv D (i + 1) H3 acc → N0 H3) →
      g (.int (i : Int)) (wipe σ vs) H' fun σ2 H2 => wipe σ2 vs = wipe σ vs ∧ tt σ2 H2 fun b H3 => if b = true then te σ2 H3 N else N0 H3)
    (hd : ∀ D H' acc, H D = none → Pv D j.toNat H' acc → Q (.ref D) H') : QB.kcRng1 g tt te vs σ Q [.int j] H := by
  have hn : (QB.rngV j.toNat).length = j.toNat := by simp [QB.rngV]
  refine ⟨j, rfl, by omega, by omega, QB.lcw (xs := QB.rngV j.toNat) (by rw [hn]; show j.toNat < 2 ^ 24; omega) Pv h0 (fun D i H' acc hi p => (QB.rng_go (H := H')).1 i H' hi (fun _ _ e => e)) (fun D H' acc p => (QB.rng_go (H := H')).2 H' (fun _ _ e => e)) hl (fun D i x H' acc hx p N N0 h1 h2 => ?_) (by rw [hn]; exact hd)⟩
  have hi : i < j.toNat := by rw [← hn]; exact (List.getElem?_eq_some_iff.mp hx).1
  have e : x = .int (i : Int) := by
    simp [QB.rngV, hi] at hx
    exact hx.symm
  subst e
  exact hs D i H' acc (by omega) p N N0 h1 h2
end
/-! ### what is new -/
def nw (H H' : Hp) : Hp := fun b => match H b with | none => H' b | some _ => none
theorem nw_some {H H' : Hp} {b : Addr} {o : HO} (h : nw H H' b = some o) : H b = none ∧ H' b = some o := by
  unfold nw at h
  cases e : H b with
  | none => rw [e] at h; exact ⟨rfl, h⟩
  | some u => rw [e] at h; cases h
theorem nw_mk {H H' : Hp} {b : Addr} {o : HO} (h1 : H b = none) (h2 : H' b = some o) : nw H H' b = some o := by
  unfold nw
  rw [h1]
  exact h2
theorem nw_sub {H H' : Hp} : Same (nw H H') H' := fun b o h => (nw_some h).2
theorem nw_none {H H' : Hp} {b : Addr} {u : HO} (h : H b = some u) : nw H H' b = none := by
  unfold nw
  rw [h]
/-- later: all but p is kept -/
theorem nw_fr {p : Addr} {H H1 H2 : Hp} {u : HO} (hp : H p = some u) (f : QB.Fr p H1 H2) : Same (nw H H1) (nw H H2) := fun b o h => by
  obtain ⟨h1, h2⟩ := nw_some h
  refine nw_mk h1 (f b o (fun e => ?_) h2)
  subst e
  rw [hp] at h1
  cases h1
/-- what is new since a later heap -/
theorem nw_lt {p : Addr} {H H1 H2 : Hp} {u : HO} (hp : H1 p = some u) (f : QB.Fr p H H1) : Same (nw H1 H2) (nw H H2) := fun b o h => by
  obtain ⟨h1, h2⟩ := nw_some h
  refine nw_mk ?_ h2
  cases e : H b with
  | none => rfl
  | some w =>
    have n : b ≠ p := fun e2 => by subst e2; rw [hp] at h1; cases h1
    rw [f b w n e] at h1
    cases h1
end QC

set_option Elab.async false
set_option linter.all false
set_option maxRecDepth 100000
set_option maxHeartbeats 4000000
/-! The rows and values of the law k00, in plain Lean. -/
namespace Rws
open PySem PySem.Spec PyProof.Rows L2
inductive Vl where
  | num (i : Int) | arg | place (n : Str) (i : Int) | own (n : Str) | named (n : Str)
  deriving DecidableEq
inductive Kd where
  | tell | put | same | there | call | fin
  deriving DecidableEq
inductive Rw where
  | tell (v : Vl) | put (p v : Vl) | same (l r : Vl) (k : Int) | there (n : Str) (k : Int) | call (n : Str) (v : Vl) (t : Int) | fin
  deriving DecidableEq
def Rw.kd : Rw → Kd
  | .tell _ => .tell | .put _ _ => .put | .same _ _ _ => .same | .there _ _ => .there | .call _ _ _ => .call | .fin => .fin
def Vl.items : Vl → List V
  | .num i => [.str "number", .int i] | .arg => [.str "argument"] | .place n i => [.str "place", .str n, .int i] | .own n => [.str "own", .str n] | .named n => [.str "named", .str n]
def Vl.ds : Vl → List PyData
  | .num i => [.str "number", .int i] | .arg => [.str "argument"] | .place n i => [.str "place", .str n, .int i] | .own n => [.str "own", .str n] | .named n => [.str "named", .str n]
def Vl.data (v : Vl) : PyData := .tuple v.ds
def itx (i : Int) : Str := Str.ofString (toString i)
def Vl.text : Vl → Str
  | .num i => itx i | .arg => "it" | .place n i => n ++ "." ++ itx i | .own n => "$" ++ n | .named n => "#" ++ n
def Big (i : Int) : Prop := i.natAbs < 2 ^ 60
def Nm (n : Str) : Prop := n.length ≤ 5000 ∧ PyData.strOk n = true
def Vl.ok : Vl → Prop
  | .num i => Big i | .arg => True | .place n i => Nm n ∧ Big i | .own n => Nm n | .named n => Nm n
def Rw.ok : Rw → Prop
  | .tell v => v.ok | .put p v => p.ok ∧ v.ok | .same l r k => l.ok ∧ r.ok ∧ Big k | .there n k => Nm n ∧ Big k | .call n v t => Nm n ∧ v.ok ∧ Big t | .fin => True
def Rw.vals : Rw → List Vl
  | .tell v => [v] | .put p v => [p, v] | .same l r _ => [l, r] | .there _ _ => [] | .call _ v _ => [v] | .fin => []
def Rw.text : Rw → Str
  | .tell v => "tell " ++ v.text
  | .put p v => "set " ++ p.text ++ " " ++ v.text
  | .same l r k => "same " ++ (l.text ++ " " ++ r.text) ++ " else " ++ itx k
  | .there n k => "there " ++ n ++ " else " ++ itx k
  | .call n v t => if t ≠ 0 then "call " ++ n ++ " " ++ v.text ++ " at " ++ itx t else "call " ++ n ++ " " ++ v.text
  | .fin => "end"
def Rw.ds : Rw → List PyData
  | .tell v => [.str "tell", v.data] | .put p v => [.str "set", p.data, v.data] | .same l r k => [.str "same", l.data, r.data, .int k]
  | .there n k => [.str "there", .str n, .int k] | .call n v t => [.str "call", .str n, v.data, .int t] | .fin => [.str "end"]
def Rw.data (r : Rw) : PyData := .list r.ds
theorem big_log {i : Int} (h : Big i) : i.natAbs.log2 < 1920 := by
  by_cases h0 : i.natAbs = 0
  · rw [h0]; decide
  · exact Nat.lt_of_lt_of_le ((Nat.log2_lt h0).mpr h) (by decide)
theorem itx_len {i : Int} (h : Big i) : (itx i).length ≤ 100 := by
  have e := int_text_length_le10 (k := 20) (a := i) (by decide) (Nat.lt_trans h (by decide))
  unfold itx
  rw [PySem.ofString_length]
  omega
theorem vt_len {v : Vl} (h : v.ok) : v.text.length ≤ 8000 := by
  have l1 : (Str.ofString ".").length = 1 := by decide
  have l2 : (Str.ofString "$").length = 1 := by decide
  have l3 : (Str.ofString "#").length = 1 := by decide
  have l4 : (Str.ofString "it").length = 2 := by decide
  cases v with
  | num i => have := itx_len h; simp only [Vl.text]; omega
  | arg => simp only [Vl.text, l4]; omega
  | place n i => have h1 : n.length ≤ 5000 := h.1.1; have := itx_len h.2; simp only [Vl.text, Str.length_append, l1]; omega
  | own n => have h1 : n.length ≤ 5000 := h.1; simp only [Vl.text, Str.length_append, l2]; omega
  | named n => have h1 : n.length ≤ 5000 := h.1; simp only [Vl.text, Str.length_append, l3]; omega
theorem sk {x : Str} (h : x ∈ ([("number" : Str), "argument", "place", "own", "named", "tell", "set", "same", "there", "call", "end"] : List Str)) : PyData.strOk x = true := by
  revert x; decide +kernel
theorem vd_lay {v : Vl} (h : v.ok) : PyData.canLay0 v.data = true ∧ v.data.depth ≤ 3 := by
  cases v with
  | num i => exact ⟨by simp [Vl.data, Vl.ds, PyData.canLay0, PyData.canLayAll0, sk], by simp [Vl.data, Vl.ds, PyData.depth, PyData.depthAll]⟩
  | arg => exact ⟨by simp [Vl.data, Vl.ds, PyData.canLay0, PyData.canLayAll0, sk], by simp [Vl.data, Vl.ds, PyData.depth, PyData.depthAll]⟩
  | place n i => exact ⟨by simp [Vl.data, Vl.ds, PyData.canLay0, PyData.canLayAll0, sk, h.1.2], by simp [Vl.data, Vl.ds, PyData.depth, PyData.depthAll]⟩
  | own n => exact ⟨by simp [Vl.data, Vl.ds, PyData.canLay0, PyData.canLayAll0, sk, h.2], by simp [Vl.data, Vl.ds, PyData.depth, PyData.depthAll]⟩
  | named n => exact ⟨by simp [Vl.data, Vl.ds, PyData.canLay0, PyData.canLayAll0, sk, h.2], by simp [Vl.data, Vl.ds, PyData.depth, PyData.depthAll]⟩
theorem vd_plain (v : Vl) : QB.plainD v.data = true := by
  cases v <;> simp [Vl.data, Vl.ds, QB.plainD, QB.plainDAll]
theorem rd_lay {r : Rw} (h : r.ok) : PyData.canLay0 r.data = true ∧ r.data.depth ≤ 63 := by
  cases r with
  | tell v => have := (vd_lay (v := v) h); exact ⟨by simp [Rw.data, Rw.ds, PyData.canLay0, PyData.canLayAll0, sk, this.1], by simp [Rw.data, Rw.ds, PyData.depth, PyData.depthAll]; omega⟩
  | put p v => have a := vd_lay h.1; have b := vd_lay h.2; exact ⟨by simp [Rw.data, Rw.ds, PyData.canLay0, PyData.canLayAll0, sk, a.1, b.1], by simp [Rw.data, Rw.ds, PyData.depth, PyData.depthAll]; omega⟩
  | same p v k => have a := vd_lay h.1; have b := vd_lay h.2.1; exact ⟨by simp [Rw.data, Rw.ds, PyData.canLay0, PyData.canLayAll0, sk, a.1, b.1], by simp [Rw.data, Rw.ds, PyData.depth, PyData.depthAll]; omega⟩
  | there n k => exact ⟨by simp [Rw.data, Rw.ds, PyData.canLay0, PyData.canLayAll0, sk, h.1.2], by simp [Rw.data, Rw.ds, PyData.depth, PyData.depthAll]⟩
  | call n v t => have a := vd_lay h.2.1; exact ⟨by simp [Rw.data, Rw.ds, PyData.canLay0, PyData.canLayAll0, sk, a.1, h.1.2], by simp [Rw.data, Rw.ds, PyData.depth, PyData.depthAll]; omega⟩
  | fin => exact ⟨by simp [Rw.data, Rw.ds, PyData.canLay0, PyData.canLayAll0, sk], by simp [Rw.data, Rw.ds, PyData.depth, PyData.depthAll]⟩
theorem rd_plain (r : Rw) : QB.plainD r.data = true := by
  cases r <;> simp [Rw.data, Rw.ds, QB.plainD, QB.plainDAll, vd_plain]
theorem v_shaped {v : Vl} (h : v.ok) : SeqAt.shaped v.data = true := by
  unfold SeqAt.shaped
  rw [Bool.and_eq_true]
  have := (vd_lay h).2
  exact ⟨(vd_lay h).1, decide_eq_true (by omega)⟩
theorem r_shaped {r : Rw} (h : r.ok) : SeqAt.shaped r.data = true := by
  unfold SeqAt.shaped
  rw [Bool.and_eq_true]
  have := (rd_lay h).2
  exact ⟨(rd_lay h).1, decide_eq_true (by omega)⟩
theorem s_shaped {n : Str} (h : Nm n) : SeqAt.shaped (.str n) = true := by
  unfold SeqAt.shaped
  rw [Bool.and_eq_true]
  exact ⟨by simp [PyData.canLay0, h.2], decide_eq_true (by simp [PyData.depth])⟩
theorem i_shaped (n : Int) : SeqAt.shaped (.int n) = true := rfl
theorem vs_shaped {vs : List Vl} (h : ∀ v ∈ vs, v.ok) : SeqAt.shaped (.list (vs.map Vl.data)) = true := QB.shaped_l fun d hd => by
  obtain ⟨v, hv, rfl⟩ := List.mem_map.mp hd
  exact ⟨(vd_lay (h v hv)).1, by have := (vd_lay (h v hv)).2; omega⟩
theorem vals_ok {r : Rw} (h : r.ok) : ∀ v ∈ r.vals, v.ok := by
  cases r with
  | tell v => intro w hw; simp [Rw.vals] at hw; subst hw; exact h
  | put p v => intro w hw; simp [Rw.vals] at hw; rcases hw with rfl | rfl; exact h.1; exact h.2
  | same p v k => intro w hw; simp [Rw.vals] at hw; rcases hw with rfl | rfl; exact h.1; exact h.2.1
  | there n k => intro w hw; simp [Rw.vals] at hw
  | call n v t => intro w hw; simp [Rw.vals] at hw; subst hw; exact h.2.1
  | fin => intro w hw; simp [Rw.vals] at hw
theorem vdata_inj {v w : Vl} : v.data = w.data ↔ v = w := by
  constructor
  · intro h
    have n1 : ¬ (Str.ofString "number" = Str.ofString "place") := by decide
    have n2 : ¬ (Str.ofString "own" = Str.ofString "named") := by decide
    have n3 : ¬ (Str.ofString "own" = Str.ofString "number") := by decide
    have n4 : ¬ (Str.ofString "named" = Str.ofString "number") := by decide
    cases v <;> cases w <;> simp_all [Vl.data, Vl.ds]
    all_goals first | exact absurd h.1.symm n2 | skip
  · rintro rfl; rfl
theorem rdata_inj {v w : Rw} : v.data = w.data ↔ v = w := by
  constructor
  · intro h
    have n1 : ¬ (Str.ofString "set" = Str.ofString "there") := by decide
    have n2 : ¬ (Str.ofString "there" = Str.ofString "set") := by decide
    have n3 : ¬ (Str.ofString "same" = Str.ofString "call") := by decide
    have n4 : ¬ (Str.ofString "call" = Str.ofString "same") := by decide
    cases v <;> cases w <;> simp_all [Rw.data, Rw.ds, vdata_inj]
  · rintro rfl; rfl
theorem eqv_v (v w : Vl) : PyData.eqv v.data w.data = decide (v = w) := by
  have := QB.eqv_plain v.data w.data (vd_plain v) (vd_plain w)
  rw [vdata_inj] at this
  rw [Bool.eq_iff_iff, this, decide_eq_true_iff]
theorem eqv_r (v w : Rw) : PyData.eqv v.data w.data = decide (v = w) := by
  have := QB.eqv_plain v.data w.data (rd_plain v) (rd_plain w)
  rw [rdata_inj] at this
  rw [Bool.eq_iff_iff, this, decide_eq_true_iff]
theorem eqv_vs (vs : List Vl) : PyData.eqv (.list (vs.map Vl.data)) (.list (vs.map Vl.data)) = true := by
  refine (QB.eqv_plain _ _ ?_ ?_).mpr rfl <;>
  · simp only [QB.plainD]
    refine QB.plainAll_of fun d hd => ?_
    obtain ⟨v, _, rfl⟩ := List.mem_map.mp hd
    exact vd_plain v
theorem eqv_s (a b : Str) : PyData.eqv (.str a) (.str b) = decide (a = b) := by
  have := QB.eqv_plain (.str a) (.str b) rfl rfl
  rw [Bool.eq_iff_iff, this, decide_eq_true_iff]
  simp
theorem eqv_i (a b : Int) : PyData.eqv (.int a) (.int b) = decide (a = b) := by
  have := QB.eqv_plain (.int a) (.int b) rfl rfl
  rw [Bool.eq_iff_iff, this, decide_eq_true_iff]
  simp
/-! where they stand -/
section
variable {K : PySem.W.Frag} {H : Hp} {A : Kd → Addr}
/-- the tuple of the value v at t -/
def VAt (H : Hp) (t : Addr) (v : Vl) : Prop := H t = some (.tup v.items)
theorem VAt.dp {t : Addr} {v : Vl} (h : VAt H t v) : Dp K H (.ref t) v.data := by
  refine .tup (SqT.of h) ?_
  cases v with
  | num i => exact .cons (.str _) (.cons (.int _) .nil)
  | arg => exact .cons (.str _) .nil
  | place n i => exact .cons (.str _) (.cons (.str _) (.cons (.int _) .nil))
  | own n => exact .cons (.str _) (.cons (.str _) .nil)
  | named n => exact .cons (.str _) (.cons (.str _) .nil)
def RowAt (H : Hp) (l : Addr) : Rw → Prop
  | .tell v => ∃ t, H l = some (.lst [.str "tell", .ref t]) ∧ VAt H t v
  | .put p v => ∃ t u, H l = some (.lst [.str "set", .ref t, .ref u]) ∧ VAt H t p ∧ VAt H u v
  | .same p v k => ∃ t u, H l = some (.lst [.str "same", .ref t, .ref u, .int k]) ∧ VAt H t p ∧ VAt H u v
  | .there n k => H l = some (.lst [.str "there", .str n, .int k])
  | .call n v k => ∃ t, H l = some (.lst [.str "call", .str n, .ref t, .int k]) ∧ VAt H t v
  | .fin => H l = some (.lst [.str "end"])
def ObjAt (A : Kd → Addr) (H : Hp) (o : Addr) : Rw → Prop
  | .tell v => ∃ dx t, H o = some (.ins (A .tell) dx [("value", .ref t)]) ∧ VAt H t v
  | .put p v => ∃ dx t u, H o = some (.ins (A .put) dx [("place", .ref t), ("value", .ref u)]) ∧ VAt H t p ∧ VAt H u v
  | .same p v k => ∃ dx t u, H o = some (.ins (A .same) dx [("left", .ref t), ("right", .ref u), ("skip", .int k)]) ∧ VAt H t p ∧ VAt H u v
  | .there n k => ∃ dx, H o = some (.ins (A .there) dx [("name", .str n), ("skip", .int k)])
  | .call n v k => ∃ dx t, H o = some (.ins (A .call) dx [("name", .str n), ("value", .ref t), ("tag", .int k)]) ∧ VAt H t v
  | .fin => ∃ dx, H o = some (.ins (A .fin) dx [])
theorem RowAt.mono {H' : Hp} {l : Addr} {r : Rw} (s : Same H H') (h : RowAt H l r) : RowAt H' l r := by
  cases r with
  | tell v => obtain ⟨t, h1, h2⟩ := h; exact ⟨t, s _ _ h1, s _ _ h2⟩
  | put p v => obtain ⟨t, u, h1, h2, h3⟩ := h; exact ⟨t, u, s _ _ h1, s _ _ h2, s _ _ h3⟩
  | same p v k => obtain ⟨t, u, h1, h2, h3⟩ := h; exact ⟨t, u, s _ _ h1, s _ _ h2, s _ _ h3⟩
  | there n k => exact s _ _ h
  | call n v k => obtain ⟨t, h1, h2⟩ := h; exact ⟨t, s _ _ h1, s _ _ h2⟩
  | fin => exact s _ _ h
theorem ObjAt.mono {H' : Hp} {l : Addr} {r : Rw} (s : Same H H') (h : ObjAt A H l r) : ObjAt A H' l r := by
  cases r with
  | tell v => obtain ⟨d, t, h1, h2⟩ := h; exact ⟨d, t, s _ _ h1, s _ _ h2⟩
  | put p v => obtain ⟨d, t, u, h1, h2, h3⟩ := h; exact ⟨d, t, u, s _ _ h1, s _ _ h2, s _ _ h3⟩
  | same p v k => obtain ⟨d, t, u, h1, h2, h3⟩ := h; exact ⟨d, t, u, s _ _ h1, s _ _ h2, s _ _ h3⟩
  | there n k => obtain ⟨d, h1⟩ := h; exact ⟨d, s _ _ h1⟩
  | call n v k => obtain ⟨d, t, h1, h2⟩ := h; exact ⟨d, t, s _ _ h1, s _ _ h2⟩
  | fin => obtain ⟨d, h1⟩ := h; exact ⟨d, s _ _ h1⟩
theorem ObjAt.ins {l : Addr} {r : Rw} (h : ObjAt A H l r) : ∃ dx fs, H l = some (.ins (A r.kd) dx fs) ∧ ∀ m : Str, m ∉ ([("value" : Str), "place", "left", "right", "skip", "name", "tag"] : List Str) → fs.lookup m = none := by
  have key : ∀ fs : List (Str × V), (∀ q ∈ fs, q.1 ∈ ([("value" : Str), "place", "left", "right", "skip", "name", "tag"] : List Str)) → ∀ m : Str, m ∉ ([("value" : Str), "place", "left", "right", "skip", "name", "tag"] : List Str) → fs.lookup m = none := fun fs hf m hm => by
    rw [List.lookup_eq_none_iff]
    intro q hq
    have h1 := hf q hq
    by_cases e : m = q.1
    · subst e; exact absurd h1 hm
    · simpa using e
  cases r with
  | tell v => obtain ⟨d, t, h1, h2⟩ := h; exact ⟨d, _, h1, key _ (by simp)⟩
  | put p v => obtain ⟨d, t, u, h1, h2, h3⟩ := h; exact ⟨d, _, h1, key _ (by simp)⟩
  | same p v k => obtain ⟨d, t, u, h1, h2, h3⟩ := h; exact ⟨d, _, h1, key _ (by simp)⟩
  | there n k => obtain ⟨d, h1⟩ := h; exact ⟨d, _, h1, key _ (by simp)⟩
  | call n v k => obtain ⟨d, t, h1, h2⟩ := h; exact ⟨d, _, h1, key _ (by simp)⟩
  | fin => obtain ⟨d, h1⟩ := h; exact ⟨d, _, h1, key _ (by simp)⟩
theorem RowAt.dp {l : Addr} {r : Rw} (h : RowAt H l r) : Dp K H (.ref l) r.data := by
  cases r with
  | tell v => obtain ⟨t, h1, h2⟩ := h; exact .lst (SqL.of h1) (.cons (.str _) (.cons h2.dp .nil))
  | put p v => obtain ⟨t, u, h1, h2, h3⟩ := h; exact .lst (SqL.of h1) (.cons (.str _) (.cons h2.dp (.cons h3.dp .nil)))
  | same p v k => obtain ⟨t, u, h1, h2, h3⟩ := h; exact .lst (SqL.of h1) (.cons (.str _) (.cons h2.dp (.cons h3.dp (.cons (.int _) .nil))))
  | there n k => exact .lst (SqL.of h) (.cons (.str _) (.cons (.str _) (.cons (.int _) .nil)))
  | call n v k => obtain ⟨t, h1, h2⟩ := h; exact .lst (SqL.of h1) (.cons (.str _) (.cons (.str _) (.cons h2.dp (.cons (.int _) .nil))))
  | fin => exact .lst (SqL.of h) (.cons (.str _) .nil)
/-- a list of values at l -/
def ValsAt (H : Hp) (l : Addr) (vs : List Vl) : Prop := ∃ ts : List Addr, H l = some (.lst (ts.map V.ref)) ∧ Paired (VAt H) ts vs
theorem ValsAt.dp {l : Addr} {vs : List Vl} (h : ValsAt H l vs) : Dp K H (.ref l) (.list (vs.map Vl.data)) := by
  obtain ⟨ts, h1, h2⟩ := h
  refine .lst (SqL.of h1) ?_
  clear h1
  induction h2 with
  | nil => exact .nil
  | cons a b ih => exact .cons a.dp ih
end
theorem ll0 : (Str.ofString "tell ").length = 5 := by decide
theorem ll1 : (Str.ofString "set ").length = 4 := by decide
theorem ll2 : (Str.ofString " ").length = 1 := by decide
theorem ll3 : (Str.ofString "same ").length = 5 := by decide
theorem ll4 : (Str.ofString " else ").length = 6 := by decide
theorem ll5 : (Str.ofString "there ").length = 6 := by decide
theorem ll6 : (Str.ofString "call ").length = 5 := by decide
theorem ll7 : (Str.ofString " at ").length = 4 := by decide
theorem ll8 : (Str.ofString ".").length = 1 := by decide
theorem ll9 : (Str.ofString "$").length = 1 := by decide
theorem ll10 : (Str.ofString "#").length = 1 := by decide
theorem ll11 : (Str.ofString "it").length = 2 := by decide
theorem ll12 : (Str.ofString "end").length = 3 := by decide
theorem ll13 : (Str.ofString "abcdefghijklmnopqrstuvwxyz").length = 26 := by decide
theorem ll14 : (Str.ofString "0123456789").length = 10 := by decide
theorem lle : Str.empty.length = 0 := rfl
theorem itST {A B : Prop} {x : Str} (q : A) : if decide (V.str x = V.str x) = true then A else B := by rw [if_pos (decide_eq_true rfl)]; exact q
theorem itSF {A B : Prop} {x y : Str} (h : x ≠ y) (q : B) : if decide (V.str x = V.str y) = true then A else B := by rw [if_neg (by simp [h])]; exact q
end Rws

namespace L00
open PySem PySem.Spec PyProof.Rows L2 QB Rws
structure Md (K : PySem.W.Frag) (C : Addr) (m qual : Str) (st : Stmt) (ps : List Str) : Prop where
  ex : ∃ (f : Addr) (fd : FuncData), Cls K C ∧ Meth K C m f ∧ C8.Fun K m qual st f fd ∧ Binds K fd ps []
structure Mi (K : PySem.W.Frag) (mg : Str → Option Value) (x : Str) (C : Addr) (qual : Str) (st : Stmt) (ps : List Str) (dvs : List V) : Prop where
  ex : ∃ (f : Addr) (fd : FuncData) (ds : List Value), Mk K C f ∧ mg x = some (.ref C) ∧ C8.Fun K "__init__" qual st f fd ∧ Binds K fd ps ds ∧ Vals dvs ds
def topS (i : Nat) : Stmt := PySem.Challenge.pw_quietedition_k00_rows_and_values.main.body.getD i (.Pass ⟨0, 0, 0, 0⟩)
abbrev s_value_text : Stmt := topS 1
theorem sc_value_text : FnScope ["value", "kind"] ["value"] (C8.fnScope s_value_text) := C8.fnScope_by (by decide +kernel)
-- value_text: slots 0 value, 1 kind
abbrev s_draw : Stmt := topS 10
theorem sc_draw : FnScope ["_law_pool", "_law_many", "_law_cell", "_law_number_here"] ["_law_pool", "_law_many"] (C8.fnScope s_draw) := C8.fnScope_by (by decide +kernel)
-- _law_draw: slots 0 _law_pool, 1 _law_many, 2 _law_cell, 3 _law_number_here
abbrev s_name : Stmt := topS 11
theorem sc_name : FnScope ["_law_pool", "_law_k", "_law_letters", "_law_name_here", "_law_step"] ["_law_pool", "_law_k"] (C8.fnScope s_name) := C8.fnScope_by (by decide +kernel)
-- _law_name: slots 0 _law_pool, 1 _law_k, 2 _law_letters, 3 _law_name_here, 4 _law_step
abbrev s_number : Stmt := topS 12
theorem sc_number : FnScope ["_law_pool", "_law_kind"] ["_law_pool"] (C8.fnScope s_number) := C8.fnScope_by (by decide +kernel)
-- _law_number: slots 0 _law_pool, 1 _law_kind
abbrev s_any_value : Stmt := topS 13
theorem sc_any_value : FnScope ["_law_pool", "_law_kind"] ["_law_pool"] (C8.fnScope s_any_value) := C8.fnScope_by (by decide +kernel)
-- _law_any_value: slots 0 _law_pool, 1 _law_kind
abbrev s_value_word : Stmt := topS 14
theorem sc_value_word : FnScope ["_law_value"] ["_law_value"] (C8.fnScope s_value_word) := C8.fnScope_by (by decide +kernel)
-- _law_value_word: slots 0 _law_value
abbrev s_drawn_row : Stmt := topS 15
theorem sc_drawn_row : FnScope ["_law_pool", "_law_kind", "_law_name_here", "_law_place"] ["_law_pool"] (C8.fnScope s_drawn_row) := C8.fnScope_by (by decide +kernel)
-- _law_drawn_row: slots 0 _law_pool, 1 _law_kind, 2 _law_name_here, 3 _law_place
abbrev s_made : Stmt := topS 16
theorem sc_made : FnScope ["_law_row"] ["_law_row"] (C8.fnScope s_made) := C8.fnScope_by (by decide +kernel)
-- _law_made: slots 0 _law_row
abbrev s_line : Stmt := topS 17
theorem sc_line : FnScope ["_law_row", "_law_words", "_law_line_here"] ["_law_row"] (C8.fnScope s_line) := C8.fnScope_by (by decide +kernel)
-- _law_line: slots 0 _law_row, 1 _law_words, 2 _law_line_here
abbrev s_values : Stmt := topS 18
theorem sc_values : FnScope ["_law_row", "_law_part"] ["_law_row"] (C8.fnScope s_values) := C8.fnScope_by (by decide +kernel)
-- _law_values: slots 0 _law_row, 1 _law_part
abbrev s_has_fields : Stmt := topS 19
theorem sc_has_fields : FnScope ["_law_made_here", "_law_row"] ["_law_made_here", "_law_row"] (C8.fnScope s_has_fields) := C8.fnScope_by (by decide +kernel)
-- _law_has_fields: slots 0 _law_made_here, 1 _law_row
abbrev s_law : Stmt := topS 20
theorem sc_law : FnScope ["_law_script", "_law_pool", "_law_rows", "_law_k", "_law_made_here", "_law_row", "_law_told", "_law_value", "_law_j"] ["_law_script"] (C8.fnScope s_law) := C8.fnScope_by (by decide +kernel)
-- law: slots 0 _law_script, 1 _law_pool, 2 _law_rows, 3 _law_k, 4 _law_made_here, 5 _law_row, 6 _law_told, 7 _law_value, 8 _law_j
abbrev s_Tell_eq : Stmt := inClass (topS 3) 1
theorem sc_Tell_eq : FnScope ["self", "other"] ["self", "other"] (C8.fnScope s_Tell_eq) := C8.fnScope_by (by decide +kernel)
-- Tell.__eq__: slots 0 self, 1 other
abbrev s_Tell_text : Stmt := inClass (topS 3) 2
theorem sc_Tell_text : FnScope ["self"] ["self"] (C8.fnScope s_Tell_text) := C8.fnScope_by (by decide +kernel)
-- Tell.text: slots 0 self
abbrev s_Tell_operands : Stmt := inClass (topS 3) 3
theorem sc_Tell_operands : FnScope ["self"] ["self"] (C8.fnScope s_Tell_operands) := C8.fnScope_by (by decide +kernel)
-- Tell.operands: slots 0 self
abbrev s_Put_eq : Stmt := inClass (topS 4) 1
theorem sc_Put_eq : FnScope ["self", "other"] ["self", "other"] (C8.fnScope s_Put_eq) := C8.fnScope_by (by decide +kernel)
-- Put.__eq__: slots 0 self, 1 other
abbrev s_Put_text : Stmt := inClass (topS 4) 2
theorem sc_Put_text : FnScope ["self"] ["self"] (C8.fnScope s_Put_text) := C8.fnScope_by (by decide +kernel)
-- Put.text: slots 0 self
abbrev s_Put_operands : Stmt := inClass (topS 4) 3
theorem sc_Put_operands : FnScope ["self"] ["self"] (C8.fnScope s_Put_operands) := C8.fnScope_by (by decide +kernel)
-- Put.operands: slots 0 self
abbrev s_Same_eq : Stmt := inClass (topS 5) 1
theorem sc_Same_eq : FnScope ["self", "other"] ["self", "other"] (C8.fnScope s_Same_eq) := C8.fnScope_by (by decide +kernel)
-- Same.__eq__: slots 0 self, 1 other
abbrev s_Same_text : Stmt := inClass (topS 5) 2
theorem sc_Same_text : FnScope ["self"] ["self"] (C8.fnScope s_Same_text) := C8.fnScope_by (by decide +kernel)
-- Same.text: slots 0 self
abbrev s_Same_operands : Stmt := inClass (topS 5) 3
theorem sc_Same_operands : FnScope ["self"] ["self"] (C8.fnScope s_Same_operands) := C8.fnScope_by (by decide +kernel)
-- Same.operands: slots 0 self
abbrev s_There_eq : Stmt := inClass (topS 6) 1
theorem sc_There_eq : FnScope ["self", "other"] ["self", "other"] (C8.fnScope s_There_eq) := C8.fnScope_by (by decide +kernel)
-- There.__eq__: slots 0 self, 1 other
abbrev s_There_text : Stmt := inClass (topS 6) 2
theorem sc_There_text : FnScope ["self"] ["self"] (C8.fnScope s_There_text) := C8.fnScope_by (by decide +kernel)
-- There.text: slots 0 self
abbrev s_There_operands : Stmt := inClass (topS 6) 3
theorem sc_There_operands : FnScope ["self"] ["self"] (C8.fnScope s_There_operands) := C8.fnScope_by (by decide +kernel)
-- There.operands: slots 0 self
abbrev s_Call_eq : Stmt := inClass (topS 7) 1
theorem sc_Call_eq : FnScope ["self", "other"] ["self", "other"] (C8.fnScope s_Call_eq) := C8.fnScope_by (by decide +kernel)
-- Call.__eq__: slots 0 self, 1 other
abbrev s_Call_text : Stmt := inClass (topS 7) 2
theorem sc_Call_text : FnScope ["self", "line"] ["self"] (C8.fnScope s_Call_text) := C8.fnScope_by (by decide +kernel)
-- Call.text: slots 0 self, 1 line
abbrev s_Call_operands : Stmt := inClass (topS 7) 3
theorem sc_Call_operands : FnScope ["self"] ["self"] (C8.fnScope s_Call_operands) := C8.fnScope_by (by decide +kernel)
-- Call.operands: slots 0 self
abbrev s_End_eq : Stmt := inClass (topS 8) 0
theorem sc_End_eq : FnScope ["self", "other"] ["self", "other"] (C8.fnScope s_End_eq) := C8.fnScope_by (by decide +kernel)
-- End.__eq__: slots 0 self, 1 other
abbrev s_End_text : Stmt := inClass (topS 8) 1
theorem sc_End_text : FnScope ["self"] ["self"] (C8.fnScope s_End_text) := C8.fnScope_by (by decide +kernel)
-- End.text: slots 0 self
abbrev s_End_operands : Stmt := inClass (topS 8) 2
theorem sc_End_operands : FnScope ["self"] ["self"] (C8.fnScope s_End_operands) := C8.fnScope_by (by decide +kernel)
-- End.operands: slots 0 self
abbrev s_Tell_init : Stmt := inClass (topS 3) 0
theorem sc_Tell_init : FnScope ["self", "value"] ["self", "value"] (C8.fnScope s_Tell_init) := C8.fnScope_by (by decide +kernel)
-- Tell.__init__: slots 0 self, 1 value
abbrev s_Put_init : Stmt := inClass (topS 4) 0
theorem sc_Put_init : FnScope ["self", "place", "value"] ["self", "place", "value"] (C8.fnScope s_Put_init) := C8.fnScope_by (by decide +kernel)
-- Put.__init__: slots 0 self, 1 place, 2 value
abbrev s_Same_init : Stmt := inClass (topS 5) 0
theorem sc_Same_init : FnScope ["self", "left", "right", "skip"] ["self", "left", "right", "skip"] (C8.fnScope s_Same_init) := C8.fnScope_by (by decide +kernel)
-- Same.__init__: slots 0 self, 1 left, 2 right, 3 skip
abbrev s_There_init : Stmt := inClass (topS 6) 0
theorem sc_There_init : FnScope ["self", "name", "skip"] ["self", "name", "skip"] (C8.fnScope s_There_init) := C8.fnScope_by (by decide +kernel)
-- There.__init__: slots 0 self, 1 name, 2 skip
abbrev s_Call_init : Stmt := inClass (topS 7) 0
theorem sc_Call_init : FnScope ["self", "name", "value", "tag"] ["self", "name", "value", "tag"] (C8.fnScope s_Call_init) := C8.fnScope_by (by decide +kernel)
-- Call.__init__: slots 0 self, 1 name, 2 value, 3 tag
structure Top (K : PySem.W.Frag) (mg : Str → Option Value) (A : Kd → Addr) : Prop where
  d_value_text : Dd K mg "value_text" s_value_text ["value"]
  d_draw : Dd K mg "_law_draw" s_draw ["_law_pool", "_law_many"]
  d_name : Dd K mg "_law_name" s_name ["_law_pool", "_law_k"]
  d_number : Dd K mg "_law_number" s_number ["_law_pool"]
  d_any_value : Dd K mg "_law_any_value" s_any_value ["_law_pool"]
  d_value_word : Dd K mg "_law_value_word" s_value_word ["_law_value"]
  d_drawn_row : Dd K mg "_law_drawn_row" s_drawn_row ["_law_pool"]
  d_made : Dd K mg "_law_made" s_made ["_law_row"]
  d_line : Dd K mg "_law_line" s_line ["_law_row"]
  d_values : Dd K mg "_law_values" s_values ["_law_row"]
  d_has_fields : Dd K mg "_law_has_fields" s_has_fields ["_law_made_here", "_law_row"]
  d_law : Dd K mg "law" s_law ["_law_script"]
  m_Tell_eq : Md K (A .tell) "__eq__" "Tell.__eq__" s_Tell_eq ["self", "other"]
  m_Tell_text : Md K (A .tell) "text" "Tell.text" s_Tell_text ["self"]
  m_Tell_operands : Md K (A .tell) "operands" "Tell.operands" s_Tell_operands ["self"]
  m_Put_eq : Md K (A .put) "__eq__" "Put.__eq__" s_Put_eq ["self", "other"]
  m_Put_text : Md K (A .put) "text" "Put.text" s_Put_text ["self"]
  m_Put_operands : Md K (A .put) "operands" "Put.operands" s_Put_operands ["self"]
  m_Same_eq : Md K (A .same) "__eq__" "Same.__eq__" s_Same_eq ["self", "other"]
  m_Same_text : Md K (A .same) "text" "Same.text" s_Same_text ["self"]
  m_Same_operands : Md K (A .same) "operands" "Same.operands" s_Same_operands ["self"]
  m_There_eq : Md K (A .there) "__eq__" "There.__eq__" s_There_eq ["self", "other"]
  m_There_text : Md K (A .there) "text" "There.text" s_There_text ["self"]
  m_There_operands : Md K (A .there) "operands" "There.operands" s_There_operands ["self"]
  m_Call_eq : Md K (A .call) "__eq__" "Call.__eq__" s_Call_eq ["self", "other"]
  m_Call_text : Md K (A .call) "text" "Call.text" s_Call_text ["self"]
  m_Call_operands : Md K (A .call) "operands" "Call.operands" s_Call_operands ["self"]
  m_End_eq : Md K (A .fin) "__eq__" "End.__eq__" s_End_eq ["self", "other"]
  m_End_text : Md K (A .fin) "text" "End.text" s_End_text ["self"]
  m_End_operands : Md K (A .fin) "operands" "End.operands" s_End_operands ["self"]
  i_tell1 : Mi K mg "Tell" (A .tell) "Tell.__init__" s_Tell_init ["self", "value"] []
  i_put2 : Mi K mg "Put" (A .put) "Put.__init__" s_Put_init ["self", "place", "value"] []
  i_same3 : Mi K mg "Same" (A .same) "Same.__init__" s_Same_init ["self", "left", "right", "skip"] []
  i_there2 : Mi K mg "There" (A .there) "There.__init__" s_There_init ["self", "name", "skip"] []
  i_call3 : Mi K mg "Call" (A .call) "Call.__init__" s_Call_init ["self", "name", "value", "tag"] []
  i_call2 : Mi K mg "Call" (A .call) "Call.__init__" s_Call_init ["self", "name", "value", "tag"] [.int 0]
  g_tell : mg "Tell" = some (.ref (A .tell))
  g_put : mg "Put" = some (.ref (A .put))
  g_same : mg "Same" = some (.ref (A .same))
  g_there : mg "There" = some (.ref (A .there))
  g_call : mg "Call" = some (.ref (A .call))
  g_fin : mg "End" = some (.ref (A .fin))
  e_mk : PySem.W.makesIn K (A .fin) = true
  e_in : PySem.W.findIn K (.ref (A .fin)) "__init__" = some (some (.builtin "object.__init__"))
  e_kp : PySem.W.keepIn K (.ref (A .fin)) = true
  ic : ∀ k, C8.InsC K (A k)
  kit : ∀ k j, PySem.W.kitOne K (.ref (A k)) (.ref (A j)) = some (decide (k = j))
  kitS : ∀ j, PySem.W.kitOne K (.type "str") (.ref (A j)) = some false
  nf : ∀ k j, PySem.W.notFirst K (A k) (.ref (A j)) = true
  nfS : ∀ k, PySem.W.notFirst K (A k) (.type "str") = true
  fl : ∀ k (f : Str), f ∈ ([("value" : Str), "place", "left", "right", "skip", "name", "tag"] : List Str) → Cls K (A k) ∧ NoAttr K (A k) f
  z_len : mg "len" = none
  z_int : mg "int" = none
  z_tuple : mg "tuple" = none
  z_list : mg "list" = none
  z_range : mg "range" = none
  z_isinstance : mg "isinstance" = none
  z_str : mg "str" = none
  z_abs : mg "abs" = none
local macro_rules | `(tactic| walk_at "len") => `(tactic| (simp only [Str.length_append, PySem.sizeLine_eq, ll0, ll1, ll2, ll3, ll4, ll5, ll6, ll7, ll8, ll9, ll10, ll11, ll12, ll13, ll14, lle]; omega))
local macro_rules | `(tactic| walk_at "txt") => `(tactic| simp only [Rw.text, Vl.text, itx, Str.empty_append, Str.append_assoc])
set_option hygiene false in
local macro_rules | `(tactic| walk_at "fl") => `(tactic| exact T.fl _ _ (by decide +kernel))
local macro_rules | `(tactic| walk_at "fact") => `(tactic| first | assumption | exact SqL.of (by assumption) | exact SqT.of (by assumption) | exact upd_same | exact SqL.of upd_same | exact SqT.of upd_same)
local macro_rules | `(tactic| walk_at "step") => `(tactic| first
  | with_reducible refine' QB.seqA ?_
  | with_reducible refine' QB.seqD ?_
  | with_reducible refine' QB.seqU ?_
  | ((with_reducible refine' QB.augv ?he ?_); (case he => exact rfl))
  | with_reducible refine' QB.ipi ?_
  | with_reducible refine' QB.setv ?_
  | with_reducible refine' QB.ifs ?_
  | with_reducible refine' QB.ret ?_
  | with_reducible refine' QB.drop ?_
  | with_reducible refine' QB.sets ?_
  | with_reducible refine' QB.opr ?_
  | ((with_reducible refine' QB.var ?he ?_); (case he => exact rfl))
  | with_reducible refine' QB.cst ?_
  | with_reducible refine' QB.tst ?_
  | with_reducible refine' QB.tbb ?_
  | with_reducible refine' QB.exb ?_
  | with_reducible refine' QB.exi ?_
  | with_reducible refine' QB.tand ?_
  | with_reducible refine' QB.tor ?_
  | with_reducible refine' QB.tnot ?_
  | with_reducible refine' QB.tif ?_
  | with_reducible refine' QB.andv ?_
  | with_reducible refine' QB.orv ?_
  | with_reducible refine' QB.kand ?_
  | with_reducible refine' QB.kor ?_
  | with_reducible refine' QB.knot ?_
  | with_reducible refine' QB.tru ?_
  | with_reducible refine' QB.notv ?_
  | with_reducible refine' QB.tcb ?_
  | with_reducible refine' QB.tcall ?_
  | with_reducible refine' QB.tcons ?_
  | with_reducible refine' QB.tnil ?_
  | with_reducible refine' QB.ttup ?_
  | with_reducible refine' QB.tlst ?_
  | with_reducible refine' QB.tbm ?_
  | with_reducible refine' QB.tbm0 ?_
  | with_reducible refine' QB.tsl ?_
  | with_reducible refine' QB.prt ?_
  | with_reducible refine' QB.npr ?_
  | with_reducible refine' QB.unr ?_
  | with_reducible refine' QB.rU' ?_
  | with_reducible refine' QB.rI0' ?_
  | ((with_reducible refine' QB.rI' ?hc ?_); (case hc => first | assumption | decide | exact Or.inr (by decide) | exact Or.inl (by decide) | exact ⟨by decide, by decide, by decide⟩))
  | ((with_reducible refine' QB.req ?hs ?_); (case hs => rfl))
  | ((with_reducible refine' QB.rne ?hs ?_); (case hs => rfl))
  | ((with_reducible refine' QB.ixl ?hp ?ha ?_); (case hp => walk_at "fact"); (case ha => first | rfl | assumption))
  | ((with_reducible refine' QB.ixt ?hp ?ha ?_); (case hp => walk_at "fact"); (case ha => first | rfl | assumption))
  | ((with_reducible refine' QB.setl ?hp ?hj ?_); (case hp => walk_at "fact"); (case hj => rfl))
  | ((with_reducible refine' QB.tyl ?hp ?_); (case hp => walk_at "fact"))
  | ((with_reducible refine' QB.len_l ?hp ?_); (case hp => walk_at "fact"))
  | ((with_reducible refine' QB.len_t ?hp ?_); (case hp => walk_at "fact"))
  | ((with_reducible refine' QB.trl ?hp ?_); (case hp => walk_at "fact"))
  | ((with_reducible refine' QB.trt ?hp ?_); (case hp => walk_at "fact"))
  | with_reducible refine' QB.int_i ?_
  | with_reducible refine' QB.abs_i ?_
  | with_reducible refine' QB.max_i ?_
  | with_reducible refine' QB.min_i ?_
  | with_reducible refine' QB.gnm ?_
  | with_reducible refine' QB.gsb ?_
  | ((with_reducible show Ends.nx _ _ _); (with_reducible refine' QB.nxk ?_))
  | ((with_reducible show Ends.rt _ _ _); (with_reducible refine' QB.rtk ?_))
  | ((with_reducible show Ends.bk _ _ _); (with_reducible refine' QB.bkk ?_))
  | ((with_reducible show Ends.ct _ _ _); (with_reducible refine' QB.ctk ?_))
  | with_reducible refine' QB.itT ?_
  | with_reducible refine' QB.itF ?_
  | with_reducible refine' QB.itNT ?_
  | with_reducible refine' QB.itNF ?_
  | with_reducible refine' QB.yes ?_
  | ((with_reducible refine' QB.inL ?hp ?_); (case hp => walk_at "fact"))
  | ((with_reducible refine' QB.niL ?hp ?_); (case hp => walk_at "fact"))
  | ((with_reducible refine' QB.inT ?hp ?_); (case hp => walk_at "fact"))
  | ((with_reducible refine' QB.niT ?hp ?_); (case hp => walk_at "fact"))
  | with_reducible refine' QB.fs_rng1 ?_
  | with_reducible refine' QB.fs_rng2 ?_
  | with_reducible refine' QB.fs_lst ?_
  | with_reducible refine' QB.fs_tup ?_
  | with_reducible refine' QB.f_rng1 ?_
  | with_reducible refine' QB.f_rng2 ?_
  | with_reducible refine' QB.f_lst ?_
  | with_reducible refine' QB.f_tup ?_
  | with_reducible refine' QB.c_rng1 ?_
  | with_reducible refine' QB.c_lstL ?_
  | with_reducible refine' QB.c_tupL ?_
  | with_reducible refine' QC.fld ?_
  | ((with_reducible refine' QC.kfld ?ha ?hc ?hl ?_); (case ha => first | assumption | exact upd_same); (case hc => walk_at "fl"); (case hl => rfl))
  | with_reducible refine' QC.sqfld ?_
  | with_reducible refine' QC.sfld ?_
  | ((with_reducible refine' QC.ksf ?ha ?hc ?hl ?_); (case ha => first | assumption | exact upd_same); (case hc => walk_at "fl"); (case hl => exact Nat.le_of_ble_eq_true rfl))
  | with_reducible refine' QC.dyn ?_
  | with_reducible refine' QC.mk ?_
  | with_reducible refine' QC.join ?_
  | with_reducible refine' QC.jcons ?_
  | with_reducible refine' QC.jnil ?_
  | ((with_reducible refine' QC.kj ?hl ?_); (case hl => walk_at "len"))
  | with_reducible refine' QC.fmt ?_
  | ((with_reducible refine' QC.kfs ?hl ?_); (case hl => walk_at "len"))
  | ((with_reducible refine' QC.kfi ?hl ?_); (case hl => first | assumption | exact big_log (by assumption)))
  | ((with_reducible refine' QC.stri ?hl ?_); (case hl => first | assumption | exact big_log (by assumption)))
  | ((with_reducible refine' QC.adds ?hl ?_); (case hl => walk_at "len"))
  | with_reducible refine' itST ?_
  | ((with_reducible refine' itSF ?hd ?_); (case hd => decide))
  | with_reducible refine' QB.nxt ?_)
local macro_rules | `(tactic| walk_at "go") => `(tactic| repeat (walk_at "step"))
local macro_rules | `(tactic| walk_at "goi") => `(tactic| repeat (first | walk_at "step" | with_reducible refine' QB.seqI ?_))
section
variable {P : Program} {w : World} {K : PySem.W.Frag} {mg : Str → Option Value} {A : Kd → Addr} {base : Heap}
def spVT : Sp := fun vs H Q _ => ∃ (t : Addr) (v : Vl), vs = [.ref t] ∧ VAt H t v ∧ v.ok ∧ Q (.str v.text) H
theorem ok_value_text (T : Top K mg A) : C8.Cal P w K mg base 1 "value_text" spVT [] := by
  refine cal_of T.d_value_text sc_value_text (fun vs H Q E h => ?_) (fun f cdv AA outer s H vs Q E hr h => ?_)
  · obtain ⟨t, v, rfl, _⟩ := h
    rfl
  · obtain ⟨t, v, rfl, hv, ok, q⟩ := h
    refine ⟨_, (pss_cons (ps_set (i := 1) sc_value_text.nd rfl (Or.inl rfl) (pe_ix ix_tup (pv 0) pe_int (fun _ _ => rfl)))
      (pss_cons (ps_if (pt_cmpR op_eq (pv 1) pe_str (nomark _))
      (pss_one (ps_ret (pe_callTy QC.c_strI (by rfl) T.z_str (by decide +kernel) (pa_cons (pe_ix ix_tup (pv 0) pe_int (fun _ _ => rfl)) pa_nil))))
      pss_nil)
      (pss_cons (ps_if (pt_cmpR op_eq (pv 1) pe_str (nomark _))
      (pss_one (ps_ret pe_str))
      pss_nil)
      (pss_cons (ps_if (pt_cmpR op_eq (pv 1) pe_str (nomark _))
      (pss_one (ps_ret (QC.pe_join (PJ.cons (pe_fmt (pe_ix ix_tup (pv 0) pe_int (fun _ _ => rfl))) (PJ.cons pe_str (PJ.cons (pe_fmt (pe_ix ix_tup (pv 0) pe_int (fun _ _ => rfl))) PJ.nil))))))
      pss_nil)
      (pss_cons (ps_if (pt_cmpR op_eq (pv 1) pe_str (nomark _))
      (pss_one (ps_ret (pe_op o_adds pe_str (pe_ix ix_tup (pv 0) pe_int (fun _ _ => rfl)))))
      pss_nil)
      (pss_one (ps_ret (pe_op o_adds pe_str (pe_ix ix_tup (pv 0) pe_int (fun _ _ => rfl)))))))))), ?_⟩
    try dsimp only [cxOf]
    cases v with
    | num i =>
      have h : H t = some (.tup [.str "number", .int i]) := hv
      have hb : Big i := ok
      walk_at "goi"
      exact q
    | arg =>
      have h : H t = some (.tup [.str "argument"]) := hv
      walk_at "goi"
      exact q
    | place n i =>
      have h : H t = some (.tup [.str "place", .str n, .int i]) := hv
      have hb : Big i := ok.2
      have hn : n.length ≤ 5000 := ok.1.1
      have hi : (Str.ofString (toString i)).length ≤ 100 := itx_len hb
      walk_at "goi"
      exact QC.qs q (by walk_at "txt")
    | own n =>
      have h : H t = some (.tup [.str "own", .str n]) := hv
      have hn : n.length ≤ 5000 := ok.1
      walk_at "goi"
      exact q
    | named n =>
      have h : H t = some (.tup [.str "named", .str n]) := hv
      have hn : n.length ≤ 5000 := ok.1
      walk_at "goi"
      exact q
theorem ok_value_word (T : Top K mg A) : C8.Cal P w K mg base 1 "_law_value_word" spVT [] := by
  refine cal_of T.d_value_word sc_value_word (fun vs H Q E h => ?_) (fun f cdv AA outer s H vs Q E hr h => ?_)
  · obtain ⟨t, v, rfl, _⟩ := h
    rfl
  · obtain ⟨t, v, rfl, hv, ok, q⟩ := h
    refine ⟨_, (pss_cons (ps_if (pt_cmpR op_eq (pe_ix ix_tup (pv 0) pe_int (fun _ _ => rfl)) pe_str (nomark _))
      (pss_one (ps_ret (pe_callTy QC.c_strI (by rfl) T.z_str (by decide +kernel) (pa_cons (pe_ix ix_tup (pv 0) pe_int (fun _ _ => rfl)) pa_nil))))
      pss_nil)
      (pss_cons (ps_if (pt_cmpR op_eq (pe_ix ix_tup (pv 0) pe_int (fun _ _ => rfl)) pe_str (nomark _))
      (pss_one (ps_ret pe_str))
      pss_nil)
      (pss_cons (ps_if (pt_cmpR op_eq (pe_ix ix_tup (pv 0) pe_int (fun _ _ => rfl)) pe_str (nomark _))
      (pss_one (ps_ret (pe_op o_adds (pe_op o_adds (pe_ix ix_tup (pv 0) pe_int (fun _ _ => rfl)) pe_str) (pe_callTy QC.c_strI (by rfl) T.z_str (by decide +kernel) (pa_cons (pe_ix ix_tup (pv 0) pe_int (fun _ _ => rfl)) pa_nil)))))
      pss_nil)
      (pss_one (ps_ret (pe_op o_adds (pe_ifExp (pt_cmpR op_eq (pe_ix ix_tup (pv 0) pe_int (fun _ _ => rfl)) pe_str (nomark _)) pe_str pe_str) (pe_ix ix_tup (pv 0) pe_int (fun _ _ => rfl)))))))), ?_⟩
    try dsimp only [cxOf]
    cases v with
    | num i =>
      have h : H t = some (.tup [.str "number", .int i]) := hv
      have hb : Big i := ok
      walk_at "goi"
      exact q
    | arg =>
      have h : H t = some (.tup [.str "argument"]) := hv
      walk_at "goi"
      exact q
    | place n i =>
      have h : H t = some (.tup [.str "place", .str n, .int i]) := hv
      have hb : Big i := ok.2
      have hn : n.length ≤ 5000 := ok.1.1
      have hi : (Str.ofString (toString i)).length ≤ 100 := itx_len hb
      walk_at "goi"
      exact QC.qs q (by walk_at "txt")
    | own n =>
      have h : H t = some (.tup [.str "own", .str n]) := hv
      have hn : n.length ≤ 5000 := ok.1
      walk_at "goi"
      exact q
    | named n =>
      have h : H t = some (.tup [.str "named", .str n]) := hv
      have hn : n.length ≤ 5000 := ok.1
      walk_at "goi"
      exact q
end
section
variable {P : Program} {w : World} {K : PySem.W.Frag} {mg : Str → Option Value} {A : Kd → Addr} {base : Heap}
theorem met_of {m qual : Str} {C : Addr} {st : Stmt} {N ps : List Str} {k : Nat} {sp : Sp} (d : Md K C m qual st ps) (S : FnScope N ps (C8.fnScope st)) (len : ∀ vs H Q E, sp vs H Q E → vs.length = ps.length)
    (hbody : ∀ (f : Addr) (cdv : Value) (A : Around) (outer : List Env) (s : Shared) (H : Hp) (vs : List V) (Q : VK) (E : XK), Room k (A.deeper (envOfC qual (C8.fnScope st) s.heap.objs.size f cdv)) → sp vs H Q E →
      ∃ t, PSs (cxOf CX0 P w K mg base N qual (C8.fnScope st) f cdv A outer s H E).nox (C8.fnBody st) t ∧ t { nx := fun _ H' => Q .non H', rt := Q } (start N vs) H) : C8.Met P w K mg base (k + 1) C m sp [] := by
  obtain ⟨f, fd, hc, hm, F, b⟩ := d.ex
  exact C8.met0 hc hm F b S len (hbody f)
theorem mak_of {x qual : Str} {C : Addr} {st : Stmt} {N ps : List Str} {dvs : List V} {k : Nat} {sp : Sp} (d : Mi K mg x C qual st ps dvs) (S : FnScope N ps (C8.fnScope st)) (len : ∀ vs H Q E, sp vs H Q E → vs.length = ps.length)
    (hbody : ∀ (f : Addr) (cdv : Value) (A : Around) (outer : List Env) (s : Shared) (H : Hp) (vs : List V) (Q : VK) (E : XK), Room k (A.deeper (envOfC qual (C8.fnScope st) s.heap.objs.size f cdv)) → sp vs H Q E →
      ∃ t, PSs (cxOf CX0 P w K mg base N qual (C8.fnScope st) f cdv A outer s H E).nox (C8.fnBody st) t ∧ t { nx := fun _ H' => Q .non H', rt := Q } (start N vs) H) : C8.Mak P w K mg base (k + 1) x C sp dvs := by
  obtain ⟨f, fd, ds, M, hm, F, b, v⟩ := d.ex
  exact C8.mak0 M hm F b v S len (hbody f)
def spIn (C : Addr) (names : List Str) : Sp := fun vs H Q _ => ∃ (o dx : Addr) (xs : List V), vs = .ref o :: xs ∧ xs.length = names.length ∧ H o = some (.ins C dx []) ∧ ∀ H', (∀ b, b ≠ o → H' b = H b) → H' o = some (.ins C dx (names.zip xs)) → Q .non H'
def spText (A : Kd → Addr) (k : Kd) : Sp := fun vs H Q _ => ∃ (o : Addr) (r : Rw), vs = [.ref o] ∧ r.kd = k ∧ ObjAt A H o r ∧ r.ok ∧ Q (.str r.text) H
def spOper (A : Kd → Addr) (k : Kd) : Sp := fun vs H Q _ => ∃ (o : Addr) (r : Rw), vs = [.ref o] ∧ r.kd = k ∧ ObjAt A H o r ∧ ∀ (l : Addr) (ts : List Addr), H l = none → Paired (VAt H) ts r.vals → Q (.ref l) (upd H l (.lst (ts.map V.ref)))
def spEq (A : Kd → Addr) (k : Kd) : Sp := fun vs H Q _ => ∃ (o : Addr) (r : Rw) (y : V), vs = [.ref o, y] ∧ r.kd = k ∧ ObjAt A H o r ∧ r.ok ∧ ((∃ (o2 : Addr) (r2 : Rw), y = .ref o2 ∧ ObjAt A H o2 r2 ∧ r2.ok ∧ Q (.bl (decide (r = r2))) H) ∨ ∃ z, y = .str z ∧ Q (.bl false) H)
theorem ty_obj (T : Top K mg A) {H : Hp} {o : Addr} {r : Rw} (h : ObjAt A H o r) : TyX K H (.ref o) (.ref (A r.kd)) := by
  obtain ⟨dx, fs, h1, _⟩ := h.ins
  have c := T.ic r.kd
  exact .base (.ins h1 c.cl c.ha c.hn c.htk c.hm)
theorem mk_tell1 (T : Top K mg A) : C8.Mak P w K mg base 1 "Tell" (A .tell) (spIn (A .tell) ["value"]) [] := by
  refine mak_of T.i_tell1 sc_Tell_init (fun vs H Q E h => ?_) (fun f cdv AA outer s H vs Q E hr h => ?_)
  · obtain ⟨o, dx, xs, rfl, hl, _⟩ := h
    simp only [List.length_cons, hl]
  · obtain ⟨o, dx, xs, rfl, hl, ho, q⟩ := h
    obtain ⟨x0, rfl⟩ : ∃ x0, xs = [x0] := by
      match xs, hl with
      | [x0], _ => exact ⟨_, rfl⟩
    refine ⟨_, (pss_one (ps_fld (pv 0) (pv 1) rfl)), ?_⟩
    try dsimp only [cxOf]
    walk_at "goi"
    exact q _ (fun b hb => by simp only [upd_ne hb]) upd_same
theorem mk_put2 (T : Top K mg A) : C8.Mak P w K mg base 1 "Put" (A .put) (spIn (A .put) ["place", "value"]) [] := by
  refine mak_of T.i_put2 sc_Put_init (fun vs H Q E h => ?_) (fun f cdv AA outer s H vs Q E hr h => ?_)
  · obtain ⟨o, dx, xs, rfl, hl, _⟩ := h
    simp only [List.length_cons, hl]
  · obtain ⟨o, dx, xs, rfl, hl, ho, q⟩ := h
    obtain ⟨x0, x1, rfl⟩ : ∃ x0 x1, xs = [x0, x1] := by
      match xs, hl with
      | [x0, x1], _ => exact ⟨_, _, rfl⟩
    refine ⟨_, (pss_cons (ps_fld (pv 0) (pv 1) rfl)
      (pss_one (ps_fld (pv 0) (pv 2) rfl))), ?_⟩
    try dsimp only [cxOf]
    walk_at "goi"
    exact q _ (fun b hb => by simp only [upd_ne hb]) upd_same
theorem mk_same3 (T : Top K mg A) : C8.Mak P w K mg base 1 "Same" (A .same) (spIn (A .same) ["left", "right", "skip"]) [] := by
  refine mak_of T.i_same3 sc_Same_init (fun vs H Q E h => ?_) (fun f cdv AA outer s H vs Q E hr h => ?_)
  · obtain ⟨o, dx, xs, rfl, hl, _⟩ := h
    simp only [List.length_cons, hl]
  · obtain ⟨o, dx, xs, rfl, hl, ho, q⟩ := h
    obtain ⟨x0, x1, x2, rfl⟩ : ∃ x0 x1 x2, xs = [x0, x1, x2] := by
      match xs, hl with
      | [x0, x1, x2], _ => exact ⟨_, _, _, rfl⟩
    refine ⟨_, (pss_cons (ps_fld (pv 0) (pv 1) rfl)
      (pss_cons (ps_fld (pv 0) (pv 2) rfl)
      (pss_one (ps_fld (pv 0) (pv 3) rfl)))), ?_⟩
    try dsimp only [cxOf]
    walk_at "goi"
    exact q _ (fun b hb => by simp only [upd_ne hb]) upd_same
theorem mk_there2 (T : Top K mg A) : C8.Mak P w K mg base 1 "There" (A .there) (spIn (A .there) ["name", "skip"]) [] := by
  refine mak_of T.i_there2 sc_There_init (fun vs H Q E h => ?_) (fun f cdv AA outer s H vs Q E hr h => ?_)
  · obtain ⟨o, dx, xs, rfl, hl, _⟩ := h
    simp only [List.length_cons, hl]
  · obtain ⟨o, dx, xs, rfl, hl, ho, q⟩ := h
    obtain ⟨x0, x1, rfl⟩ : ∃ x0 x1, xs = [x0, x1] := by
      match xs, hl with
      | [x0, x1], _ => exact ⟨_, _, rfl⟩
    refine ⟨_, (pss_cons (ps_fld (pv 0) (pv 1) rfl)
      (pss_one (ps_fld (pv 0) (pv 2) rfl))), ?_⟩
    try dsimp only [cxOf]
    walk_at "goi"
    exact q _ (fun b hb => by simp only [upd_ne hb]) upd_same
theorem mk_call3 (T : Top K mg A) : C8.Mak P w K mg base 1 "Call" (A .call) (spIn (A .call) ["name", "value", "tag"]) [] := by
  refine mak_of T.i_call3 sc_Call_init (fun vs H Q E h => ?_) (fun f cdv AA outer s H vs Q E hr h => ?_)
  · obtain ⟨o, dx, xs, rfl, hl, _⟩ := h
    simp only [List.length_cons, hl]
  · obtain ⟨o, dx, xs, rfl, hl, ho, q⟩ := h
    obtain ⟨x0, x1, x2, rfl⟩ : ∃ x0 x1 x2, xs = [x0, x1, x2] := by
      match xs, hl with
      | [x0, x1, x2], _ => exact ⟨_, _, _, rfl⟩
    refine ⟨_, (pss_cons (ps_fld (pv 0) (pv 1) rfl)
      (pss_cons (ps_fld (pv 0) (pv 2) rfl)
      (pss_one (ps_fld (pv 0) (pv 3) rfl)))), ?_⟩
    try dsimp only [cxOf]
    walk_at "goi"
    exact q _ (fun b hb => by simp only [upd_ne hb]) upd_same
theorem mk_call2 (T : Top K mg A) : C8.Mak P w K mg base 1 "Call" (A .call) (spIn (A .call) ["name", "value", "tag"]) [.int 0] := by
  refine mak_of T.i_call2 sc_Call_init (fun vs H Q E h => ?_) (fun f cdv AA outer s H vs Q E hr h => ?_)
  · obtain ⟨o, dx, xs, rfl, hl, _⟩ := h
    simp only [List.length_cons, hl]
  · obtain ⟨o, dx, xs, rfl, hl, ho, q⟩ := h
    obtain ⟨x0, x1, x2, rfl⟩ : ∃ x0 x1 x2, xs = [x0, x1, x2] := by
      match xs, hl with
      | [x0, x1, x2], _ => exact ⟨_, _, _, rfl⟩
    refine ⟨_, (pss_cons (ps_fld (pv 0) (pv 1) rfl)
      (pss_cons (ps_fld (pv 0) (pv 2) rfl)
      (pss_one (ps_fld (pv 0) (pv 3) rfl)))), ?_⟩
    try dsimp only [cxOf]
    walk_at "goi"
    exact q _ (fun b hb => by simp only [upd_ne hb]) upd_same
theorem ok_Tell_text (T : Top K mg A) : C8.Met P w K mg base 2 (A .tell) "text" (spText A .tell) [] := by
  have c_value_text : C8.Cal P w K mg base 1 "value_text" spVT [] := ok_value_text T
  refine met_of T.m_Tell_text sc_Tell_text (fun vs H Q E h => ?_) (fun f cdv AA outer s H vs Q E hr h => ?_)
  · obtain ⟨o, r, rfl, _⟩ := h
    rfl
  · obtain ⟨o, r, rfl, hk, ho, ok, q⟩ := h
    refine ⟨_, (pss_one (ps_ret (QC.pe_join (PJ.cons pe_str (PJ.cons (pe_fmt (C8.pe_c c_value_text hr (by decide) (by rfl) (pa_cons (pe_fld (pv 0) rfl) pa_nil))) PJ.nil))))), ?_⟩
    try dsimp only [cxOf]
    cases r with
    | tell v =>
      obtain ⟨dx, t, h1, h2⟩ := ho
      have l_v := vt_len (v := v) ok
      walk_at "goi"
      refine ⟨t, v, rfl, h2, ok, ?_⟩
      walk_at "goi"
      exact QC.qs q (by walk_at "txt")
    | _ => cases hk
theorem ok_Tell_operands (T : Top K mg A) : C8.Met P w K mg base 1 (A .tell) "operands" (spOper A .tell) [] := by
  refine met_of T.m_Tell_operands sc_Tell_operands (fun vs H Q E h => ?_) (fun f cdv AA outer s H vs Q E hr h => ?_)
  · obtain ⟨o, r, rfl, _⟩ := h
    rfl
  · obtain ⟨o, r, rfl, hk, ho, q⟩ := h
    refine ⟨_, (pss_one (ps_ret (pe_lst (pa_cons (pe_fld (pv 0) rfl) pa_nil)))), ?_⟩
    try dsimp only [cxOf]
    cases r with
    | tell v =>
      obtain ⟨dx, t, h1, h2⟩ := ho
      walk_at "goi"
      refine ⟨by rw [PySem.sizeLine_eq]; simp, fun l hl => ?_⟩
      exact q l [t] hl (.cons h2 .nil)
    | _ => cases hk
theorem ok_Tell_eq (T : Top K mg A) : C8.Met P w K mg base 1 (A .tell) "__eq__" (spEq A .tell) [] := by
  refine met_of T.m_Tell_eq sc_Tell_eq (fun vs H Q E h => ?_) (fun f cdv AA outer s H vs Q E hr h => ?_)
  · obtain ⟨o, r, y, rfl, _⟩ := h
    rfl
  · obtain ⟨o, r, y, rfl, hk, ho, ok, h⟩ := h
    refine ⟨_, (pss_one (ps_ret (pe_and (pe_callB call_isi (by rfl) T.z_isinstance (by decide +kernel) (pa_cons (pv 1) (pa_cons (pe_glob (v := .ref (A .tell)) (by rfl) T.g_tell rfl) pa_nil))) (pe_one (pe_cmpR (op_eqD hr.units) (pe_fld (pv 0) rfl) (pe_fld (pv 1) rfl) (nomark _)))))), ?_⟩
    try dsimp only [cxOf]
    cases r with
    | tell v =>
      obtain ⟨dx, t, h1, h2⟩ := ho
      walk_at "goi"
      rcases h with ⟨o2, r2, rfl, ho2, ok2, q⟩ | ⟨z, rfl, q⟩
      · refine QC.isiO (ty_obj T ho2) (T.kit _ _) ?_
        walk_at "goi"
        refine itD (fun e => ?_) (fun e => ?_)
        · cases r2 with
          | tell v' =>
            obtain ⟨dy, t', g1, g2⟩ := ho2
            walk_at "goi"
            refine eqd h2.dp g2.dp (v_shaped ok) (v_shaped ok2) ?_
            rw [eqv_v]
            walk_at "goi"
            exact QC.qb q (by simp)
          | _ => cases e
        · exact QC.qb q (decide_eq_false (by rintro rfl; exact e rfl))
      · refine QC.isiO (.base (.str z)) (T.kitS _) ?_
        walk_at "goi"
        exact q
    | _ => cases hk
theorem ok_Put_text (T : Top K mg A) : C8.Met P w K mg base 2 (A .put) "text" (spText A .put) [] := by
  have c_value_text : C8.Cal P w K mg base 1 "value_text" spVT [] := ok_value_text T
  refine met_of T.m_Put_text sc_Put_text (fun vs H Q E h => ?_) (fun f cdv AA outer s H vs Q E hr h => ?_)
  · obtain ⟨o, r, rfl, _⟩ := h
    rfl
  · obtain ⟨o, r, rfl, hk, ho, ok, q⟩ := h
    refine ⟨_, (pss_one (ps_ret (QC.pe_join (PJ.cons pe_str (PJ.cons (pe_fmt (C8.pe_c c_value_text hr (by decide) (by rfl) (pa_cons (pe_fld (pv 0) rfl) pa_nil))) (PJ.cons pe_str (PJ.cons (pe_fmt (C8.pe_c c_value_text hr (by decide) (by rfl) (pa_cons (pe_fld (pv 0) rfl) pa_nil))) PJ.nil))))))), ?_⟩
    try dsimp only [cxOf]
    cases r with
    | put p v =>
      obtain ⟨dx, t, u, h1, h2, h3⟩ := ho
      have l_p := vt_len (v := p) ok.1
      have l_v := vt_len (v := v) ok.2
      walk_at "goi"
      refine ⟨t, p, rfl, h2, ok.1, ?_⟩
      walk_at "goi"
      refine ⟨u, v, rfl, h3, ok.2, ?_⟩
      walk_at "goi"
      exact QC.qs q (by walk_at "txt")
    | _ => cases hk
theorem ok_Put_operands (T : Top K mg A) : C8.Met P w K mg base 1 (A .put) "operands" (spOper A .put) [] := by
  refine met_of T.m_Put_operands sc_Put_operands (fun vs H Q E h => ?_) (fun f cdv AA outer s H vs Q E hr h => ?_)
  · obtain ⟨o, r, rfl, _⟩ := h
    rfl
  · obtain ⟨o, r, rfl, hk, ho, q⟩ := h
    refine ⟨_, (pss_one (ps_ret (pe_lst (pa_cons (pe_fld (pv 0) rfl) (pa_cons (pe_fld (pv 0) rfl) pa_nil))))), ?_⟩
    try dsimp only [cxOf]
    cases r with
    | put p v =>
      obtain ⟨dx, t, u, h1, h2, h3⟩ := ho
      walk_at "goi"
      refine ⟨by rw [PySem.sizeLine_eq]; simp, fun l hl => ?_⟩
      exact q l [t, u] hl (.cons h2 (.cons h3 .nil))
    | _ => cases hk
theorem ok_Put_eq (T : Top K mg A) : C8.Met P w K mg base 1 (A .put) "__eq__" (spEq A .put) [] := by
  refine met_of T.m_Put_eq sc_Put_eq (fun vs H Q E h => ?_) (fun f cdv AA outer s H vs Q E hr h => ?_)
  · obtain ⟨o, r, y, rfl, _⟩ := h
    rfl
  · obtain ⟨o, r, y, rfl, hk, ho, ok, h⟩ := h
    refine ⟨_, (pss_one (ps_ret (pe_and (pe_callB call_isi (by rfl) T.z_isinstance (by decide +kernel) (pa_cons (pv 1) (pa_cons (pe_glob (v := .ref (A .put)) (by rfl) T.g_put rfl) pa_nil))) (pe_and (pe_cmpR (op_eqD hr.units) (pe_fld (pv 0) rfl) (pe_fld (pv 1) rfl) (nomark _)) (pe_one (pe_cmpR (op_eqD hr.units) (pe_fld (pv 0) rfl) (pe_fld (pv 1) rfl) (nomark _))))))), ?_⟩
    try dsimp only [cxOf]
    cases r with
    | put p v =>
      obtain ⟨dx, t, u, h1, h2, h3⟩ := ho
      walk_at "goi"
      rcases h with ⟨o2, r2, rfl, ho2, ok2, q⟩ | ⟨z, rfl, q⟩
      · refine QC.isiO (ty_obj T ho2) (T.kit _ _) ?_
        walk_at "goi"
        refine itD (fun e => ?_) (fun e => ?_)
        · cases r2 with
          | put p' v' =>
            obtain ⟨dy, t', u', g1, g2, g3⟩ := ho2
            walk_at "goi"
            refine eqd h2.dp g2.dp (v_shaped ok.1) (v_shaped ok2.1) ?_
            rw [eqv_v]
            walk_at "goi"
            refine itD (fun e0 => ?_) (fun e0 => ?_)
            rotate_left
            · exact QC.qb q (decide_eq_false (by intro e9; apply e0; injections <;> simp_all))
            subst e0
            walk_at "goi"
            refine eqd h3.dp g3.dp (v_shaped ok.2) (v_shaped ok2.2) ?_
            rw [eqv_v]
            walk_at "goi"
            exact QC.qb q (by simp)
          | _ => cases e
        · exact QC.qb q (decide_eq_false (by rintro rfl; exact e rfl))
      · refine QC.isiO (.base (.str z)) (T.kitS _) ?_
        walk_at "goi"
        exact q
    | _ => cases hk
theorem ok_Same_text (T : Top K mg A) : C8.Met P w K mg base 2 (A .same) "text" (spText A .same) [] := by
  have c_value_text : C8.Cal P w K mg base 1 "value_text" spVT [] := ok_value_text T
  refine met_of T.m_Same_text sc_Same_text (fun vs H Q E h => ?_) (fun f cdv AA outer s H vs Q E hr h => ?_)
  · obtain ⟨o, r, rfl, _⟩ := h
    rfl
  · obtain ⟨o, r, rfl, hk, ho, ok, q⟩ := h
    refine ⟨_, (pss_one (ps_ret (QC.pe_join (PJ.cons pe_str (PJ.cons (pe_fmt (C8.pe_c c_value_text hr (by decide) (by rfl) (pa_cons (pe_fld (pv 0) rfl) pa_nil))) (PJ.cons pe_str (PJ.cons (pe_fmt (C8.pe_c c_value_text hr (by decide) (by rfl) (pa_cons (pe_fld (pv 0) rfl) pa_nil))) (PJ.cons pe_str (PJ.cons (pe_fmt (pe_fld (pv 0) rfl)) PJ.nil))))))))), ?_⟩
    try dsimp only [cxOf]
    cases r with
    | same p v k =>
      obtain ⟨dx, t, u, h1, h2, h3⟩ := ho
      have l_p := vt_len (v := p) ok.1
      have l_v := vt_len (v := v) ok.2.1
      have hb : Big k := ok.2.2
      have hi : (Str.ofString (toString k)).length ≤ 100 := itx_len hb
      walk_at "goi"
      refine ⟨t, p, rfl, h2, ok.1, ?_⟩
      walk_at "goi"
      refine ⟨u, v, rfl, h3, ok.2.1, ?_⟩
      walk_at "goi"
      exact QC.qs q (by walk_at "txt")
    | _ => cases hk
theorem ok_Same_operands (T : Top K mg A) : C8.Met P w K mg base 1 (A .same) "operands" (spOper A .same) [] := by
  refine met_of T.m_Same_operands sc_Same_operands (fun vs H Q E h => ?_) (fun f cdv AA outer s H vs Q E hr h => ?_)
  · obtain ⟨o, r, rfl, _⟩ := h
    rfl
  · obtain ⟨o, r, rfl, hk, ho, q⟩ := h
    refine ⟨_, (pss_one (ps_ret (pe_lst (pa_cons (pe_fld (pv 0) rfl) (pa_cons (pe_fld (pv 0) rfl) pa_nil))))), ?_⟩
    try dsimp only [cxOf]
    cases r with
    | same p v k =>
      obtain ⟨dx, t, u, h1, h2, h3⟩ := ho
      walk_at "goi"
      refine ⟨by rw [PySem.sizeLine_eq]; simp, fun l hl => ?_⟩
      exact q l [t, u] hl (.cons h2 (.cons h3 .nil))
    | _ => cases hk
theorem ok_Same_eq (T : Top K mg A) : C8.Met P w K mg base 1 (A .same) "__eq__" (spEq A .same) [] := by
  refine met_of T.m_Same_eq sc_Same_eq (fun vs H Q E h => ?_) (fun f cdv AA outer s H vs Q E hr h => ?_)
  · obtain ⟨o, r, y, rfl, _⟩ := h
    rfl
  · obtain ⟨o, r, y, rfl, hk, ho, ok, h⟩ := h
    refine ⟨_, (pss_one (ps_ret (pe_and (pe_callB call_isi (by rfl) T.z_isinstance (by decide +kernel) (pa_cons (pv 1) (pa_cons (pe_glob (v := .ref (A .same)) (by rfl) T.g_same rfl) pa_nil))) (pe_and (pe_cmpR (op_eqD hr.units) (pe_fld (pv 0) rfl) (pe_fld (pv 1) rfl) (nomark _)) (pe_and (pe_cmpR (op_eqD hr.units) (pe_fld (pv 0) rfl) (pe_fld (pv 1) rfl) (nomark _)) (pe_one (pe_cmpR op_eq (pe_fld (pv 0) rfl) (pe_fld (pv 1) rfl) (nomark _)))))))), ?_⟩
    try dsimp only [cxOf]
    cases r with
    | same p v k =>
      obtain ⟨dx, t, u, h1, h2, h3⟩ := ho
      walk_at "goi"
      rcases h with ⟨o2, r2, rfl, ho2, ok2, q⟩ | ⟨z, rfl, q⟩
      · refine QC.isiO (ty_obj T ho2) (T.kit _ _) ?_
        walk_at "goi"
        refine itD (fun e => ?_) (fun e => ?_)
        · cases r2 with
          | same p' v' k' =>
            obtain ⟨dy, t', u', g1, g2, g3⟩ := ho2
            walk_at "goi"
            refine eqd h2.dp g2.dp (v_shaped ok.1) (v_shaped ok2.1) ?_
            rw [eqv_v]
            walk_at "goi"
            refine itD (fun e0 => ?_) (fun e0 => ?_)
            rotate_left
            · exact QC.qb q (decide_eq_false (by intro e9; apply e0; injections <;> simp_all))
            subst e0
            walk_at "goi"
            refine eqd h3.dp g3.dp (v_shaped ok.2.1) (v_shaped ok2.2.1) ?_
            rw [eqv_v]
            walk_at "goi"
            refine itD (fun e1 => ?_) (fun e1 => ?_)
            rotate_left
            · exact QC.qb q (decide_eq_false (by intro e9; apply e1; injections <;> simp_all))
            subst e1
            walk_at "goi"
            walk_at "goi"
            exact QC.qb q (by simp)
          | _ => cases e
        · exact QC.qb q (decide_eq_false (by rintro rfl; exact e rfl))
      · refine QC.isiO (.base (.str z)) (T.kitS _) ?_
        walk_at "goi"
        exact q
    | _ => cases hk
theorem ok_There_text (T : Top K mg A) : C8.Met P w K mg base 2 (A .there) "text" (spText A .there) [] := by
  have c_value_text : C8.Cal P w K mg base 1 "value_text" spVT [] := ok_value_text T
  refine met_of T.m_There_text sc_There_text (fun vs H Q E h => ?_) (fun f cdv AA outer s H vs Q E hr h => ?_)
  · obtain ⟨o, r, rfl, _⟩ := h
    rfl
  · obtain ⟨o, r, rfl, hk, ho, ok, q⟩ := h
    refine ⟨_, (pss_one (ps_ret (QC.pe_join (PJ.cons pe_str (PJ.cons (pe_fmt (pe_fld (pv 0) rfl)) (PJ.cons pe_str (PJ.cons (pe_fmt (pe_fld (pv 0) rfl)) PJ.nil))))))), ?_⟩
    try dsimp only [cxOf]
    cases r with
    | there n k =>
      obtain ⟨dx, h1⟩ := ho
      have hb : Big k := ok.2
      have hi : (Str.ofString (toString k)).length ≤ 100 := itx_len hb
      have hn : n.length ≤ 5000 := ok.1.1
      walk_at "goi"
      exact QC.qs q (by walk_at "txt")
    | _ => cases hk
theorem ok_There_operands (T : Top K mg A) : C8.Met P w K mg base 1 (A .there) "operands" (spOper A .there) [] := by
  refine met_of T.m_There_operands sc_There_operands (fun vs H Q E h => ?_) (fun f cdv AA outer s H vs Q E hr h => ?_)
  · obtain ⟨o, r, rfl, _⟩ := h
    rfl
  · obtain ⟨o, r, rfl, hk, ho, q⟩ := h
    refine ⟨_, (pss_one (ps_ret (pe_lst pa_nil))), ?_⟩
    try dsimp only [cxOf]
    cases r with
    | there n k =>
      obtain ⟨dx, h1⟩ := ho
      walk_at "goi"
      refine ⟨by rw [PySem.sizeLine_eq]; simp, fun l hl => ?_⟩
      exact q l [] hl .nil
    | _ => cases hk
theorem ok_There_eq (T : Top K mg A) : C8.Met P w K mg base 1 (A .there) "__eq__" (spEq A .there) [] := by
  refine met_of T.m_There_eq sc_There_eq (fun vs H Q E h => ?_) (fun f cdv AA outer s H vs Q E hr h => ?_)
  · obtain ⟨o, r, y, rfl, _⟩ := h
    rfl
  · obtain ⟨o, r, y, rfl, hk, ho, ok, h⟩ := h
    refine ⟨_, (pss_one (ps_ret (pe_and (pe_callB call_isi (by rfl) T.z_isinstance (by decide +kernel) (pa_cons (pv 1) (pa_cons (pe_glob (v := .ref (A .there)) (by rfl) T.g_there rfl) pa_nil))) (pe_and (pe_cmpR op_eq (pe_fld (pv 0) rfl) (pe_fld (pv 1) rfl) (nomark _)) (pe_one (pe_cmpR op_eq (pe_fld (pv 0) rfl) (pe_fld (pv 1) rfl) (nomark _))))))), ?_⟩
    try dsimp only [cxOf]
    cases r with
    | there n k =>
      obtain ⟨dx, h1⟩ := ho
      walk_at "goi"
      rcases h with ⟨o2, r2, rfl, ho2, ok2, q⟩ | ⟨z, rfl, q⟩
      · refine QC.isiO (ty_obj T ho2) (T.kit _ _) ?_
        walk_at "goi"
        refine itD (fun e => ?_) (fun e => ?_)
        · cases r2 with
          | there n' k' =>
            obtain ⟨dy, g1⟩ := ho2
            walk_at "goi"
            walk_at "goi"
            refine itD (fun e0 => ?_) (fun e0 => ?_)
            rotate_left
            · exact QC.qb q (decide_eq_false (by intro e9; apply e0; injections <;> simp_all))
            injection e0 with e0
            subst e0
            walk_at "goi"
            walk_at "goi"
            exact QC.qb q (by simp)
          | _ => cases e
        · exact QC.qb q (decide_eq_false (by rintro rfl; exact e rfl))
      · refine QC.isiO (.base (.str z)) (T.kitS _) ?_
        walk_at "goi"
        exact q
    | _ => cases hk
theorem ok_Call_text (T : Top K mg A) : C8.Met P w K mg base 2 (A .call) "text" (spText A .call) [] := by
  have c_value_text : C8.Cal P w K mg base 1 "value_text" spVT [] := ok_value_text T
  refine met_of T.m_Call_text sc_Call_text (fun vs H Q E h => ?_) (fun f cdv AA outer s H vs Q E hr h => ?_)
  · obtain ⟨o, r, rfl, _⟩ := h
    rfl
  · obtain ⟨o, r, rfl, hk, ho, ok, q⟩ := h
    refine ⟨_, (pss_cons (ps_set (i := 1) sc_Call_text.nd rfl (Or.inl rfl) (QC.pe_join (PJ.cons pe_str (PJ.cons (pe_fmt (pe_fld (pv 0) rfl)) (PJ.cons pe_str (PJ.cons (pe_fmt (C8.pe_c c_value_text hr (by decide) (by rfl) (pa_cons (pe_fld (pv 0) rfl) pa_nil))) PJ.nil))))))
      (pss_cons (ps_if (pt_cmpR op_ne (pe_fld (pv 0) rfl) pe_int (nomark _))
      (pss_one (ps_set (i := 1) sc_Call_text.nd rfl (Or.inl rfl) (QC.pe_join (PJ.cons (pe_fmt (pv 1)) (PJ.cons pe_str (PJ.cons (pe_fmt (pe_fld (pv 0) rfl)) PJ.nil))))))
      pss_nil)
      (pss_one (ps_ret (pv 1))))), ?_⟩
    try dsimp only [cxOf]
    cases r with
    | call n v k =>
      obtain ⟨dx, t, h1, h2⟩ := ho
      have l_v := vt_len (v := v) ok.2.1
      have hb : Big k := ok.2.2
      have hi : (Str.ofString (toString k)).length ≤ 100 := itx_len hb
      have hn : n.length ≤ 5000 := ok.1.1
      walk_at "goi"
      refine ⟨t, v, rfl, h2, ok.2.1, ?_⟩
      walk_at "goi"
      refine itND (fun e => ?_) (fun e => ?_)
      · walk_at "goi"
        refine QC.qs q ?_
        rw [Rw.text, if_pos (fun e2 => e (by rw [e2]))]
        walk_at "txt"
      · walk_at "goi"
        refine QC.qs q ?_
        injection e with e
        rw [Rw.text, if_neg (fun e2 => e2 e)]
        walk_at "txt"
    | _ => cases hk
theorem ok_Call_operands (T : Top K mg A) : C8.Met P w K mg base 1 (A .call) "operands" (spOper A .call) [] := by
  refine met_of T.m_Call_operands sc_Call_operands (fun vs H Q E h => ?_) (fun f cdv AA outer s H vs Q E hr h => ?_)
  · obtain ⟨o, r, rfl, _⟩ := h
    rfl
  · obtain ⟨o, r, rfl, hk, ho, q⟩ := h
    refine ⟨_, (pss_one (ps_ret (pe_lst (pa_cons (pe_fld (pv 0) rfl) pa_nil)))), ?_⟩
    try dsimp only [cxOf]
    cases r with
    | call n v k =>
      obtain ⟨dx, t, h1, h2⟩ := ho
      walk_at "goi"
      refine ⟨by rw [PySem.sizeLine_eq]; simp, fun l hl => ?_⟩
      exact q l [t] hl (.cons h2 .nil)
    | _ => cases hk
theorem ok_Call_eq (T : Top K mg A) : C8.Met P w K mg base 1 (A .call) "__eq__" (spEq A .call) [] := by
  refine met_of T.m_Call_eq sc_Call_eq (fun vs H Q E h => ?_) (fun f cdv AA outer s H vs Q E hr h => ?_)
  · obtain ⟨o, r, y, rfl, _⟩ := h
    rfl
  · obtain ⟨o, r, y, rfl, hk, ho, ok, h⟩ := h
    refine ⟨_, (pss_one (ps_ret (pe_and (pe_callB call_isi (by rfl) T.z_isinstance (by decide +kernel) (pa_cons (pv 1) (pa_cons (pe_glob (v := .ref (A .call)) (by rfl) T.g_call rfl) pa_nil))) (pe_and (pe_cmpR op_eq (pe_fld (pv 0) rfl) (pe_fld (pv 1) rfl) (nomark _)) (pe_and (pe_cmpR (op_eqD hr.units) (pe_fld (pv 0) rfl) (pe_fld (pv 1) rfl) (nomark _)) (pe_one (pe_cmpR op_eq (pe_fld (pv 0) rfl) (pe_fld (pv 1) rfl) (nomark _)))))))), ?_⟩
    try dsimp only [cxOf]
    cases r with
    | call n v k =>
      obtain ⟨dx, t, h1, h2⟩ := ho
      walk_at "goi"
      rcases h with ⟨o2, r2, rfl, ho2, ok2, q⟩ | ⟨z, rfl, q⟩
      · refine QC.isiO (ty_obj T ho2) (T.kit _ _) ?_
        walk_at "goi"
        refine itD (fun e => ?_) (fun e => ?_)
        · cases r2 with
          | call n' v' k' =>
            obtain ⟨dy, t', g1, g2⟩ := ho2
            walk_at "goi"
            walk_at "goi"
            refine itD (fun e0 => ?_) (fun e0 => ?_)
            rotate_left
            · exact QC.qb q (decide_eq_false (by intro e9; apply e0; injections <;> simp_all))
            injection e0 with e0
            subst e0
            walk_at "goi"
            refine eqd h2.dp g2.dp (v_shaped ok.2.1) (v_shaped ok2.2.1) ?_
            rw [eqv_v]
            walk_at "goi"
            refine itD (fun e1 => ?_) (fun e1 => ?_)
            rotate_left
            · exact QC.qb q (decide_eq_false (by intro e9; apply e1; injections <;> simp_all))
            subst e1
            walk_at "goi"
            walk_at "goi"
            exact QC.qb q (by simp)
          | _ => cases e
        · exact QC.qb q (decide_eq_false (by rintro rfl; exact e rfl))
      · refine QC.isiO (.base (.str z)) (T.kitS _) ?_
        walk_at "goi"
        exact q
    | _ => cases hk
theorem ok_End_text (T : Top K mg A) : C8.Met P w K mg base 2 (A .fin) "text" (spText A .fin) [] := by
  have c_value_text : C8.Cal P w K mg base 1 "value_text" spVT [] := ok_value_text T
  refine met_of T.m_End_text sc_End_text (fun vs H Q E h => ?_) (fun f cdv AA outer s H vs Q E hr h => ?_)
  · obtain ⟨o, r, rfl, _⟩ := h
    rfl
  · obtain ⟨o, r, rfl, hk, ho, ok, q⟩ := h
    refine ⟨_, (pss_one (ps_ret pe_str)), ?_⟩
    try dsimp only [cxOf]
    cases r with
    | fin  =>
      obtain ⟨dx, h1⟩ := ho
      walk_at "goi"
      exact q
    | _ => cases hk
theorem ok_End_operands (T : Top K mg A) : C8.Met P w K mg base 1 (A .fin) "operands" (spOper A .fin) [] := by
  refine met_of T.m_End_operands sc_End_operands (fun vs H Q E h => ?_) (fun f cdv AA outer s H vs Q E hr h => ?_)
  · obtain ⟨o, r, rfl, _⟩ := h
    rfl
  · obtain ⟨o, r, rfl, hk, ho, q⟩ := h
    refine ⟨_, (pss_one (ps_ret (pe_lst pa_nil))), ?_⟩
    try dsimp only [cxOf]
    cases r with
    | fin  =>
      obtain ⟨dx, h1⟩ := ho
      walk_at "goi"
      refine ⟨by rw [PySem.sizeLine_eq]; simp, fun l hl => ?_⟩
      exact q l [] hl .nil
    | _ => cases hk
theorem ok_End_eq (T : Top K mg A) : C8.Met P w K mg base 1 (A .fin) "__eq__" (spEq A .fin) [] := by
  refine met_of T.m_End_eq sc_End_eq (fun vs H Q E h => ?_) (fun f cdv AA outer s H vs Q E hr h => ?_)
  · obtain ⟨o, r, y, rfl, _⟩ := h
    rfl
  · obtain ⟨o, r, y, rfl, hk, ho, ok, h⟩ := h
    refine ⟨_, (pss_one (ps_ret (pe_callB call_isi (by rfl) T.z_isinstance (by decide +kernel) (pa_cons (pv 1) (pa_cons (pe_glob (v := .ref (A .fin)) (by rfl) T.g_fin rfl) pa_nil))))), ?_⟩
    try dsimp only [cxOf]
    cases r with
    | fin  =>
      obtain ⟨dx, h1⟩ := ho
      walk_at "goi"
      rcases h with ⟨o2, r2, rfl, ho2, ok2, q⟩ | ⟨z, rfl, q⟩
      · refine QC.isiO (ty_obj T ho2) (T.kit _ _) ?_
        walk_at "goi"
        cases r2 with
        | fin => exact q
        | _ => exact q
      · refine QC.isiO (.base (.str z)) (T.kitS _) ?_
        walk_at "goi"
        exact q
    | _ => cases hk
theorem c_text (T : Top K mg A) : ∀ k, C8.Met P w K mg base 2 (A k) "text" (spText A k) []
  | .tell => ok_Tell_text T
  | .put => ok_Put_text T
  | .same => ok_Same_text T
  | .there => ok_There_text T
  | .call => ok_Call_text T
  | .fin => ok_End_text T
theorem c_operands (T : Top K mg A) : ∀ k, C8.Met P w K mg base 1 (A k) "operands" (spOper A k) []
  | .tell => ok_Tell_operands T
  | .put => ok_Put_operands T
  | .same => ok_Same_operands T
  | .there => ok_There_operands T
  | .call => ok_Call_operands T
  | .fin => ok_End_operands T
theorem c_eq (T : Top K mg A) : ∀ k, C8.Met P w K mg base 1 (A k) "__eq__" (spEq A k) []
  | .tell => ok_Tell_eq T
  | .put => ok_Put_eq T
  | .same => ok_Same_eq T
  | .there => ok_There_eq T
  | .call => ok_Call_eq T
  | .fin => ok_End_eq T
end
section
variable {P : Program} {w : World} {K : PySem.W.Frag} {mg : Str → Option Value} {A : Kd → Addr} {base : Heap}
theorem ok_draw (T : Top K mg A) : C8.Cal P w K mg base 1 "_law_draw" (spDraw K) [] := by
  refine cal_of T.d_draw sc_draw (fun vs H Q E h => ?_) (fun f cdv AA outer s H vs Q E hr h => ?_)
  · obtain ⟨p, a, ns, m, rfl, _⟩ := h
    rfl
  · obtain ⟨p, a, ns, m, rfl, m0, m1, hP, q⟩ := h
    have hS := hP.sq
    obtain ⟨_, i, c, sd, i0, hp⟩ := id hP
    refine ⟨_, (pss_cons (ps_if (pt_cmpR op_lt (pe_ix ix_list (pv 0) pe_int (fun _ _ => rfl)) pe_int (nomark _))
      (pss_cons (ps_set (i := 2) sc_draw.nd rfl (Or.inl rfl) pe_int)
      (pss_cons (ps_if (pt_cmpR op_lt (pe_ix ix_list (pv 0) pe_int (fun _ _ => rfl)) (pe_callB c_len (by rfl) T.z_len (by decide +kernel) (pa_cons (pe_ix ix_list (pv 0) pe_int (fun _ _ => rfl)) pa_nil)) (nomark _))
      (pss_one (ps_set (i := 2) sc_draw.nd rfl (Or.inl rfl) (pe_ix ix_list (pe_ix ix_list (pv 0) pe_int (fun _ _ => rfl)) (pe_ix ix_list (pv 0) pe_int (fun _ _ => rfl)) (fun _ _ => rfl))))
      pss_nil)
      (pss_cons (ps_asg (pe_op op_add (pe_ix ix_list (pv 0) pe_int (fun _ _ => rfl)) pe_int) (pg_sub (pv 0) pe_int set_list))
      (pss_cons (ps_if (pt_cmpR op_lt (pv 2) (pe_op op_pow pe_int pe_int) (nomark _))
      (pss_cons (ps_asg (pe_op op_mod (pe_callTy c_int (by rfl) T.z_int (by decide +kernel) (pa_cons (pe_op op_add (pe_op op_add (pe_op op_add (pe_op op_mul (pe_ix ix_list (pv 0) pe_int (fun _ _ => rfl)) pe_int) (pe_op op_mul (pv 2) pe_int)) (pe_op op_mul (pe_ix ix_list (pv 0) pe_int (fun _ _ => rfl)) pe_int)) pe_int) pa_nil)) pe_int) (pg_sub (pv 0) pe_int set_list))
      (pss_one (ps_ret (pe_op op_mod (pe_callTy c_int (by rfl) T.z_int (by decide +kernel) (pa_cons (pe_op op_fdivW (pe_ix ix_list (pv 0) pe_int (fun _ _ => rfl)) pe_int) pa_nil)) (pv 1)))))
      pss_nil)
      (pss_one (ps_asg (pe_callTy c_int (by rfl) T.z_int (by decide +kernel) (pa_cons (pv 2) pa_nil)) (pg_sub (pv 0) pe_int set_list)))))))
      pss_nil)
      (pss_cons (ps_set (i := 3) sc_draw.nd rfl (Or.inl rfl) (pe_op op_mod (pe_callTy c_int (by rfl) T.z_int (by decide +kernel) (pa_cons (pe_ix ix_list (pv 0) pe_int (fun _ _ => rfl)) pa_nil)) (pv 1)))
      (pss_cons (ps_asg (pe_op op_fdivW (pe_callTy c_int (by rfl) T.z_int (by decide +kernel) (pa_cons (pe_ix ix_list (pv 0) pe_int (fun _ _ => rfl)) pa_nil)) (pv 1)) (pg_sub (pv 0) pe_int set_list))
      (pss_one (ps_ret (pv 3)))))), ?_⟩
    try dsimp only [cxOf]
    have hm64 : m.natAbs < 2 ^ 64 := by omega
    refine seqR (P := fun σ H1 => ∃ (x2 : Option V) (c1 i1 s1 : Int), σ = [some (.ref p), some (.int m), x2, none] ∧ 0 ≤ i1 ∧ Fr p H H1 ∧ H1 p = some (.lst [.ref a, .int i1, .int c1, .int s1])) ?_ (fun U rest => ?_)
    · rintro σ H1 ⟨x2, c1, i1, s1, rfl, hi1, fr, hp1⟩
      walk_at "go"
      refine rI' (wide_div m0 hm64 (by decide) (by decide)) ?_
      walk_at "go"
      refine q _ _ (Int.emod_nonneg _ (by omega)) (Int.emod_lt_of_pos _ m0) fr.upd (hP.fr fr.upd hi1 upd_same)
    · walk_at "go"
      refine itD (fun hc => ?_) (fun hc => ?_)
      · walk_at "go"
        -- the cell
        refine seqR (P := fun σ H1 => ∃ x : Int, σ = [some (.ref p), some (.int m), some (.int x), none] ∧ H1 = H) ?_ (fun U2 rest2 => ?_)
        · rintro σ H1 ⟨x, rfl, rfl⟩
          walk_at "go"
          refine seqI ?_
          walk_at "go"
          refine itD (fun hx => ?_) (fun hx => ?_)
          · walk_at "go"
            refine rI' (wide_div (b := 4) (by decide) (by decide) (by decide) (by decide)) ?_
            walk_at "go"
            refine q _ _ (Int.emod_nonneg _ (by omega)) (Int.emod_lt_of_pos _ m0) (Fr.refl p _).upd.upd (hP.fr (i := i + 1) (Fr.refl p _).upd.upd (by omega) upd_same)
          · walk_at "go"
            exact rest _ _ ⟨_, _, i + 1, _, rfl, by omega, (Fr.refl p _).upd.upd, upd_same⟩
        · walk_at "go"
          refine itD (fun hi => ?_) (fun hi => ?_)
          · have hi2 : i.toNat < ns.length := by rw [List.length_map] at hi; omega
            have hat : atI (ns.map V.int) i = some (.int ns[i.toNat]) := at_of (j := i.toNat) (by omega) (by rw [List.getElem?_map, List.getElem?_eq_getElem hi2]; rfl)
            walk_at "go"
            exact rest2 _ _ ⟨_, rfl, rfl⟩
          · walk_at "go"
            exact rest2 _ _ ⟨_, rfl, rfl⟩
      · walk_at "go"
        exact rest _ _ ⟨_, _, i, _, rfl, i0, Fr.refl p H, hp⟩
end
section
variable {P : Program} {w : World} {K : PySem.W.Frag} {mg : Str → Option Value} {A : Kd → Addr} {base : Heap}
theorem ok_number (T : Top K mg A) : C8.Cal P w K mg base 2 "_law_number" (spNumber K) [] := by
  have c_draw : C8.Cal P w K mg base 1 "_law_draw" (spDraw K) [] := ok_draw T
  refine cal_of T.d_number sc_number (fun vs H Q E h => ?_) (fun f cdv AA outer s H vs Q E hr h => ?_)
  · obtain ⟨p, a, ns, rfl, _⟩ := h
    rfl
  · obtain ⟨p, a, ns, rfl, hP, q⟩ := h
    refine ⟨_, (pss_cons (ps_set (i := 1) sc_number.nd rfl (Or.inl rfl) (C8.pe_c c_draw hr (by decide) (by rfl) (pa_cons (pv 0) (pa_cons pe_int pa_nil))))
      (pss_cons (ps_if (pt_cmpR op_eq (pv 1) pe_int (nomark _))
      (pss_one (ps_ret (pe_op op_sub (C8.pe_c c_draw hr (by decide) (by rfl) (pa_cons (pv 0) (pa_cons pe_int pa_nil))) pe_int)))
      pss_nil)
      (pss_cons (ps_if (pt_cmpR op_eq (pv 1) pe_int (nomark _))
      (pss_one (ps_ret (pe_op op_sub pe_int (C8.pe_c c_draw hr (by decide) (by rfl) (pa_cons (pv 0) (pa_cons pe_int pa_nil))))))
      pss_nil)
      (pss_cons (ps_if (pt_cmpR op_eq (pv 1) pe_int (nomark _))
      (pss_one (ps_ret (pe_op op_sub (C8.pe_c c_draw hr (by decide) (by rfl) (pa_cons (pv 0) (pa_cons pe_int pa_nil))) pe_int)))
      pss_nil)
      (pss_one (ps_ret (C8.pe_c c_draw hr (by decide) (by rfl) (pa_cons (pv 0) (pa_cons pe_int pa_nil))))))))), ?_⟩
    try dsimp only [cxOf]
    walk_at "go"
    refine ⟨p, a, ns, _, rfl, by decide, by decide, hP, fun k H1 _ _ fr1 hP1 => ?_⟩
    walk_at "goi"
    refine itD (fun _ => ?_) (fun _ => ?_)
    · walk_at "goi"
      refine ⟨p, a, ns, _, rfl, by decide, by decide, hP1, fun x H2 x0 x1 fr2 hP2 => ?_⟩
      walk_at "goi"
      exact q _ _ (by omega) (by omega) (fr1.trans fr2) hP2
    · walk_at "goi"
      refine itD (fun _ => ?_) (fun _ => ?_)
      · walk_at "goi"
        refine ⟨p, a, ns, _, rfl, by decide, by decide, hP1, fun x H2 x0 x1 fr2 hP2 => ?_⟩
        walk_at "goi"
        exact q _ _ (by omega) (by omega) (fr1.trans fr2) hP2
      · walk_at "goi"
        refine itD (fun _ => ?_) (fun _ => ?_)
        · walk_at "goi"
          refine ⟨p, a, ns, _, rfl, by decide, by decide, hP1, fun x H2 x0 x1 fr2 hP2 => ?_⟩
          walk_at "goi"
          exact q _ _ (by omega) (by omega) (fr1.trans fr2) hP2
        · walk_at "goi"
          refine ⟨p, a, ns, _, rfl, by decide, by decide, hP1, fun x H2 x0 x1 fr2 hP2 => ?_⟩
          exact q _ _ (by omega) (by omega) (fr1.trans fr2) hP2
theorem ch {z : Str} {i : Int} (h : PyData.strOk z = true) (h0 : 0 ≤ i) (h1 : i < z.length) : ∃ c, atI z.cps.toList i = some c ∧ PyData.strOk ⟨#[c]⟩ = true := by
  have hl : i.toNat < z.cps.toList.length := by
    have : z.length = z.cps.size := rfl
    rw [Array.length_toList]
    omega
  have hat : atI z.cps.toList i = some z.cps.toList[i.toNat] := by
    unfold atI ixN
    rw [if_pos h0, if_pos (by omega)]
    exact List.getElem?_eq_getElem hl
  refine ⟨z.cps.toList[i.toNat], hat, ?_⟩
  have h2 : ∀ x ∈ z.cps, x < 0x110000 := by
    intro x hx
    have := Array.all_eq_true_iff_forall_mem.mp h x hx
    simpa using this
  have h3 := h2 _ (Array.mem_toList_iff.mp (List.getElem_mem hl))
  simp [PyData.strOk]
  simpa using h3
theorem sk_app {a b : Str} (h1 : PyData.strOk a = true) (h2 : PyData.strOk b = true) : PyData.strOk (a ++ b) = true := by
  unfold PyData.strOk at h1 h2 ⊢
  rw [Str.cps_append, Array.all_append, h1, h2]
  rfl
theorem sk_dig {k : Int} (h0 : 0 ≤ k) (h1 : k < 10) : PyData.strOk (Str.ofString (toString k)) = true ∧ (Str.ofString (toString k)).length ≤ 100 := by
  refine ⟨?_, itx_len (i := k) (by unfold Big; omega)⟩
  have : k = 0 ∨ k = 1 ∨ k = 2 ∨ k = 3 ∨ k = 4 ∨ k = 5 ∨ k = 6 ∨ k = 7 ∨ k = 8 ∨ k = 9 := by omega
  rcases this with rfl | rfl | rfl | rfl | rfl | rfl | rfl | rfl | rfl | rfl <;> decide +kernel
def spName (K : PySem.W.Frag) : Sp := fun vs H Q _ => ∃ (p a : Addr) (ns : List Int) (k : Int), vs = [.ref p, .int k] ∧ 0 ≤ k ∧ k < 10 ∧ Pool K H p a ns ∧ ∀ (n : Str) (H' : Hp), Nm n → Fr p H H' → Pool K H' p a ns → Q (.str n) H'
theorem ok_name (T : Top K mg A) : C8.Cal P w K mg base 2 "_law_name" (spName K) [] := by
  have c_draw : C8.Cal P w K mg base 1 "_law_draw" (spDraw K) [] := ok_draw T
  refine cal_of T.d_name sc_name (fun vs H Q E h => ?_) (fun f cdv AA outer s H vs Q E hr h => ?_)
  · obtain ⟨p, a, ns, k, rfl, _⟩ := h
    rfl
  · obtain ⟨p, a, ns, k, rfl, k0, k1, hP, q⟩ := h
    have hb : Big k := by unfold Big; omega
    have hd := sk_dig k0 k1
    have hd2 := hd.2
    have s1 : PyData.strOk (Str.ofString "abcdefghijklmnopqrstuvwxyz") = true := by decide +kernel
    have s2 : PyData.strOk (Str.ofString "abcdefghijklmnopqrstuvwxyz" ++ Str.ofString "0123456789") = true := by decide +kernel
    refine ⟨_, (pss_cons (ps_set (i := 2) sc_name.nd rfl (Or.inl rfl) pe_str)
      (pss_cons (ps_set (i := 3) sc_name.nd rfl (Or.inl rfl) (pe_ix ix_str (pv 2) (C8.pe_c c_draw hr (by decide) (by rfl) (pa_cons (pv 0) (pa_cons pe_int pa_nil))) (fun _ _ => rfl)))
      (pss_cons (ps_for PassesOwn.never rfl (pi_range1 (by rfl) T.z_range (pa_cons (C8.pe_c c_draw hr (by decide) (by rfl) (pa_cons (pv 0) (pa_cons pe_int pa_nil))) pa_nil)) (pg_name (i := 4) sc_name.nd rfl (Or.inl rfl))
      (pss_one (ps_set (i := 3) sc_name.nd rfl (Or.inl rfl) (pe_op o_adds (pv 3) (pe_ix ix_str (pe_op o_adds (pv 2) pe_str) (C8.pe_c c_draw hr (by decide) (by rfl) (pa_cons (pv 0) (pa_cons pe_int pa_nil))) (fun _ _ => rfl))))))
      (pss_one (ps_ret (pe_op o_adds (pv 3) (pe_callTy QC.c_strI (by rfl) T.z_str (by decide +kernel) (pa_cons (pv 1) pa_nil)))))))), ?_⟩
    try dsimp only [cxOf]
    walk_at "go"
    refine ⟨p, a, ns, _, rfl, by decide, by decide, hP, fun x H1 x0 x1 fr1 hP1 => ?_⟩
    obtain ⟨c, hc, hs⟩ := ch s1 x0 (by rw [ll13]; exact x1)
    refine QC.ixs (by walk_at "len") hc ?_
    walk_at "go"
    refine ⟨p, a, ns, _, rfl, by decide, by decide, hP1, fun m H2 m0 m1 fr2 hP2 => ?_⟩
    walk_at "go"
    refine k_rng1 (Pv := fun i σ H' => ∃ (n : Str) (x : Option V), σ = [some (.ref p), some (.int k), some (.str (Str.ofString "abcdefghijklmnopqrstuvwxyz")), some (.str n), x] ∧ n.length ≤ i + 1 ∧ PyData.strOk n = true ∧ Fr p H H' ∧ Pool K H' p a ns) (by omega) (by omega) ?_ ?_ ?_
    · exact ⟨_, _, rfl, by simp [Str.length], hs, fr1.trans fr2, hP2⟩
    · rintro i σ H3 hi ⟨n, x, rfl, hn, sn, fr3, hP3⟩ N B hN hB
      walk_at "go"
      refine ⟨p, a, ns, _, rfl, by decide, by decide, hP3, fun y H4 y0 y1 fr4 hP4 => ?_⟩
      obtain ⟨c, hc, hs⟩ := ch s2 y0 (by rw [Str.length_append, ll13, ll14]; exact y1)
      refine QC.ixs (by walk_at "len") hc ?_
      have lc : (⟨#[c]⟩ : Str).length = 1 := rfl
      refine QC.adds (by rw [lc, PySem.sizeLine_eq]; omega) ?_
      walk_at "go"
      exact hN _ _ ⟨_, _, rfl, by rw [Str.length_append, lc]; omega, sk_app sn hs, fr3.trans fr4, hP4⟩
    · rintro σ H3 ⟨n, x, rfl, hn, sn, fr3, hP3⟩
      have hn2 : n.length ≤ 100 := by omega
      walk_at "go"
      exact q _ _ ⟨by rw [Str.length_append]; omega, sk_app sn hd.1⟩ fr3 hP3
end
section
variable {P : Program} {w : World} {K : PySem.W.Frag} {mg : Str → Option Value} {A : Kd → Addr} {base : Heap}
theorem sz4 {xs : List V} (h : xs.length ≤ 10) : xs.length ≤ sizeLine := by rw [PySem.sizeLine_eq]; omega
/-- a new object behind draws -/
theorem new_fr {H H1 : Hp} {p a t : Addr} {ns : List Int} {o : HO} (fr : Fr p H H1) (hP : Pool K H1 p a ns) (ht : H1 t = none) : Fr p H (upd H1 t o) ∧ Pool K (upd H1 t o) p a ns ∧ H t = none ∧ Fr p H1 (upd H1 t o) :=
  ⟨fr.trans (Fr.of (same_new ht)), pool_new hP ht, fr.nne (pool_ne hP ht) ht, Fr.of (same_new ht)⟩
def spAny (K : PySem.W.Frag) : Sp := fun vs H Q _ => ∃ (p a : Addr) (ns : List Int), vs = [.ref p] ∧ Pool K H p a ns ∧ ∀ (t : Addr) (v : Vl) (H' : Hp), VAt (QC.nw H H') t v → v.ok → Fr p H H' → Pool K H' p a ns → Q (.ref t) H'
theorem ok_any_value (T : Top K mg A) : C8.Cal P w K mg base 3 "_law_any_value" (spAny K) [] := by
  have c_draw : C8.Cal P w K mg base 1 "_law_draw" (spDraw K) [] := ok_draw T
  have c_number : C8.Cal P w K mg base 2 "_law_number" (spNumber K) [] := ok_number T
  have c_name : C8.Cal P w K mg base 2 "_law_name" (spName K) [] := ok_name T
  refine cal_of T.d_any_value sc_any_value (fun vs H Q E h => ?_) (fun f cdv AA outer s H vs Q E hr h => ?_)
  · obtain ⟨p, a, ns, rfl, _⟩ := h
    rfl
  · obtain ⟨p, a, ns, rfl, hP, q⟩ := h
    refine ⟨_, (pss_cons (ps_set (i := 1) sc_any_value.nd rfl (Or.inl rfl) (C8.pe_c c_draw hr (by decide) (by rfl) (pa_cons (pv 0) (pa_cons pe_int pa_nil))))
      (pss_cons (ps_if (pt_cmpR op_eq (pv 1) pe_int (nomark _))
      (pss_one (ps_ret (pe_tup (pa_cons pe_str (pa_cons (C8.pe_c c_number hr (by decide) (by rfl) (pa_cons (pv 0) pa_nil)) pa_nil)))))
      pss_nil)
      (pss_cons (ps_if (pt_cmpR op_eq (pv 1) pe_int (nomark _))
      (pss_one (ps_ret (pe_tup (pa_cons pe_str pa_nil))))
      pss_nil)
      (pss_cons (ps_if (pt_cmpR op_eq (pv 1) pe_int (nomark _))
      (pss_one (ps_ret (pe_tup (pa_cons pe_str (pa_cons (C8.pe_c c_name hr (by decide) (by rfl) (pa_cons (pv 0) (pa_cons (C8.pe_c c_draw hr (by decide) (by rfl) (pa_cons (pv 0) (pa_cons pe_int pa_nil))) pa_nil))) (pa_cons (C8.pe_c c_draw hr (by decide) (by rfl) (pa_cons (pv 0) (pa_cons pe_int pa_nil))) pa_nil))))))
      pss_nil)
      (pss_cons (ps_if (pt_cmpR op_eq (pv 1) pe_int (nomark _))
      (pss_one (ps_ret (pe_tup (pa_cons pe_str (pa_cons (C8.pe_c c_name hr (by decide) (by rfl) (pa_cons (pv 0) (pa_cons (C8.pe_c c_draw hr (by decide) (by rfl) (pa_cons (pv 0) (pa_cons pe_int pa_nil))) pa_nil))) pa_nil)))))
      pss_nil)
      (pss_one (ps_ret (pe_tup (pa_cons pe_str (pa_cons (C8.pe_c c_name hr (by decide) (by rfl) (pa_cons (pv 0) (pa_cons (C8.pe_c c_draw hr (by decide) (by rfl) (pa_cons (pv 0) (pa_cons pe_int pa_nil))) pa_nil))) pa_nil)))))))))), ?_⟩
    try dsimp only [cxOf]
    have fin : ∀ (H1 : Hp) (t : Addr) (v : Vl), Fr p H H1 → Pool K H1 p a ns → v.ok → H1 t = none → Q (.ref t) (upd H1 t (.tup v.items)) := fun H1 t v fr hP1 ok ht => by
      obtain ⟨f1, f2, f3, _⟩ := new_fr (o := .tup v.items) fr hP1 ht
      exact q t v _ (QC.nw_mk f3 upd_same) ok f1 f2
    walk_at "go"
    refine ⟨p, a, ns, _, rfl, by decide, by decide, hP, fun k H1 _ _ fr1 hP1 => ?_⟩
    walk_at "goi"
    refine itD (fun _ => ?_) (fun _ => ?_)
    · walk_at "goi"
      refine ⟨p, a, ns, rfl, hP1, fun x H2 x0 x1 fr2 hP2 => ?_⟩
      walk_at "goi"
      exact ⟨sz4 (by simp), fun t ht => fin H2 t (.num x) (fr1.trans fr2) hP2 (by show Big x; unfold Big; omega) ht⟩
    · walk_at "goi"
      refine itD (fun _ => ?_) (fun _ => ?_)
      · walk_at "goi"
        exact ⟨sz4 (by simp), fun t ht => fin H1 t .arg fr1 hP1 trivial ht⟩
      · walk_at "goi"
        refine itD (fun _ => ?_) (fun _ => ?_)
        · walk_at "goi"
          refine ⟨p, a, ns, _, rfl, by decide, by decide, hP1, fun d H2 d0 d1 fr2 hP2 => ?_⟩
          walk_at "goi"
          refine ⟨p, a, ns, _, rfl, d0, d1, hP2, fun n H3 hn fr3 hP3 => ?_⟩
          walk_at "goi"
          refine ⟨p, a, ns, _, rfl, by decide, by decide, hP3, fun i H4 i0 i1 fr4 hP4 => ?_⟩
          walk_at "goi"
          exact ⟨sz4 (by simp), fun t ht => fin H4 t (.place n i) (((fr1.trans fr2).trans fr3).trans fr4) hP4 ⟨hn, by unfold Big; omega⟩ ht⟩
        · walk_at "goi"
          refine itD (fun _ => ?_) (fun _ => ?_)
          · walk_at "goi"
            refine ⟨p, a, ns, _, rfl, by decide, by decide, hP1, fun d H2 d0 d1 fr2 hP2 => ?_⟩
            walk_at "goi"
            refine ⟨p, a, ns, _, rfl, d0, d1, hP2, fun n H3 hn fr3 hP3 => ?_⟩
            walk_at "goi"
            exact ⟨sz4 (by simp), fun t ht => fin H3 t (.own n) ((fr1.trans fr2).trans fr3) hP3 hn ht⟩
          · walk_at "goi"
            refine ⟨p, a, ns, _, rfl, by decide, by decide, hP1, fun d H2 d0 d1 fr2 hP2 => ?_⟩
            walk_at "goi"
            refine ⟨p, a, ns, _, rfl, d0, d1, hP2, fun n H3 hn fr3 hP3 => ?_⟩
            walk_at "goi"
            exact ⟨sz4 (by simp), fun t ht => fin H3 t (.named n) ((fr1.trans fr2).trans fr3) hP3 hn ht⟩
def spRow (K : PySem.W.Frag) : Sp := fun vs H Q _ => ∃ (p a : Addr) (ns : List Int), vs = [.ref p] ∧ Pool K H p a ns ∧ ∀ (l : Addr) (r : Rw) (H' : Hp), RowAt (QC.nw H H') l r → r.ok → Fr p H H' → Pool K H' p a ns → Q (.ref l) H'
theorem Pool.at {H : Hp} {p a : Addr} {ns : List Int} (h : Pool K H p a ns) : ∃ o, H p = some o := by
  obtain ⟨_, i, c, s, _, hp⟩ := h
  exact ⟨_, hp⟩
theorem ok_drawn_row (T : Top K mg A) : C8.Cal P w K mg base 4 "_law_drawn_row" (spRow K) [] := by
  have c_draw : C8.Cal P w K mg base 1 "_law_draw" (spDraw K) [] := ok_draw T
  have c_number : C8.Cal P w K mg base 2 "_law_number" (spNumber K) [] := ok_number T
  have c_name : C8.Cal P w K mg base 2 "_law_name" (spName K) [] := ok_name T
  have c_any_value : C8.Cal P w K mg base 3 "_law_any_value" (spAny K) [] := ok_any_value T
  refine cal_of T.d_drawn_row sc_drawn_row (fun vs H Q E h => ?_) (fun f cdv AA outer s H vs Q E hr h => ?_)
  · obtain ⟨p, a, ns, rfl, _⟩ := h
    rfl
  · obtain ⟨p, a, ns, rfl, hP, q⟩ := h
    obtain ⟨op, hp⟩ := Pool.at hP
    refine ⟨_, (pss_cons (ps_set (i := 1) sc_drawn_row.nd rfl (Or.inl rfl) (C8.pe_c c_draw hr (by decide) (by rfl) (pa_cons (pv 0) (pa_cons pe_int pa_nil))))
      (pss_cons (ps_if (pt_cmpR op_eq (pv 1) pe_int (nomark _))
      (pss_one (ps_ret (pe_lst (pa_cons pe_str (pa_cons (C8.pe_c c_any_value hr (by decide) (by rfl) (pa_cons (pv 0) pa_nil)) pa_nil)))))
      pss_nil)
      (pss_cons (ps_if (pt_cmpR op_eq (pv 1) pe_int (nomark _))
      (pss_cons (ps_set (i := 2) sc_drawn_row.nd rfl (Or.inl rfl) (C8.pe_c c_name hr (by decide) (by rfl) (pa_cons (pv 0) (pa_cons (C8.pe_c c_draw hr (by decide) (by rfl) (pa_cons (pv 0) (pa_cons pe_int pa_nil))) pa_nil))))
      (pss_cons (ps_set (i := 3) sc_drawn_row.nd rfl (Or.inl rfl) (pe_ifExp (pt_cmpR op_eq (C8.pe_c c_draw hr (by decide) (by rfl) (pa_cons (pv 0) (pa_cons pe_int pa_nil))) pe_int (nomark _)) (pe_tup (pa_cons pe_str (pa_cons (pv 2) pa_nil))) (pe_tup (pa_cons pe_str (pa_cons (pv 2) (pa_cons (C8.pe_c c_draw hr (by decide) (by rfl) (pa_cons (pv 0) (pa_cons pe_int pa_nil))) pa_nil))))))
      (pss_one (ps_ret (pe_lst (pa_cons pe_str (pa_cons (pv 3) (pa_cons (C8.pe_c c_any_value hr (by decide) (by rfl) (pa_cons (pv 0) pa_nil)) pa_nil))))))))
      pss_nil)
      (pss_cons (ps_if (pt_cmpR op_eq (pv 1) pe_int (nomark _))
      (pss_one (ps_ret (pe_lst (pa_cons pe_str (pa_cons (C8.pe_c c_any_value hr (by decide) (by rfl) (pa_cons (pv 0) pa_nil)) (pa_cons (C8.pe_c c_any_value hr (by decide) (by rfl) (pa_cons (pv 0) pa_nil)) (pa_cons (pe_callB c_abs (by rfl) T.z_abs (by decide +kernel) (pa_cons (C8.pe_c c_number hr (by decide) (by rfl) (pa_cons (pv 0) pa_nil)) pa_nil)) pa_nil)))))))
      pss_nil)
      (pss_cons (ps_if (pt_cmpR op_eq (pv 1) pe_int (nomark _))
      (pss_one (ps_ret (pe_lst (pa_cons pe_str (pa_cons (C8.pe_c c_name hr (by decide) (by rfl) (pa_cons (pv 0) (pa_cons (C8.pe_c c_draw hr (by decide) (by rfl) (pa_cons (pv 0) (pa_cons pe_int pa_nil))) pa_nil))) (pa_cons (pe_callB c_abs (by rfl) T.z_abs (by decide +kernel) (pa_cons (C8.pe_c c_number hr (by decide) (by rfl) (pa_cons (pv 0) pa_nil)) pa_nil)) pa_nil))))))
      pss_nil)
      (pss_cons (ps_if (pt_cmpR op_eq (pv 1) pe_int (nomark _))
      (pss_one (ps_ret (pe_lst (pa_cons pe_str (pa_cons (C8.pe_c c_name hr (by decide) (by rfl) (pa_cons (pv 0) (pa_cons (C8.pe_c c_draw hr (by decide) (by rfl) (pa_cons (pv 0) (pa_cons pe_int pa_nil))) pa_nil))) (pa_cons (C8.pe_c c_any_value hr (by decide) (by rfl) (pa_cons (pv 0) pa_nil)) (pa_cons (C8.pe_c c_draw hr (by decide) (by rfl) (pa_cons (pv 0) (pa_cons pe_int pa_nil))) pa_nil)))))))
      pss_nil)
      (pss_one (ps_ret (pe_lst (pa_cons pe_str pa_nil)))))))))), ?_⟩
    try dsimp only [cxOf]
    have fin : ∀ (H1 : Hp) (l : Addr) (xs : List V) (r : Rw), Fr p H H1 → Pool K H1 p a ns → r.ok → (∀ G : Hp, Same (QC.nw H H1) G → G l = some (.lst xs) → RowAt G l r) → H1 l = none → Q (.ref l) (upd H1 l (.lst xs)) := fun H1 l xs r fr hP1 ok hG hl => by
      obtain ⟨f1, f2, f3, f4⟩ := new_fr (o := .lst xs) fr hP1 hl
      exact q l r _ (hG _ (QC.nw_fr hp f4) (QC.nw_mk f3 upd_same)) ok f1 f2
    have bg : ∀ x : Int, -1000000000 < x → x < 1000000000 → Big (if x < 0 then -x else x) := fun x h1 h2 => by unfold Big; split <;> omega
    walk_at "go"
    refine ⟨p, a, ns, _, rfl, by decide, by decide, hP, fun k H1 _ _ fr1 hP1 => ?_⟩
    obtain ⟨o1, hp1⟩ := Pool.at hP1
    walk_at "goi"
    refine itD (fun _ => ?_) (fun _ => ?_)
    · walk_at "goi"
      refine ⟨p, a, ns, rfl, hP1, fun t v H2 hv ok fr2 hP2 => ?_⟩
      have hv2 := QC.nw_lt hp1 fr1 _ _ hv
      walk_at "goi"
      exact ⟨sz4 (by simp), fun l hl => fin H2 l _ (.tell v) (fr1.trans fr2) hP2 ok (fun G s hg => ⟨t, hg, s _ _ hv2⟩) hl⟩
    · walk_at "goi"
      refine itD (fun _ => ?_) (fun _ => ?_)
      · walk_at "goi"
        refine ⟨p, a, ns, _, rfl, by decide, by decide, hP1, fun d H2 d0 d1 fr2 hP2 => ?_⟩
        walk_at "goi"
        refine ⟨p, a, ns, _, rfl, d0, d1, hP2, fun n H3 hn fr3 hP3 => ?_⟩
        walk_at "goi"
        refine ⟨p, a, ns, _, rfl, by decide, by decide, hP3, fun e H4 _ _ fr4 hP4 => ?_⟩
        have f14 := ((fr1.trans fr2).trans fr3).trans fr4
        walk_at "goi"
        refine itD (fun _ => ?_) (fun _ => ?_)
        · walk_at "goi"
          refine ⟨sz4 (by simp), fun t ht => ?_⟩
          obtain ⟨f1, f2, f3, f4⟩ := new_fr (o := .tup (Vl.own n).items) f14 hP4 ht
          have ht2 : VAt (QC.nw H (upd H4 t (.tup (Vl.own n).items))) t (.own n) := QC.nw_mk f3 upd_same
          obtain ⟨o5, hp5⟩ := Pool.at f2
          walk_at "goi"
          refine ⟨p, a, ns, rfl, f2, fun u v H6 hv ok fr6 hP6 => ?_⟩
          have hv2 := QC.nw_lt hp5 f1 _ _ hv
          have ht3 := QC.nw_fr hp fr6 _ _ ht2
          walk_at "goi"
          exact ⟨sz4 (by simp), fun l hl => fin H6 l _ (.put (.own n) v) (f1.trans fr6) hP6 ⟨hn, ok⟩ (fun G s hg => ⟨t, u, hg, s _ _ ht3, s _ _ hv2⟩) hl⟩
        · walk_at "goi"
          refine ⟨p, a, ns, _, rfl, by decide, by decide, hP4, fun i H5 i0 i1 fr5 hP5 => ?_⟩
          walk_at "goi"
          refine ⟨sz4 (by simp), fun t ht => ?_⟩
          obtain ⟨f1, f2, f3, f4⟩ := new_fr (o := .tup (Vl.place n i).items) (f14.trans fr5) hP5 ht
          have ht2 : VAt (QC.nw H (upd H5 t (.tup (Vl.place n i).items))) t (.place n i) := QC.nw_mk f3 upd_same
          obtain ⟨o5, hp5⟩ := Pool.at f2
          walk_at "goi"
          refine ⟨p, a, ns, rfl, f2, fun u v H6 hv ok fr6 hP6 => ?_⟩
          have hv2 := QC.nw_lt hp5 f1 _ _ hv
          have ht3 := QC.nw_fr hp fr6 _ _ ht2
          walk_at "goi"
          exact ⟨sz4 (by simp), fun l hl => fin H6 l _ (.put (.place n i) v) (f1.trans fr6) hP6 ⟨⟨hn, by unfold Big; omega⟩, ok⟩ (fun G s hg => ⟨t, u, hg, s _ _ ht3, s _ _ hv2⟩) hl⟩
      · walk_at "goi"
        refine itD (fun _ => ?_) (fun _ => ?_)
        · walk_at "goi"
          refine ⟨p, a, ns, rfl, hP1, fun t v H2 hv ok fr2 hP2 => ?_⟩
          have hv2 := QC.nw_lt hp1 fr1 _ _ hv
          obtain ⟨o2, hp2⟩ := Pool.at hP2
          walk_at "goi"
          refine ⟨p, a, ns, rfl, hP2, fun u v' H3 hv' ok' fr3 hP3 => ?_⟩
          have hv3 := QC.nw_fr hp fr3 _ _ hv2
          have hw3 := QC.nw_lt hp2 (fr1.trans fr2) _ _ hv'
          walk_at "goi"
          refine ⟨p, a, ns, rfl, hP3, fun x H4 x0 x1 fr4 hP4 => ?_⟩
          have hv4 := QC.nw_fr hp fr4 _ _ hv3
          have hw4 := QC.nw_fr hp fr4 _ _ hw3
          walk_at "goi"
          exact ⟨sz4 (by simp), fun l hl => fin H4 l _ (.same v v' _) (((fr1.trans fr2).trans fr3).trans fr4) hP4 ⟨ok, ok', bg x x0 x1⟩ (fun G s hg => ⟨t, u, hg, s _ _ hv4, s _ _ hw4⟩) hl⟩
        · walk_at "goi"
          refine itD (fun _ => ?_) (fun _ => ?_)
          · walk_at "goi"
            refine ⟨p, a, ns, _, rfl, by decide, by decide, hP1, fun d H2 d0 d1 fr2 hP2 => ?_⟩
            walk_at "goi"
            refine ⟨p, a, ns, _, rfl, d0, d1, hP2, fun n H3 hn fr3 hP3 => ?_⟩
            walk_at "goi"
            refine ⟨p, a, ns, rfl, hP3, fun x H4 x0 x1 fr4 hP4 => ?_⟩
            walk_at "goi"
            exact ⟨sz4 (by simp), fun l hl => fin H4 l _ (.there n _) (((fr1.trans fr2).trans fr3).trans fr4) hP4 ⟨hn, bg x x0 x1⟩ (fun G s hg => hg) hl⟩
          · walk_at "goi"
            refine itD (fun _ => ?_) (fun _ => ?_)
            · walk_at "goi"
              refine ⟨p, a, ns, _, rfl, by decide, by decide, hP1, fun d H2 d0 d1 fr2 hP2 => ?_⟩
              walk_at "goi"
              refine ⟨p, a, ns, _, rfl, d0, d1, hP2, fun n H3 hn fr3 hP3 => ?_⟩
              obtain ⟨o3, hp3⟩ := Pool.at hP3
              walk_at "goi"
              refine ⟨p, a, ns, rfl, hP3, fun t v H4 hv ok fr4 hP4 => ?_⟩
              have hv2 := QC.nw_lt hp3 ((fr1.trans fr2).trans fr3) _ _ hv
              walk_at "goi"
              refine ⟨p, a, ns, _, rfl, by decide, by decide, hP4, fun i H5 i0 i1 fr5 hP5 => ?_⟩
              have hv3 := QC.nw_fr hp fr5 _ _ hv2
              walk_at "goi"
              exact ⟨sz4 (by simp), fun l hl => fin H5 l _ (.call n v i) ((((fr1.trans fr2).trans fr3).trans fr4).trans fr5) hP5 ⟨hn, ok, by unfold Big; omega⟩ (fun G s hg => ⟨t, hg, s _ _ hv3⟩) hl⟩
            · walk_at "goi"
              exact ⟨sz4 (by simp), fun l hl => fin H1 l _ .fin fr1 hP1 trivial (fun G s hg => hg) hl⟩
end
section
variable {P : Program} {w : World} {K : PySem.W.Frag} {mg : Str → Option Value} {A : Kd → Addr} {base : Heap}
theorem mk_same {H H' : Hp} {x dx C : Addr} (hx : H x = none) (hd : H dx = none) (hf : ∀ b, b ≠ x → H' b = (upd (upd H dx (.own x)) x (.ins C dx [])) b) : Same H H' := fun b u e => by
  have n1 : b ≠ x := ne_of_none e hx
  have n2 : b ≠ dx := ne_of_none e hd
  rw [hf b n1, upd_ne n1, upd_ne n2]
  exact e
theorem vs_mono {H H' : Hp} (s : Same H H') : ∀ {ts : List Addr} {vs : List Vl}, Paired (VAt H) ts vs → Paired (VAt H') ts vs
  | _, _, .nil => .nil
  | _, _, .cons a b => .cons (s _ _ a) (vs_mono s b)
def spMade (A : Kd → Addr) : Sp := fun vs H Q _ => ∃ (l : Addr) (r : Rw), vs = [.ref l] ∧ RowAt H l r ∧ ∀ (o : Addr) (H' : Hp), H o = none → Same H H' → ObjAt A H' o r → Q (.ref o) H'
theorem ok_made (T : Top K mg A) : C8.Cal P w K mg base 3 "_law_made" (spMade A) [] := by
  have mk_tell1 : C8.Mak P w K mg base 1 "Tell" (A .tell) (spIn (A .tell) ["value"]) [] := mk_tell1 T
  have mk_put2 : C8.Mak P w K mg base 1 "Put" (A .put) (spIn (A .put) ["place", "value"]) [] := mk_put2 T
  have mk_same3 : C8.Mak P w K mg base 1 "Same" (A .same) (spIn (A .same) ["left", "right", "skip"]) [] := mk_same3 T
  have mk_there2 : C8.Mak P w K mg base 1 "There" (A .there) (spIn (A .there) ["name", "skip"]) [] := mk_there2 T
  have mk_call3 : C8.Mak P w K mg base 1 "Call" (A .call) (spIn (A .call) ["name", "value", "tag"]) [] := mk_call3 T
  have mk_call2 : C8.Mak P w K mg base 1 "Call" (A .call) (spIn (A .call) ["name", "value", "tag"]) [.int 0] := mk_call2 T
  refine cal_of T.d_made sc_made (fun vs H Q E h => ?_) (fun f cdv AA outer s H vs Q E hr h => ?_)
  · obtain ⟨l, r, rfl, _⟩ := h
    rfl
  · obtain ⟨l, r, rfl, hr0, q⟩ := h
    refine ⟨_, (pss_cons (ps_if (pt_cmpR op_eq (pe_ix ix_list (pv 0) pe_int (fun _ _ => rfl)) pe_str (nomark _))
      (pss_one (ps_ret (C8.pe_mk mk_tell1 hr (by decide) (by rfl) (pa_cons (pe_ix ix_list (pv 0) pe_int (fun _ _ => rfl)) pa_nil))))
      pss_nil)
      (pss_cons (ps_if (pt_cmpR op_eq (pe_ix ix_list (pv 0) pe_int (fun _ _ => rfl)) pe_str (nomark _))
      (pss_one (ps_ret (C8.pe_mk mk_put2 hr (by decide) (by rfl) (pa_cons (pe_ix ix_list (pv 0) pe_int (fun _ _ => rfl)) (pa_cons (pe_ix ix_list (pv 0) pe_int (fun _ _ => rfl)) pa_nil)))))
      pss_nil)
      (pss_cons (ps_if (pt_cmpR op_eq (pe_ix ix_list (pv 0) pe_int (fun _ _ => rfl)) pe_str (nomark _))
      (pss_one (ps_ret (C8.pe_mk mk_same3 hr (by decide) (by rfl) (pa_cons (pe_ix ix_list (pv 0) pe_int (fun _ _ => rfl)) (pa_cons (pe_ix ix_list (pv 0) pe_int (fun _ _ => rfl)) (pa_cons (pe_ix ix_list (pv 0) pe_int (fun _ _ => rfl)) pa_nil))))))
      pss_nil)
      (pss_cons (ps_if (pt_cmpR op_eq (pe_ix ix_list (pv 0) pe_int (fun _ _ => rfl)) pe_str (nomark _))
      (pss_one (ps_ret (C8.pe_mk mk_there2 hr (by decide) (by rfl) (pa_cons (pe_ix ix_list (pv 0) pe_int (fun _ _ => rfl)) (pa_cons (pe_ix ix_list (pv 0) pe_int (fun _ _ => rfl)) pa_nil)))))
      pss_nil)
      (pss_cons (ps_if (pt_cmpR op_eq (pe_ix ix_list (pv 0) pe_int (fun _ _ => rfl)) pe_str (nomark _))
      (pss_one (ps_ret (pe_ifExp (pt_cmpR op_ne (pe_ix ix_list (pv 0) pe_int (fun _ _ => rfl)) pe_int (nomark _)) (C8.pe_mk mk_call3 hr (by decide) (by rfl) (pa_cons (pe_ix ix_list (pv 0) pe_int (fun _ _ => rfl)) (pa_cons (pe_ix ix_list (pv 0) pe_int (fun _ _ => rfl)) (pa_cons (pe_ix ix_list (pv 0) pe_int (fun _ _ => rfl)) pa_nil)))) (C8.pe_mk mk_call2 hr (by decide) (by rfl) (pa_cons (pe_ix ix_list (pv 0) pe_int (fun _ _ => rfl)) (pa_cons (pe_ix ix_list (pv 0) pe_int (fun _ _ => rfl)) pa_nil))))))
      pss_nil)
      (pss_one (ps_ret (QC.pe_mk00 T.e_mk T.e_in T.e_kp (by rfl) T.g_fin)))))))), ?_⟩
    try dsimp only [cxOf]
    cases r with
    | tell v =>
      obtain ⟨t, h1, h2⟩ := hr0
      have h1 : H l = some (.lst [.str "tell", .ref t]) := h1
      walk_at "goi"
      intro x dx hx hd hne
      refine ⟨x, dx, _, rfl, rfl, upd_same, fun H2 hf hx2 => ⟨rfl, ?_⟩⟩
      have sm := mk_same hx hd hf
      exact q x _ hx sm ⟨dx, t, hx2, sm _ _ h2⟩
    | put p v =>
      obtain ⟨t, u, h1, h2, h3⟩ := hr0
      have h1 : H l = some (.lst [.str "set", .ref t, .ref u]) := h1
      walk_at "goi"
      intro x dx hx hd hne
      refine ⟨x, dx, _, rfl, rfl, upd_same, fun H2 hf hx2 => ⟨rfl, ?_⟩⟩
      have sm := mk_same hx hd hf
      exact q x _ hx sm ⟨dx, t, u, hx2, sm _ _ h2, sm _ _ h3⟩
    | same p v k =>
      obtain ⟨t, u, h1, h2, h3⟩ := hr0
      have h1 : H l = some (.lst [.str "same", .ref t, .ref u, .int k]) := h1
      walk_at "goi"
      intro x dx hx hd hne
      refine ⟨x, dx, _, rfl, rfl, upd_same, fun H2 hf hx2 => ⟨rfl, ?_⟩⟩
      have sm := mk_same hx hd hf
      exact q x _ hx sm ⟨dx, t, u, hx2, sm _ _ h2, sm _ _ h3⟩
    | there n k =>
      have h1 : H l = some (.lst [.str "there", .str n, .int k]) := hr0
      walk_at "goi"
      intro x dx hx hd hne
      refine ⟨x, dx, _, rfl, rfl, upd_same, fun H2 hf hx2 => ⟨rfl, ?_⟩⟩
      have sm := mk_same hx hd hf
      exact q x _ hx sm ⟨dx, hx2⟩
    | call n v k =>
      obtain ⟨t, h1, h2⟩ := hr0
      have h1 : H l = some (.lst [.str "call", .str n, .ref t, .int k]) := h1
      walk_at "goi"
      refine itND (fun e => ?_) (fun e => ?_)
      · walk_at "goi"
        intro x dx hx hd hne
        refine ⟨x, dx, _, rfl, rfl, upd_same, fun H2 hf hx2 => ⟨rfl, ?_⟩⟩
        have sm := mk_same hx hd hf
        exact q x _ hx sm ⟨dx, t, hx2, sm _ _ h2⟩
      · injection e with e
        subst e
        walk_at "goi"
        intro x dx hx hd hne
        refine ⟨x, dx, _, rfl, rfl, upd_same, fun H2 hf hx2 => ⟨rfl, ?_⟩⟩
        have sm := mk_same hx hd hf
        exact q x _ hx sm ⟨dx, t, hx2, sm _ _ h2⟩
    | fin  =>
      have h1 : H l = some (.lst [.str "end"]) := hr0
      walk_at "goi"
      intro x dx hx hd hne
      have sm : Same H (upd (upd H dx (.own x)) x (.ins (A .fin) dx [])) := mk_same hx hd (fun b _ => rfl)
      exact q x _ hx sm ⟨dx, upd_same⟩
def spLine : Sp := fun vs H Q _ => ∃ (l : Addr) (r : Rw), vs = [.ref l] ∧ RowAt H l r ∧ r.ok ∧ Q (.str r.text) H
theorem ok_line (T : Top K mg A) : C8.Cal P w K mg base 2 "_law_line" spLine [] := by
  have c_value_word : C8.Cal P w K mg base 1 "_law_value_word" spVT [] := ok_value_word T
  refine cal_of T.d_line sc_line (fun vs H Q E h => ?_) (fun f cdv AA outer s H vs Q E hr h => ?_)
  · obtain ⟨l, r, rfl, _⟩ := h
    rfl
  · obtain ⟨l, r, rfl, hr0, ok, q⟩ := h
    refine ⟨_, (pss_cons (ps_if (pt_cmpR op_eq (pe_ix ix_list (pv 0) pe_int (fun _ _ => rfl)) pe_str (nomark _))
      (pss_one (ps_ret (pe_op o_adds pe_str (C8.pe_c c_value_word hr (by decide) (by rfl) (pa_cons (pe_ix ix_list (pv 0) pe_int (fun _ _ => rfl)) pa_nil)))))
      pss_nil)
      (pss_cons (ps_if (pt_cmpR op_eq (pe_ix ix_list (pv 0) pe_int (fun _ _ => rfl)) pe_str (nomark _))
      (pss_one (ps_ret (pe_op o_adds (pe_op o_adds (pe_op o_adds pe_str (C8.pe_c c_value_word hr (by decide) (by rfl) (pa_cons (pe_ix ix_list (pv 0) pe_int (fun _ _ => rfl)) pa_nil))) pe_str) (C8.pe_c c_value_word hr (by decide) (by rfl) (pa_cons (pe_ix ix_list (pv 0) pe_int (fun _ _ => rfl)) pa_nil)))))
      pss_nil)
      (pss_cons (ps_if (pt_cmpR op_eq (pe_ix ix_list (pv 0) pe_int (fun _ _ => rfl)) pe_str (nomark _))
      (pss_cons (ps_set (i := 1) sc_line.nd rfl (Or.inl rfl) (pe_op o_adds (pe_op o_adds (C8.pe_c c_value_word hr (by decide) (by rfl) (pa_cons (pe_ix ix_list (pv 0) pe_int (fun _ _ => rfl)) pa_nil)) pe_str) (C8.pe_c c_value_word hr (by decide) (by rfl) (pa_cons (pe_ix ix_list (pv 0) pe_int (fun _ _ => rfl)) pa_nil))))
      (pss_one (ps_ret (pe_op o_adds (pe_op o_adds (pe_op o_adds pe_str (pv 1)) pe_str) (pe_callTy QC.c_strI (by rfl) T.z_str (by decide +kernel) (pa_cons (pe_ix ix_list (pv 0) pe_int (fun _ _ => rfl)) pa_nil))))))
      pss_nil)
      (pss_cons (ps_if (pt_cmpR op_eq (pe_ix ix_list (pv 0) pe_int (fun _ _ => rfl)) pe_str (nomark _))
      (pss_one (ps_ret (pe_op o_adds (pe_op o_adds (pe_op o_adds pe_str (pe_ix ix_list (pv 0) pe_int (fun _ _ => rfl))) pe_str) (pe_callTy QC.c_strI (by rfl) T.z_str (by decide +kernel) (pa_cons (pe_ix ix_list (pv 0) pe_int (fun _ _ => rfl)) pa_nil)))))
      pss_nil)
      (pss_cons (ps_if (pt_cmpR op_eq (pe_ix ix_list (pv 0) pe_int (fun _ _ => rfl)) pe_str (nomark _))
      (pss_cons (ps_set (i := 2) sc_line.nd rfl (Or.inl rfl) (pe_op o_adds (pe_op o_adds (pe_op o_adds pe_str (pe_ix ix_list (pv 0) pe_int (fun _ _ => rfl))) pe_str) (C8.pe_c c_value_word hr (by decide) (by rfl) (pa_cons (pe_ix ix_list (pv 0) pe_int (fun _ _ => rfl)) pa_nil))))
      (pss_one (ps_ret (pe_ifExp (pt_cmpR op_ne (pe_ix ix_list (pv 0) pe_int (fun _ _ => rfl)) pe_int (nomark _)) (pe_op o_adds (pe_op o_adds (pv 2) pe_str) (pe_callTy QC.c_strI (by rfl) T.z_str (by decide +kernel) (pa_cons (pe_ix ix_list (pv 0) pe_int (fun _ _ => rfl)) pa_nil))) (pv 2)))))
      pss_nil)
      (pss_one (ps_ret pe_str))))))), ?_⟩
    try dsimp only [cxOf]
    cases r with
    | tell v =>
      obtain ⟨t, h1, h2⟩ := hr0
      have h1 : H l = some (.lst [.str "tell", .ref t]) := h1
      have l_v := vt_len (v := v) ok
      walk_at "goi"
      refine ⟨t, v, rfl, h2, ok, ?_⟩
      walk_at "goi"
      exact q
    | put p v =>
      obtain ⟨t, u, h1, h2, h3⟩ := hr0
      have h1 : H l = some (.lst [.str "set", .ref t, .ref u]) := h1
      have l_p := vt_len (v := p) ok.1
      have l_v := vt_len (v := v) ok.2
      walk_at "goi"
      refine ⟨t, p, rfl, h2, ok.1, ?_⟩
      walk_at "goi"
      refine ⟨u, v, rfl, h3, ok.2, ?_⟩
      walk_at "goi"
      exact q
    | same p v k =>
      obtain ⟨t, u, h1, h2, h3⟩ := hr0
      have h1 : H l = some (.lst [.str "same", .ref t, .ref u, .int k]) := h1
      have l_p := vt_len (v := p) ok.1
      have l_v := vt_len (v := v) ok.2.1
      have hb : Big k := ok.2.2
      have hi : (Str.ofString (toString k)).length ≤ 100 := itx_len hb
      walk_at "goi"
      refine ⟨t, p, rfl, h2, ok.1, ?_⟩
      walk_at "goi"
      refine ⟨u, v, rfl, h3, ok.2.1, ?_⟩
      walk_at "goi"
      exact q
    | there n k =>
      have h1 : H l = some (.lst [.str "there", .str n, .int k]) := hr0
      have hb : Big k := ok.2
      have hi : (Str.ofString (toString k)).length ≤ 100 := itx_len hb
      have hn : n.length ≤ 5000 := ok.1.1
      walk_at "goi"
      exact q
    | call n v k =>
      obtain ⟨t, h1, h2⟩ := hr0
      have h1 : H l = some (.lst [.str "call", .str n, .ref t, .int k]) := h1
      have l_v := vt_len (v := v) ok.2.1
      have hb : Big k := ok.2.2
      have hi : (Str.ofString (toString k)).length ≤ 100 := itx_len hb
      have hn : n.length ≤ 5000 := ok.1.1
      walk_at "goi"
      refine ⟨t, v, rfl, h2, ok.2.1, ?_⟩
      walk_at "goi"
      refine itND (fun e => ?_) (fun e => ?_)
      · walk_at "goi"
        refine QC.qs q ?_
        rw [Rw.text, if_pos (fun e2 => e (by rw [e2]))]
        walk_at "txt"
      · walk_at "goi"
        refine QC.qs q ?_
        injection e with e
        rw [Rw.text, if_neg (fun e2 => e2 e)]
    | fin  =>
      have h1 : H l = some (.lst [.str "end"]) := hr0
      walk_at "goi"
      exact q
def spHas (A : Kd → Addr) : Sp := fun vs H Q _ => ∃ (o l : Addr) (r : Rw), vs = [.ref o, .ref l] ∧ ObjAt A H o r ∧ RowAt H l r ∧ r.ok ∧ Q (.bl true) H
theorem ok_has_fields (T : Top K mg A) : C8.Cal P w K mg base 1 "_law_has_fields" (spHas A) [] := by
  refine cal_of T.d_has_fields sc_has_fields (fun vs H Q E h => ?_) (fun f cdv AA outer s H vs Q E hr h => ?_)
  · obtain ⟨o, l, r, rfl, _⟩ := h
    rfl
  · obtain ⟨o, l, r, rfl, ho, hr0, ok, q⟩ := h
    refine ⟨_, (pss_cons (ps_if (pt_cmpR op_eq (pe_ix ix_list (pv 1) pe_int (fun _ _ => rfl)) pe_str (nomark _))
      (pss_one (ps_ret (pe_cmpR (op_eqD hr.units) (pe_fld (pv 0) rfl) (pe_ix ix_list (pv 1) pe_int (fun _ _ => rfl)) (nomark _))))
      pss_nil)
      (pss_cons (ps_if (pt_cmpR op_eq (pe_ix ix_list (pv 1) pe_int (fun _ _ => rfl)) pe_str (nomark _))
      (pss_one (ps_ret (pe_and (pe_cmpR (op_eqD hr.units) (pe_fld (pv 0) rfl) (pe_ix ix_list (pv 1) pe_int (fun _ _ => rfl)) (nomark _)) (pe_one (pe_cmpR (op_eqD hr.units) (pe_fld (pv 0) rfl) (pe_ix ix_list (pv 1) pe_int (fun _ _ => rfl)) (nomark _))))))
      pss_nil)
      (pss_cons (ps_if (pt_cmpR op_eq (pe_ix ix_list (pv 1) pe_int (fun _ _ => rfl)) pe_str (nomark _))
      (pss_one (ps_ret (pe_and (pe_cmpR (op_eqD hr.units) (pe_fld (pv 0) rfl) (pe_ix ix_list (pv 1) pe_int (fun _ _ => rfl)) (nomark _)) (pe_and (pe_cmpR (op_eqD hr.units) (pe_fld (pv 0) rfl) (pe_ix ix_list (pv 1) pe_int (fun _ _ => rfl)) (nomark _)) (pe_one (pe_cmpR (op_eqD hr.units) (pe_fld (pv 0) rfl) (pe_ix ix_list (pv 1) pe_int (fun _ _ => rfl)) (nomark _)))))))
      pss_nil)
      (pss_cons (ps_if (pt_cmpR op_eq (pe_ix ix_list (pv 1) pe_int (fun _ _ => rfl)) pe_str (nomark _))
      (pss_one (ps_ret (pe_and (pe_cmpR (op_eqD hr.units) (pe_fld (pv 0) rfl) (pe_ix ix_list (pv 1) pe_int (fun _ _ => rfl)) (nomark _)) (pe_one (pe_cmpR (op_eqD hr.units) (pe_fld (pv 0) rfl) (pe_ix ix_list (pv 1) pe_int (fun _ _ => rfl)) (nomark _))))))
      pss_nil)
      (pss_cons (ps_if (pt_cmpR op_eq (pe_ix ix_list (pv 1) pe_int (fun _ _ => rfl)) pe_str (nomark _))
      (pss_one (ps_ret (pe_and (pe_cmpR (op_eqD hr.units) (pe_fld (pv 0) rfl) (pe_ix ix_list (pv 1) pe_int (fun _ _ => rfl)) (nomark _)) (pe_and (pe_cmpR (op_eqD hr.units) (pe_fld (pv 0) rfl) (pe_ix ix_list (pv 1) pe_int (fun _ _ => rfl)) (nomark _)) (pe_one (pe_cmpR (op_eqD hr.units) (pe_fld (pv 0) rfl) (pe_ix ix_list (pv 1) pe_int (fun _ _ => rfl)) (nomark _)))))))
      pss_nil)
      (pss_one (ps_ret pe_bl))))))), ?_⟩
    try dsimp only [cxOf]
    cases r with
    | tell v =>
      obtain ⟨t, h1, h2⟩ := hr0
      have h1 : H l = some (.lst [.str "tell", .ref t]) := h1
      obtain ⟨dx, t', g1, g2⟩ := ho
      walk_at "goi"
      refine eqd g2.dp h2.dp (v_shaped ok) (v_shaped ok) ?_
      rw [eqv_v, decide_eq_true rfl]
      walk_at "goi"
      exact q
    | put p v =>
      obtain ⟨t, u, h1, h2, h3⟩ := hr0
      have h1 : H l = some (.lst [.str "set", .ref t, .ref u]) := h1
      obtain ⟨dx, t', u', g1, g2, g3⟩ := ho
      walk_at "goi"
      refine eqd g2.dp h2.dp (v_shaped ok.1) (v_shaped ok.1) ?_
      rw [eqv_v, decide_eq_true rfl]
      walk_at "goi"
      refine eqd g3.dp h3.dp (v_shaped ok.2) (v_shaped ok.2) ?_
      rw [eqv_v, decide_eq_true rfl]
      walk_at "goi"
      exact q
    | same p v k =>
      obtain ⟨t, u, h1, h2, h3⟩ := hr0
      have h1 : H l = some (.lst [.str "same", .ref t, .ref u, .int k]) := h1
      obtain ⟨dx, t', u', g1, g2, g3⟩ := ho
      walk_at "goi"
      refine eqd g2.dp h2.dp (v_shaped ok.1) (v_shaped ok.1) ?_
      rw [eqv_v, decide_eq_true rfl]
      walk_at "goi"
      refine eqd g3.dp h3.dp (v_shaped ok.2.1) (v_shaped ok.2.1) ?_
      rw [eqv_v, decide_eq_true rfl]
      walk_at "goi"
      refine eqd (.int _) (.int _) (i_shaped _) (i_shaped _) ?_
      rw [eqv_i, decide_eq_true rfl]
      walk_at "goi"
      exact q
    | there n k =>
      have h1 : H l = some (.lst [.str "there", .str n, .int k]) := hr0
      obtain ⟨dx, g1⟩ := ho
      walk_at "goi"
      refine eqd (.str _) (.str _) (s_shaped ok.1) (s_shaped ok.1) ?_
      rw [eqv_s, decide_eq_true rfl]
      walk_at "goi"
      refine eqd (.int _) (.int _) (i_shaped _) (i_shaped _) ?_
      rw [eqv_i, decide_eq_true rfl]
      walk_at "goi"
      exact q
    | call n v k =>
      obtain ⟨t, h1, h2⟩ := hr0
      have h1 : H l = some (.lst [.str "call", .str n, .ref t, .int k]) := h1
      obtain ⟨dx, t', g1, g2⟩ := ho
      walk_at "goi"
      refine eqd (.str _) (.str _) (s_shaped ok.1) (s_shaped ok.1) ?_
      rw [eqv_s, decide_eq_true rfl]
      walk_at "goi"
      refine eqd g2.dp h2.dp (v_shaped ok.2.1) (v_shaped ok.2.1) ?_
      rw [eqv_v, decide_eq_true rfl]
      walk_at "goi"
      refine eqd (.int _) (.int _) (i_shaped _) (i_shaped _) ?_
      rw [eqv_i, decide_eq_true rfl]
      walk_at "goi"
      exact q
    | fin  =>
      have h1 : H l = some (.lst [.str "end"]) := hr0
      obtain ⟨dx, g1⟩ := ho
      walk_at "goi"
      exact q
def fRef : V → Option V := fun x => match x with | .ref a => some (.ref a) | _ => none
def spVals : Sp := fun vs H Q _ => ∃ (l : Addr) (r : Rw), vs = [.ref l] ∧ RowAt H l r ∧ ∀ (d : Addr) (ts : List Addr) (H' : Hp), H d = none → Same H H' → H' d = some (.lst (ts.map V.ref)) → Paired (VAt H') ts r.vals → Q (.ref d) H'
theorem ok_values (T : Top K mg A) : C8.Cal P w K mg base 1 "_law_values" spVals [] := by
  refine cal_of T.d_values sc_values (fun vs H Q E h => ?_) (fun f cdv AA outer s H vs Q E hr h => ?_)
  · obtain ⟨l, r, rfl, _⟩ := h
    rfl
  · obtain ⟨l, r, rfl, hr0, q⟩ := h
    refine ⟨_, (pss_one (ps_ret (pe_lc (own := [("_law_part", 1)]) (g := gName 1) (by rfl) sc_values.nd (pi_list (pe_slice sl_list (pv 0) (po_some pe_int) po_none)) (blkOk_by (own := [("_law_part", 1)]) (N := ["_law_row", "_law_part"]) (sc := C8.fnScope s_values) (by decide +kernel)) (fun _ _ _ _ _ => (pg_name (i := 1) sc_values.nd rfl (Or.inl rfl))) (fun _ _ _ _ _ => (pts_one (pt_val (pe_callB (kcIsi K rfl) (by rfl) T.z_isinstance (by decide +kernel) (pa_cons (pv 1) (pa_cons (pe_bltn (v := .ty "tuple") (u := .type "tuple") (by rfl) T.z_tuple (by decide +kernel) (by rfl)) pa_nil)))))) (fun _ _ _ _ _ => (pv 1))))), ?_⟩
    try dsimp only [cxOf]
    obtain ⟨x0, xs, ts, hl, hx, hts, hpr⟩ : ∃ (x0 : V) (xs : List V) (ts : List Addr), H l = some (.lst (x0 :: xs)) ∧ (xs.length < 10 ∧ ∀ x ∈ xs, (∃ t v, x = .ref t ∧ VAt H t v) ∨ (∃ z, x = .str z) ∨ ∃ i, x = .int i) ∧ xs.filterMap fRef = ts.map V.ref ∧ Paired (VAt H) ts r.vals := by
      cases r with
      | tell v => obtain ⟨t, h1, h2⟩ := hr0; exact ⟨_, _, [t], h1, ⟨by simp, by simp; exact ⟨v, h2⟩⟩, rfl, .cons h2 .nil⟩
      | put p v => obtain ⟨t, u, h1, h2, h3⟩ := hr0; exact ⟨_, _, [t, u], h1, ⟨by simp, by simp; exact ⟨⟨p, h2⟩, ⟨v, h3⟩⟩⟩, rfl, .cons h2 (.cons h3 .nil)⟩
      | same p v k => obtain ⟨t, u, h1, h2, h3⟩ := hr0; exact ⟨_, _, [t, u], h1, ⟨by simp, by simp; exact ⟨⟨p, h2⟩, ⟨v, h3⟩⟩⟩, rfl, .cons h2 (.cons h3 .nil)⟩
      | there n k => exact ⟨_, _, [], hr0, ⟨by simp, by simp⟩, rfl, .nil⟩
      | call n v k => obtain ⟨t, h1, h2⟩ := hr0; exact ⟨_, _, [t], h1, ⟨by simp, by simp; exact ⟨v, h2⟩⟩, rfl, .cons h2 .nil⟩
      | fin => exact ⟨_, _, [], hr0, ⟨by simp, by simp⟩, rfl, .nil⟩
    walk_at "go"
    refine sll (SqL.of hl) (fun c hc => ?_)
    have e : cutV (x0 :: xs) (some ((1 : Nat) : Int)) none = xs := by rw [cut_drop (by simp)]; rfl
    have e' : cutV (x0 :: xs) (some 1) none = xs := e
    rw [e']
    walk_at "go"
    refine kc_lst (xs := xs) (SqL.of upd_same) (Nat.lt_of_lt_of_le hx.1 (by rw [PySem.sizeLine_eq]; decide)) fRef (fun x H' hm sm N N0 h1 h2 => ?_) (fun d H' hd sm hd2 => ?_)
    · have s0 : Same H H' := (same_new hc).trans sm
      walk_at "go"
      refine ⟨rfl, ?_⟩
      rcases hx.2 x hm with ⟨t, v, rfl, hv⟩ | ⟨z, rfl⟩ | ⟨i, rfl⟩
      · walk_at "go"
        refine isi (b := true) (ty_of_t (s0 _ _ hv)) (by decide +kernel) ?_
        walk_at "go"
        exact h1 _ rfl
      · walk_at "go"
        refine isi (b := false) (.base (.str z)) (by decide +kernel) ?_
        walk_at "go"
        exact h2 rfl
      · walk_at "go"
        refine isi (b := false) ty_i (by decide +kernel) ?_
        walk_at "go"
        exact h2 rfl
    · rw [hts] at hd2
      have s0 : Same H H' := (same_new hc).trans sm
      have hd0 : H d = none := by
        cases e9 : H d with
        | none => rfl
        | some u => rw [same_new hc _ _ e9] at hd; cases hd
      exact q d ts H' hd0 s0 hd2 (vs_mono s0 hpr)
end
section
variable {K : PySem.W.Frag} {σ : L2.St} {H : Hp} {Q : VK} {g : TG} {tt : TT} {te : TE} {vs : List Nat}
theorem kc_lstW {a : Addr} {xs : List V} (hp : SqL K H a xs) (hsz : xs.length < sizeLine) (Pv : Addr → Nat → Hp → List V → Prop) (h0 : ∀ D, H D = none → Pv D 0 (upd H D (.lst [])) [])
    (hq : ∀ D i H' acc, Pv D i H' acc → SqL K H' a xs) (hl : ∀ D i H' acc, Pv D i H' acc → H' D = some (.lst acc) ∧ acc.length ≤ i)
    (hs : ∀ D (i : Nat) x H' acc, xs[i]? = some x → Pv D i H' acc → ∀ (N : VK) (N0 : Hp → Prop), (∀ y H4, H4 D = some (.lst acc) → Pv D (i + 1) (upd H4 D (.lst (acc ++ [y]))) (acc ++ [y]) → N y H4) → (∀ H3, Pv D (i + 1) H3 acc → N0 H3) →
      g x (wipe σ vs) H' fun σ2 H2 => wipe σ2 vs = wipe σ vs ∧ tt σ2 H2 fun b H3 => if b = true then te σ2 H3 N else N0 H3)
    (hd : ∀ D H' acc, H D = none → Pv D xs.length H' acc → Q (.ref D) H') : QB.kcLst K g tt te vs σ Q (.ref a) H :=
  ⟨a, rfl, ⟨xs, hp⟩, lcw hsz Pv h0 (fun D i H' acc hi p => (lst_go (hq D i H' acc p)).1 i H' hi (fun _ _ e => e)) (fun D H' acc p => (lst_go (hq D _ H' acc p)).2 H' (fun _ _ e => e)) hl hs hd⟩
end
def jn (G N : Hp) : Hp := fun b => match G b with | some o => some o | none => N b
theorem jn_l {G N : Hp} : Same G (jn G N) := fun b o h => by unfold jn; rw [h]
theorem jn_r {G H H' : Hp} (s : Same G H) : Same (QC.nw H H') (jn G (QC.nw H H')) := fun b o h => by
  have h1 := (QC.nw_some h).1
  unfold jn
  cases e : G b with
  | none => exact h
  | some u => rw [s b u e] at h1; cases h1
theorem jn_none {G N : Hp} {b : Addr} (h1 : G b = none) (h2 : N b = none) : jn G N b = none := by unfold jn; rw [h1]; exact h2
theorem jn_some {G N : Hp} {b : Addr} {o : HO} (h : jn G N b = some o) : G b = some o ∨ (G b = none ∧ N b = some o) := by
  unfold jn at h
  cases e : G b with
  | none => rw [e] at h; exact .inr ⟨rfl, h⟩
  | some u => rw [e] at h; exact .inl h
theorem rows_mono {H H' : Hp} (s : Same H H') : ∀ {ls : List Addr} {rs : List Rw}, Paired (RowAt H) ls rs → Paired (RowAt H') ls rs
  | _, _, .nil => .nil
  | _, _, .cons a b => .cons (a.mono s) (rows_mono s b)
theorem objs_mono {A : Kd → Addr} {H H' : Hp} (s : Same H H') : ∀ {ls : List Addr} {rs : List Rw}, Paired (ObjAt A H) ls rs → Paired (ObjAt A H') ls rs
  | _, _, .nil => .nil
  | _, _, .cons a b => .cons (a.mono s) (objs_mono s b)
theorem pr_snoc {α β : Type} {R : α → β → Prop} : ∀ {xs : List α} {ys : List β} {x : α} {y : β}, Paired R xs ys → R x y → Paired R (xs ++ [x]) (ys ++ [y])
  | _, _, _, _, .nil, h => .cons h .nil
  | _, _, _, _, .cons a b, h => .cons a (pr_snoc b h)
theorem pr_get {α β : Type} {R : α → β → Prop} : ∀ {xs : List α} {ys : List β} {i : Nat} {x : α}, Paired R xs ys → xs[i]? = some x → ∃ y, ys[i]? = some y ∧ R x y
  | _, _, _, _, .nil, h => by simp at h
  | _, _, 0, _, .cons a b, h => by simp at h; subst h; exact ⟨_, rfl, a⟩
  | _, _, i + 1, _, .cons a b, h => by simp at h; simpa using pr_get b h
theorem pr_len {α β : Type} {R : α → β → Prop} : ∀ {xs : List α} {ys : List β}, Paired R xs ys → xs.length = ys.length
  | _, _, .nil => rfl
  | _, _, .cons a b => by simp [pr_len b]
theorem obj_wo {A : Kd → Addr} {H : Hp} {D o : Addr} {xs : List V} {r : Rw} (hD : H D = some (.lst xs)) (h : ObjAt A H o r) : ObjAt A (QB.wo H D) o r := by
  have ne : ∀ {b : Addr} {u : HO}, H b = some u → (∀ ys, u ≠ .lst ys) → QB.wo H D b = some u := fun {b u} e n => by
    rw [wo_ne (fun e2 => by subst e2; rw [hD] at e; cases e; exact n _ rfl)]
    exact e
  cases r with
  | tell v => obtain ⟨d, t, h1, h2⟩ := h; exact ⟨d, t, ne h1 (by simp), ne h2 (by simp)⟩
  | put p v => obtain ⟨d, t, u, h1, h2, h3⟩ := h; exact ⟨d, t, u, ne h1 (by simp), ne h2 (by simp), ne h3 (by simp)⟩
  | same p v k => obtain ⟨d, t, u, h1, h2, h3⟩ := h; exact ⟨d, t, u, ne h1 (by simp), ne h2 (by simp), ne h3 (by simp)⟩
  | there n k => obtain ⟨d, h1⟩ := h; exact ⟨d, ne h1 (by simp)⟩
  | call n v k => obtain ⟨d, t, h1, h2⟩ := h; exact ⟨d, t, ne h1 (by simp), ne h2 (by simp)⟩
  | fin => obtain ⟨d, h1⟩ := h; exact ⟨d, ne h1 (by simp)⟩
theorem wo_mono {H H' : Hp} {D : Addr} (s : Same H H') : Same (QB.wo H D) (QB.wo H' D) := fun b u e => by
  by_cases h : b = D
  · subst h; unfold QB.wo at e; simp at e
  · rw [wo_ne h] at e ⊢; exact s b u e
theorem wo_upd {H : Hp} {D : Addr} {o : HO} : QB.wo (upd H D o) D = QB.wo H D := by
  funext b
  by_cases h : b = D
  · subst h; unfold QB.wo; simp
  · rw [wo_ne h, wo_ne h, upd_ne h]
theorem at_refs {ls : List Addr} {i : Nat} {l : Addr} (h : ls[i]? = some l) : atI (ls.map V.ref) (i : Int) = some (.ref l) := at_any (by omega) (by rw [Int.toNat_natCast, List.getElem?_map, h]; rfl)
def spLaw (K : PySem.W.Frag) : Sp := fun vs H Q _ => ∃ (a : Addr) (ns : List Int), vs = [.ref a] ∧ SqL K H a (ns.map V.int) ∧ ns.length ≤ 63 ∧ ∀ H', Q (.bl true) H'
section
variable {P : Program} {w : World} {K : PySem.W.Frag} {mg : Str → Option Value} {A : Kd → Addr} {base : Heap}
theorem ok_law (T : Top K mg A) {f : Addr} {fd : FuncData} (F : C8.Fun K "law" "law" s_law f fd) : FnOk P w K mg base CX0 8 f fd ["_law_script"] (spLaw K) := by
  have c_draw : C8.Cal P w K mg base 1 "_law_draw" (spDraw K) [] := ok_draw T
  have c_drawn_row : C8.Cal P w K mg base 4 "_law_drawn_row" (spRow K) [] := ok_drawn_row T
  have c_made : C8.Cal P w K mg base 3 "_law_made" (spMade A) [] := ok_made T
  have c_values : C8.Cal P w K mg base 1 "_law_values" spVals [] := ok_values T
  have c_line : C8.Cal P w K mg base 2 "_law_line" spLine [] := ok_line T
  have c_has_fields : C8.Cal P w K mg base 1 "_law_has_fields" (spHas A) [] := ok_has_fields T
  have c_value_text : C8.Cal P w K mg base 1 "value_text" spVT [] := ok_value_text T
  have c_value_word : C8.Cal P w K mg base 1 "_law_value_word" spVT [] := ok_value_word T
  have c_text : ∀ k, C8.Met P w K mg base 2 (A k) "text" (spText A k) [] := c_text T
  have c_operands : ∀ k, C8.Met P w K mg base 1 (A k) "operands" (spOper A k) [] := c_operands T
  have c_eq : ∀ k, C8.Met P w K mg base 1 (A k) "__eq__" (spEq A k) [] := c_eq T
  refine C8.fn0 F sc_law (fun vs H Q E h => ?_) (fun cdv AA outer s H vs Q E hr h => ?_)
  · obtain ⟨a, ns, rfl, _⟩ := h
    rfl
  · obtain ⟨a, ns, rfl, hS, hlen, q⟩ := h
    refine ⟨_, (pss_cons (ps_set (i := 1) sc_law.nd rfl (Or.inr rfl) (pe_lst (pa_cons (pv 0) (pa_cons pe_int (pa_cons pe_int (pa_cons pe_int pa_nil))))))
      (pss_cons (ps_setLc (i := 2) (own := [("_law_k", 3)]) (g := gName 3) (tt := tYes) (by rfl) sc_law.nd rfl rfl (sw_true rfl rfl rfl (by decide +kernel)) (pi_range1 (by rfl) T.z_range (pa_cons (pe_op op_add pe_int (C8.pe_c c_draw hr (by decide) (by rfl) (pa_cons (pv 1) (pa_cons pe_int pa_nil)))) pa_nil)) (blkOk_by (own := [("_law_k", 3)]) (N := ["_law_script", "_law_pool", "_law_rows", "_law_k", "_law_made_here", "_law_row", "_law_told", "_law_value", "_law_j"]) (sc := C8.fnScope s_law) (by decide +kernel)) (fun _ _ _ _ _ => (pg_name (i := 3) sc_law.nd rfl (Or.inl rfl))) (fun _ _ _ _ _ => pts_nil) (fun _ _ _ _ _ => (C8.pe_c c_drawn_row hr (by decide) (by rfl) (pa_cons (pv 1) pa_nil))))
      (pss_cons (ps_setLc (i := 4) (own := [("_law_row", 5)]) (g := gName 5) (tt := tYes) (by rfl) sc_law.nd rfl rfl (sw_true rfl rfl rfl (by decide +kernel)) (pi_list (pv 2)) (blkOk_by (own := [("_law_row", 5)]) (N := ["_law_script", "_law_pool", "_law_rows", "_law_k", "_law_made_here", "_law_row", "_law_told", "_law_value", "_law_j"]) (sc := C8.fnScope s_law) (by decide +kernel)) (fun _ _ _ _ _ => (pg_name (i := 5) sc_law.nd rfl (Or.inl rfl))) (fun _ _ _ _ _ => pts_nil) (fun _ _ _ _ _ => (C8.pe_c c_made hr (by decide) (by rfl) (pa_cons (pv 5) pa_nil))))
      (pss_cons (ps_for PassesOwn.never rfl (pi_range1 (by rfl) T.z_range (pa_cons (pe_callB c_len (by rfl) T.z_len (by decide +kernel) (pa_cons (pv 2) pa_nil)) pa_nil)) (pg_name (i := 3) sc_law.nd rfl (Or.inl rfl))
      (pss_cons (ps_set (i := 6) sc_law.nd rfl (Or.inl rfl) (QC.pe_dyn0 (pl := _) c_operands hr (by decide) (pe_ix ix_list (pv 4) (pv 3) (fun _ _ => rfl))))
      (pss_cons (ps_if (PW.pt (pw_or (pt_not (pt_val (pe_callB call_isi (by rfl) T.z_isinstance (by decide +kernel) (pa_cons (pv 6) (pa_cons (pe_bltn (v := .ty "list") (u := .type "list") (by rfl) T.z_list (by decide +kernel) (by rfl)) pa_nil))))) (pw_or1 (pt_cmpR (op_neD hr.units) (pv 6) (C8.pe_c c_values hr (by decide) (by rfl) (pa_cons (pe_ix ix_list (pv 2) (pv 3) (fun _ _ => rfl)) pa_nil)) (nomark _)))))
      (pss_one (ps_ret pe_bl))
      pss_nil)
      (pss_one (ps_expr (pe_bm PySem.F.plainAttrs_list PySem.F.slot_list_append PySem.F.type_list_append mt_append (pv 6) (pa_cons (pe_tup (pa_cons pe_str (pa_cons (pv 3) pa_nil))) pa_nil)))))))
      (pss_cons (ps_for PassesOwn.never rfl (pi_range1 (by rfl) T.z_range (pa_cons (pe_callB c_len (by rfl) T.z_len (by decide +kernel) (pa_cons (pv 2) pa_nil)) pa_nil)) (pg_name (i := 3) sc_law.nd rfl (Or.inl rfl))
      (pss_cons (ps_if (PW.pt (pw_or (pt_not (pt_val (pe_callB call_isi (by rfl) T.z_isinstance (by decide +kernel) (pa_cons (QC.pe_dyn0 (pl := _) c_text hr (by decide) (pe_ix ix_list (pv 4) (pv 3) (fun _ _ => rfl))) (pa_cons (pe_bltn (v := .ty "str") (u := .type "str") (by rfl) T.z_str (by decide +kernel) (by rfl)) pa_nil))))) (pw_or1 (pt_cmpR op_ne (QC.pe_dyn0 (pl := _) c_text hr (by decide) (pe_ix ix_list (pv 4) (pv 3) (fun _ _ => rfl))) (C8.pe_c c_line hr (by decide) (by rfl) (pa_cons (pe_ix ix_list (pv 2) (pv 3) (fun _ _ => rfl)) pa_nil)) (nomark _)))))
      (pss_one (ps_ret pe_bl))
      pss_nil)
      (pss_cons (ps_if (PW.pt (pw_or (pt_cmpR (op_neD hr.units) (QC.pe_dyn0 (pl := _) c_operands hr (by decide) (pe_ix ix_list (pv 4) (pv 3) (fun _ _ => rfl))) (C8.pe_c c_values hr (by decide) (by rfl) (pa_cons (pe_ix ix_list (pv 2) (pv 3) (fun _ _ => rfl)) pa_nil)) (nomark _)) (pw_or1 (pt_not (pt_val (C8.pe_c c_has_fields hr (by decide) (by rfl) (pa_cons (pe_ix ix_list (pv 4) (pv 3) (fun _ _ => rfl)) (pa_cons (pe_ix ix_list (pv 2) (pv 3) (fun _ _ => rfl)) pa_nil))))))))
      (pss_one (ps_ret pe_bl))
      pss_nil)
      (pss_cons (ps_for PassesOwn.never rfl (pi_list (C8.pe_c c_values hr (by decide) (by rfl) (pa_cons (pe_ix ix_list (pv 2) (pv 3) (fun _ _ => rfl)) pa_nil))) (pg_name (i := 7) sc_law.nd rfl (Or.inl rfl))
      (pss_one (ps_if (pt_cmpR op_ne (C8.pe_c c_value_text hr (by decide) (by rfl) (pa_cons (pv 7) pa_nil)) (C8.pe_c c_value_word hr (by decide) (by rfl) (pa_cons (pv 7) pa_nil)) (nomark _))
      (pss_one (ps_ret pe_bl))
      pss_nil)))
      (pss_cons (ps_for PassesOwn.never rfl (pi_range1 (by rfl) T.z_range (pa_cons (pe_callB c_len (by rfl) T.z_len (by decide +kernel) (pa_cons (pv 2) pa_nil)) pa_nil)) (pg_name (i := 8) sc_law.nd rfl (Or.inl rfl))
      (pss_one (ps_if (pt_cmpR op_ne (pe_cmpR (QC.op_dynEq c_eq hr (by decide)) (pe_ix ix_list (pv 4) (pv 3) (fun _ _ => rfl)) (pe_ix ix_list (pv 4) (pv 8) (fun _ _ => rfl)) (nomark _)) (pe_cmpR (op_eqD hr.units) (pe_ix ix_list (pv 2) (pv 3) (fun _ _ => rfl)) (pe_ix ix_list (pv 2) (pv 8) (fun _ _ => rfl)) (nomark _)) (nomark _))
      (pss_one (ps_ret pe_bl))
      pss_nil)))
      (pss_one (ps_if (PW.pt (pw_or (pt_not (pt_cmpR (QC.op_dynEq c_eq hr (by decide)) (pe_ix ix_list (pv 4) (pv 3) (fun _ _ => rfl)) (C8.pe_c c_made hr (by decide) (by rfl) (pa_cons (pe_ix ix_list (pv 2) (pv 3) (fun _ _ => rfl)) pa_nil)) (nomark _))) (pw_or1 (pt_cmpR (QC.op_dynEq c_eq hr (by decide)) (pe_ix ix_list (pv 4) (pv 3) (fun _ _ => rfl)) (C8.pe_c c_line hr (by decide) (by rfl) (pa_cons (pe_ix ix_list (pv 2) (pv 3) (fun _ _ => rfl)) pa_nil)) (nomark _)))))
      (pss_one (ps_ret pe_bl))
      pss_nil)))))))
      (pss_one (ps_ret pe_bl))))))), ?_⟩
    try dsimp only [cxOf]
    walk_at "go"
    refine ⟨(show 4 ≤ sizeLine by decide), fun p hp => ?_⟩
    walk_at "go"
    have hP0 : Pool K (upd H p (.lst [.ref a, .int 0, .int 0, .int 7])) p a ns := pool_mk hS hp (Int.le_refl _)
    generalize upd H p (.lst [.ref a, .int 0, .int 0, .int 7]) = H0 at hP0 ⊢
    refine ⟨p, a, ns, _, rfl, by decide, by decide, hP0, fun m H1 m0 m1 fr1 hP1 => ?_⟩
    walk_at "go"
    refine QC.kc_rngW (by omega) (by omega) (fun D i H' acc => ∃ (G : Hp) (ls : List Addr) (rs : List Rw), H1 D = none ∧ H' D = some (.lst acc) ∧ acc = ls.map V.ref ∧ ls.length = i ∧ Same G H' ∧ G p = none ∧ G D = none ∧ D ≠ p ∧ Pool K H' p a ns ∧ Paired (RowAt G) ls rs ∧ ∀ r ∈ rs, r.ok) ?_ ?_ ?_ ?_
    · intro D hD
      exact ⟨fun _ => none, [], [], hD, upd_same, rfl, rfl, (fun b u e => by cases e), rfl, rfl, pool_ne hP1 hD, pool_new hP1 hD, .nil, by simp⟩
    · rintro D i H' acc ⟨G, ls, rs, hD, hD2, rfl, hi, _⟩
      exact ⟨hD2, by rw [List.length_map]; omega⟩
    · rintro D i H' acc hi ⟨G, ls, rs, hD, hD2, rfl, hls, sG, gp, gD, nD, hP', hrs, hok⟩ N N0 h1 h2
      walk_at "go"
      refine ⟨rfl, ?_⟩
      walk_at "go"
      refine ⟨p, a, ns, rfl, hP', fun l r H4 hr4 ok fr4 hP4 => ?_⟩
      obtain ⟨op, hop⟩ := Pool.at hP'
      refine h1 _ _ (fr4 D _ nD hD2) ⟨jn G (QC.nw H' H4), ls ++ [l], rs ++ [r], hD, upd_same, by simp, by simp [hls], ?_, jn_none gp (QC.nw_none hop), jn_none gD (QC.nw_none hD2), nD, pool_mut hP1 hD hP4, ?_, ?_⟩
      · intro b o e
        rcases jn_some e with e | ⟨_, e⟩
        · have n1 : b ≠ D := fun e2 => by subst e2; rw [gD] at e; cases e
          have n2 : b ≠ p := fun e2 => by subst e2; rw [gp] at e; cases e
          rw [upd_ne n1]
          exact fr4 b o n2 (sG b o e)
        · obtain ⟨e1, e2⟩ := QC.nw_some e
          have n1 : b ≠ D := fun e3 => by subst e3; rw [hD2] at e1; cases e1
          rw [upd_ne n1]
          exact e2
      · exact pr_snoc (rows_mono jn_l hrs) (hr4.mono (jn_r sG))
      · intro r' hr'
        rcases List.mem_append.mp hr' with h | h
        · exact hok r' h
        · simp at h; subst h; exact ok
    · rintro D H2 acc hD ⟨G, ls, rs, _, hD2, rfl, hls, sG, _, _, _, _, hrs0, hok⟩
      have hrs := rows_mono sG hrs0
      have hlen : ls.length < 100 := by omega
      clear hrs0 sG hls hP0 hP1 fr1 hD
      walk_at "go"
      refine kc_lstW (xs := ls.map V.ref) (SqL.of hD2) (by rw [List.length_map, PySem.sizeLine_eq]; omega) (fun E i H' acc => ∃ os : List Addr, H2 E = none ∧ Same H2 H' ∧ H' E = some (.lst acc) ∧ acc = os.map V.ref ∧ os.length = i ∧ Paired (ObjAt A (QB.wo H' E)) os (rs.take i)) ?_ ?_ ?_ ?_ ?_
      · intro E hE
        exact ⟨[], hE, same_new hE, upd_same, rfl, rfl, by simp; exact .nil⟩
      · rintro E i H' acc ⟨os, hE, sm, _⟩
        exact SqL.of (sm _ _ hD2)
      · rintro E i H' acc ⟨os, hE, sm, hE2, rfl, hi, _⟩
        exact ⟨hE2, by rw [List.length_map]; omega⟩
      · rintro E i x H' acc hx ⟨os, hE, sm, hE2, rfl, hi, hos⟩ N N0 h1 h2
        obtain ⟨l, hl, rfl⟩ : ∃ l, ls[i]? = some l ∧ x = .ref l := by
          rw [List.getElem?_map] at hx
          cases e : ls[i]? with
          | none => rw [e] at hx; cases hx
          | some l => rw [e] at hx; cases hx; exact ⟨l, rfl, rfl⟩
        obtain ⟨r, hri, hrow⟩ := pr_get hrs hl
        walk_at "go"
        refine ⟨rfl, ?_⟩
        walk_at "go"
        refine ⟨l, r, rfl, hrow.mono sm, fun o H4 ho sm4 hobj => ?_⟩
        have hE4 := sm4 _ _ hE2
        refine h1 _ _ hE4 ⟨os ++ [o], hE, same_mut (sm.trans sm4) hE, upd_same, by simp, by simp [hi], ?_⟩
        rw [wo_upd, List.take_add_one, hri]
        exact pr_snoc (objs_mono (wo_mono sm4) hos) (obj_wo hE4 hobj)
      · rintro E H3 acc hE ⟨os, _, sm, hE2, rfl, hi, hos0⟩
        have hD3 := sm _ _ hD2
        have hrs3 := rows_mono sm hrs
        have hos : Paired (ObjAt A H3) os rs := by
          have e : rs.take (ls.map V.ref).length = rs := List.take_of_length_le (by rw [List.length_map, pr_len hrs]; exact Nat.le_refl _)
          rw [e] at hos0
          exact objs_mono wo_same hos0
        rw [List.length_map] at hi
        clear hos0 hD2 hrs hE sm
        have get : ∀ (i : Nat), (i : Int) < ((ls.map V.ref).length : Nat) → ∃ l o r, atI (ls.map V.ref) (i : Int) = some (.ref l) ∧ atI (os.map V.ref) (i : Int) = some (.ref o) ∧ RowAt H3 l r ∧ ObjAt A H3 o r ∧ r.ok := fun i h => by
          rw [List.length_map] at h
          have h1 : i < ls.length := by omega
          have h2 : i < os.length := by omega
          obtain ⟨r, e1, e2⟩ := pr_get hrs3 (List.getElem?_eq_getElem h1)
          obtain ⟨r', e3, e4⟩ := pr_get hos (List.getElem?_eq_getElem h2)
          rw [e1] at e3
          cases e3
          exact ⟨_, _, r, at_refs (List.getElem?_eq_getElem h1), at_refs (List.getElem?_eq_getElem h2), e2, e4, hok r (List.mem_of_getElem? e1)⟩
        walk_at "go"
        refine k_rng1 (Pv := fun i σ H' => (∃ x3 x5 x6 x7 x8 : Option V, σ = [some (.ref a), some (.ref p), some (.ref D), x3, some (.ref E), x5, x6, x7, x8]) ∧ Same H3 H') (by omega) (by rw [List.length_map]; omega) ?_ ?_ ?_
        · exact ⟨⟨_, _, _, _, _, rfl⟩, fun _ _ e => e⟩
        · rintro i σ H4 hi4 ⟨⟨x3, x5, x6, x7, x8, rfl⟩, sm4⟩ N B hN hB
          obtain ⟨l, o, r, hat1, hat2, hrow, hobj, ok⟩ := get i hi4
          have hD4 := sm4 _ _ hD3
          have hE4 := sm4 _ _ hE2
          have hrow4 := hrow.mono sm4
          have hobj4 := hobj.mono sm4
          obtain ⟨dx, fs, hins, hlk⟩ := hobj4.ins
          walk_at "go"
          refine ⟨r.kd, o, dx, fs, rfl, hins, hlk _ (by decide +kernel), o, r, rfl, rfl, hobj4, fun d ts hd hpr => ?_⟩
          have s5 : Same H4 (upd H4 d (.lst (ts.map V.ref))) := same_new hd
          have hD5 := s5 _ _ hD4
          walk_at "goi"
          refine isi (b := true) (ty_of_l upd_same) (by decide +kernel) ?_
          walk_at "goi"
          refine ⟨l, r, rfl, hrow4.mono s5, fun d2 ts2 H6 hd2 sm6 hd26 hpr2 => ?_⟩
          have hd6 : H6 d = some (.lst (ts.map V.ref)) := sm6 _ _ upd_same
          have dp1 : Dp K H6 (.ref d) (.list (r.vals.map Vl.data)) := ValsAt.dp ⟨ts, hd6, vs_mono (s5.trans sm6) hpr⟩
          have dp2 : Dp K H6 (.ref d2) (.list (r.vals.map Vl.data)) := ValsAt.dp ⟨ts2, hd26, hpr2⟩
          refine ned dp1 dp2 (vs_shaped (vals_ok ok)) (vs_shaped (vals_ok ok)) ?_
          rw [eqv_vs]
          walk_at "goi"
          refine ⟨sz4 (by simp), fun t ht => ?_⟩
          have s7 : Same H6 (upd H6 t (.tup [.str "number", .int i])) := same_new ht
          have hts : ts.length < 100 := by
            rw [pr_len hpr]
            cases r <;> simp [Rw.vals]
          walk_at "goi"
          refine app (s7 _ _ hd6) (by rw [List.length_map, PySem.sizeLine_eq]; omega) ?_
          walk_at "goi"
          have hd3 : H3 d = none := by
            cases e9 : H3 d with
            | none => rfl
            | some u => rw [sm4 _ _ e9] at hd; cases hd
          exact hN _ _ ⟨⟨_, _, _, _, _, rfl⟩, same_mut (((sm4.trans s5).trans sm6).trans s7) hd3⟩
        · rintro σ H4 ⟨⟨x3, x5, x6, x7, x8, rfl⟩, sm4⟩
          have hD4 := sm4 _ _ hD3
          walk_at "go"
          refine k_rng1 (Pv := fun i σ H' => (∃ x3 x5 x6 x7 x8 : Option V, σ = [some (.ref a), some (.ref p), some (.ref D), x3, some (.ref E), x5, x6, x7, x8]) ∧ Same H3 H') (by omega) (by rw [List.length_map]; omega) ?_ ?_ ?_
          · exact ⟨⟨_, _, _, _, _, rfl⟩, sm4⟩
          · clear sm4 hD4 x3 x5 x6 x7 x8
            rintro i σ H4 hi4 ⟨⟨x3, x5, x6, x7, x8, rfl⟩, sm4⟩ N B hN hB
            obtain ⟨l, o, r, hat1, hat2, hrow, hobj, ok⟩ := get i hi4
            have hD4 := sm4 _ _ hD3
            have hE4 := sm4 _ _ hE2
            have hrow4 := hrow.mono sm4
            have hobj4 := hobj.mono sm4
            obtain ⟨dx, fs, hins, hlk⟩ := hobj4.ins
            walk_at "goi"
            refine ⟨r.kd, o, dx, fs, rfl, hins, hlk _ (by decide +kernel), o, r, rfl, rfl, hobj4, ok, ?_⟩
            walk_at "goi"
            refine isi (b := true) (.base (.str _)) (by decide +kernel) ?_
            walk_at "goi"
            refine ⟨r.kd, o, dx, fs, rfl, hins, hlk _ (by decide +kernel), o, r, rfl, rfl, hobj4, ok, ?_⟩
            walk_at "goi"
            refine ⟨l, r, rfl, hrow4, ok, ?_⟩
            walk_at "goi"
            refine itND (fun h => absurd rfl h) (fun _ => ?_)
            walk_at "goi"
            refine ⟨r.kd, o, dx, fs, rfl, hins, hlk _ (by decide +kernel), o, r, rfl, rfl, hobj4, fun d ts hd hpr => ?_⟩
            have s5 : Same H4 (upd H4 d (.lst (ts.map V.ref))) := same_new hd
            have hD5 := s5 _ _ hD4
            walk_at "goi"
            refine ⟨l, r, rfl, hrow4.mono s5, fun d2 ts2 H6 hd2 sm6 hd26 hpr2 => ?_⟩
            have hd6 : H6 d = some (.lst (ts.map V.ref)) := sm6 _ _ upd_same
            have dp1 : Dp K H6 (.ref d) (.list (r.vals.map Vl.data)) := ValsAt.dp ⟨ts, hd6, vs_mono (s5.trans sm6) hpr⟩
            have dp2 : Dp K H6 (.ref d2) (.list (r.vals.map Vl.data)) := ValsAt.dp ⟨ts2, hd26, hpr2⟩
            refine ned dp1 dp2 (vs_shaped (vals_ok ok)) (vs_shaped (vals_ok ok)) ?_
            rw [eqv_vs]
            have s46 := s5.trans sm6
            have hD6 := s46 _ _ hD4
            have hE6 := s46 _ _ hE4
            have hrow6 := hrow4.mono s46
            have hobj6 := hobj4.mono s46
            walk_at "goi"
            refine ⟨o, l, r, rfl, hobj6, hrow6, ok, ?_⟩
            walk_at "goi"
            refine ⟨l, r, rfl, hrow6, fun d3 ts3 H7 hd3 sm7 hd37 hpr3 => ?_⟩
            walk_at "go"
            refine k_lst (xs := ts3.map V.ref) (Pv := fun j σ H' => (∃ x7 : Option V, σ = [some (.ref a), some (.ref p), some (.ref D), some (.int i), some (.ref E), x5, x6, x7, x8]) ∧ H' = H7) ?_ ?_ ?_ ?_
            · exact ⟨⟨_, rfl⟩, rfl⟩
            · rintro j σ H' ⟨_, rfl⟩
              exact SqL.of hd37
            · rintro j x σ H' hx ⟨⟨x7, rfl⟩, rfl⟩ N2 B2 hN2 hB2
              obtain ⟨t, ht, rfl⟩ : ∃ t, ts3[j]? = some t ∧ x = .ref t := by
                rw [List.getElem?_map] at hx
                cases e : ts3[j]? with
                | none => rw [e] at hx; cases hx
                | some l => rw [e] at hx; cases hx; exact ⟨l, rfl, rfl⟩
              obtain ⟨v, hv, hvt⟩ := pr_get hpr3 ht
              have okv := vals_ok ok v (List.mem_of_getElem? hv)
              walk_at "goi"
              refine ⟨t, v, rfl, hvt, okv, ?_⟩
              walk_at "goi"
              refine ⟨t, v, rfl, hvt, okv, ?_⟩
              walk_at "goi"
              refine itND (fun h => absurd rfl h) (fun _ => ?_)
              walk_at "goi"
              exact hN2 _ _ ⟨⟨_, rfl⟩, rfl⟩
            · rintro σ H' ⟨⟨x7, rfl⟩, rfl⟩
              have s47 := s46.trans sm7
              have hD7 := s47 _ _ hD4
              have hE7 := s47 _ _ hE4
              have hrow7 := hrow4.mono s47
              have hobj7 := hobj4.mono s47
              have s37 := sm4.trans s47
              obtain ⟨dx7, fs7, hins7, _⟩ := hobj7.ins
              walk_at "go"
              refine k_rng1 (Pv := fun j σ H8 => (∃ x8 : Option V, σ = [some (.ref a), some (.ref p), some (.ref D), some (.int i), some (.ref E), x5, x6, x7, x8]) ∧ H8 = H') (by omega) (by rw [List.length_map]; omega) ?_ ?_ ?_
              · exact ⟨⟨_, rfl⟩, rfl⟩
              · rintro j σ H8 hj ⟨⟨x8, rfl⟩, rfl⟩ N2 B2 hN2 hB2
                obtain ⟨l', o', r', hat1', hat2', hrow', hobj', ok'⟩ := get j hj
                have hrow7' := hrow'.mono s37
                have hobj7' := hobj'.mono s37
                obtain ⟨dy, gs, hins', _⟩ := hobj7'.ins
                walk_at "goi"
                refine ⟨r.kd, o, dx7, fs7, rfl, hins7, .inl ⟨o', A r'.kd, dy, gs, rfl, hins', T.nf _ _⟩, o, r, _, rfl, rfl, hobj7, ok, .inl ⟨o', r', rfl, hobj7', ok', ?_⟩⟩
                walk_at "goi"
                refine eqd hrow7.dp hrow7'.dp (r_shaped ok) (r_shaped ok') ?_
                rw [eqv_r]
                walk_at "goi"
                refine itND (fun h => absurd rfl h) (fun _ => ?_)
                walk_at "goi"
                exact hN2 _ _ ⟨⟨_, rfl⟩, rfl⟩
              · rintro σ H8 ⟨⟨x8, rfl⟩, rfl⟩
                walk_at "goi"
                refine ⟨l, r, rfl, hrow7, fun o' H9 ho' sm9 hobj9 => ?_⟩
                have hobjk := hobj7.mono sm9
                have hD9 := sm9 _ _ hD7
                have hE9 := sm9 _ _ hE7
                obtain ⟨dy, gs, hins', _⟩ := hobj9.ins
                refine ⟨r.kd, o, dx7, fs7, rfl, sm9 _ _ hins7, .inl ⟨o', A r.kd, dy, gs, rfl, hins', T.nf _ _⟩, o, r, _, rfl, rfl, hobjk, ok, .inl ⟨o', r, rfl, hobj9, ok, ?_⟩⟩
                rw [decide_eq_true (rfl : r = r)]
                walk_at "goi"
                refine ⟨l, r, rfl, hrow7.mono sm9, ok, ?_⟩
                refine ⟨r.kd, o, dx7, fs7, rfl, sm9 _ _ hins7, .inr ⟨_, rfl, T.nfS _⟩, o, r, _, rfl, rfl, hobjk, ok, .inr ⟨_, rfl, ?_⟩⟩
                walk_at "goi"
                exact hN _ _ ⟨⟨_, _, _, _, _, rfl⟩, s37.trans sm9⟩
          · rintro σ H5 _
            walk_at "go"
            exact q _
end

theorem top_mk {K : PySem.W.Frag} {h : Heap} {mg : Str → Option Value} (X : K.In h) (G : h.Ns mainGlobals mg)
    {A_tell A_put A_same A_there A_call A_fin : Addr}
    (ga_tell : PySem.W.nsIn K mainGlobals "Tell" = some (some (.ref A_tell)))
    (ga_put : PySem.W.nsIn K mainGlobals "Put" = some (some (.ref A_put)))
    (ga_same : PySem.W.nsIn K mainGlobals "Same" = some (some (.ref A_same)))
    (ga_there : PySem.W.nsIn K mainGlobals "There" = some (some (.ref A_there)))
    (ga_call : PySem.W.nsIn K mainGlobals "Call" = some (some (.ref A_call)))
    (ga_fin : PySem.W.nsIn K mainGlobals "End" = some (some (.ref A_fin)))
    {f0 : Addr} {od0 an0 : Option Addr} {sl0 : Array (Option Value)} {oc0 kV0 dc0 pm0 cd0 ct0 : Value}
    (a0 : PySem.W.nsIn K mainGlobals "value_text" = some (some (.ref f0)))
    (l0 : K.lookup f0 = some ⟨oc0, od0, .func (PySem.W.fnOf "value_text" "value_text" (C8.fnArgs s_value_text) (C8.fnBody s_value_text) (C8.fnScope s_value_text) .none kV0 dc0 pm0 an0 cd0 ct0), sl0⟩)
    (c0 : PySem.W.codeIn K cd0 "value_text" = true)
    (k0 : PySem.W.keepIn K (.ref f0) = true)
    {f1 : Addr} {od1 an1 : Option Addr} {sl1 : Array (Option Value)} {oc1 kV1 dc1 pm1 cd1 ct1 : Value}
    (a1 : PySem.W.nsIn K mainGlobals "_law_draw" = some (some (.ref f1)))
    (l1 : K.lookup f1 = some ⟨oc1, od1, .func (PySem.W.fnOf "_law_draw" "_law_draw" (C8.fnArgs s_draw) (C8.fnBody s_draw) (C8.fnScope s_draw) .none kV1 dc1 pm1 an1 cd1 ct1), sl1⟩)
    (c1 : PySem.W.codeIn K cd1 "_law_draw" = true)
    (k1 : PySem.W.keepIn K (.ref f1) = true)
    {f2 : Addr} {od2 an2 : Option Addr} {sl2 : Array (Option Value)} {oc2 kV2 dc2 pm2 cd2 ct2 : Value}
    (a2 : PySem.W.nsIn K mainGlobals "_law_name" = some (some (.ref f2)))
    (l2 : K.lookup f2 = some ⟨oc2, od2, .func (PySem.W.fnOf "_law_name" "_law_name" (C8.fnArgs s_name) (C8.fnBody s_name) (C8.fnScope s_name) .none kV2 dc2 pm2 an2 cd2 ct2), sl2⟩)
    (c2 : PySem.W.codeIn K cd2 "_law_name" = true)
    (k2 : PySem.W.keepIn K (.ref f2) = true)
    {f3 : Addr} {od3 an3 : Option Addr} {sl3 : Array (Option Value)} {oc3 kV3 dc3 pm3 cd3 ct3 : Value}
    (a3 : PySem.W.nsIn K mainGlobals "_law_number" = some (some (.ref f3)))
    (l3 : K.lookup f3 = some ⟨oc3, od3, .func (PySem.W.fnOf "_law_number" "_law_number" (C8.fnArgs s_number) (C8.fnBody s_number) (C8.fnScope s_number) .none kV3 dc3 pm3 an3 cd3 ct3), sl3⟩)
    (c3 : PySem.W.codeIn K cd3 "_law_number" = true)
    (k3 : PySem.W.keepIn K (.ref f3) = true)
    {f4 : Addr} {od4 an4 : Option Addr} {sl4 : Array (Option Value)} {oc4 kV4 dc4 pm4 cd4 ct4 : Value}
    (a4 : PySem.W.nsIn K mainGlobals "_law_any_value" = some (some (.ref f4)))
    (l4 : K.lookup f4 = some ⟨oc4, od4, .func (PySem.W.fnOf "_law_any_value" "_law_any_value" (C8.fnArgs s_any_value) (C8.fnBody s_any_value) (C8.fnScope s_any_value) .none kV4 dc4 pm4 an4 cd4 ct4), sl4⟩)
    (c4 : PySem.W.codeIn K cd4 "_law_any_value" = true)
    (k4 : PySem.W.keepIn K (.ref f4) = true)
    {f5 : Addr} {od5 an5 : Option Addr} {sl5 : Array (Option Value)} {oc5 kV5 dc5 pm5 cd5 ct5 : Value}
    (a5 : PySem.W.nsIn K mainGlobals "_law_value_word" = some (some (.ref f5)))
    (l5 : K.lookup f5 = some ⟨oc5, od5, .func (PySem.W.fnOf "_law_value_word" "_law_value_word" (C8.fnArgs s_value_word) (C8.fnBody s_value_word) (C8.fnScope s_value_word) .none kV5 dc5 pm5 an5 cd5 ct5), sl5⟩)
    (c5 : PySem.W.codeIn K cd5 "_law_value_word" = true)
    (k5 : PySem.W.keepIn K (.ref f5) = true)
    {f6 : Addr} {od6 an6 : Option Addr} {sl6 : Array (Option Value)} {oc6 kV6 dc6 pm6 cd6 ct6 : Value}
    (a6 : PySem.W.nsIn K mainGlobals "_law_drawn_row" = some (some (.ref f6)))
    (l6 : K.lookup f6 = some ⟨oc6, od6, .func (PySem.W.fnOf "_law_drawn_row" "_law_drawn_row" (C8.fnArgs s_drawn_row) (C8.fnBody s_drawn_row) (C8.fnScope s_drawn_row) .none kV6 dc6 pm6 an6 cd6 ct6), sl6⟩)
    (c6 : PySem.W.codeIn K cd6 "_law_drawn_row" = true)
    (k6 : PySem.W.keepIn K (.ref f6) = true)
    {f7 : Addr} {od7 an7 : Option Addr} {sl7 : Array (Option Value)} {oc7 kV7 dc7 pm7 cd7 ct7 : Value}
    (a7 : PySem.W.nsIn K mainGlobals "_law_made" = some (some (.ref f7)))
    (l7 : K.lookup f7 = some ⟨oc7, od7, .func (PySem.W.fnOf "_law_made" "_law_made" (C8.fnArgs s_made) (C8.fnBody s_made) (C8.fnScope s_made) .none kV7 dc7 pm7 an7 cd7 ct7), sl7⟩)
    (c7 : PySem.W.codeIn K cd7 "_law_made" = true)
    (k7 : PySem.W.keepIn K (.ref f7) = true)
    {f8 : Addr} {od8 an8 : Option Addr} {sl8 : Array (Option Value)} {oc8 kV8 dc8 pm8 cd8 ct8 : Value}
    (a8 : PySem.W.nsIn K mainGlobals "_law_line" = some (some (.ref f8)))
    (l8 : K.lookup f8 = some ⟨oc8, od8, .func (PySem.W.fnOf "_law_line" "_law_line" (C8.fnArgs s_line) (C8.fnBody s_line) (C8.fnScope s_line) .none kV8 dc8 pm8 an8 cd8 ct8), sl8⟩)
    (c8 : PySem.W.codeIn K cd8 "_law_line" = true)
    (k8 : PySem.W.keepIn K (.ref f8) = true)
    {f9 : Addr} {od9 an9 : Option Addr} {sl9 : Array (Option Value)} {oc9 kV9 dc9 pm9 cd9 ct9 : Value}
    (a9 : PySem.W.nsIn K mainGlobals "_law_values" = some (some (.ref f9)))
    (l9 : K.lookup f9 = some ⟨oc9, od9, .func (PySem.W.fnOf "_law_values" "_law_values" (C8.fnArgs s_values) (C8.fnBody s_values) (C8.fnScope s_values) .none kV9 dc9 pm9 an9 cd9 ct9), sl9⟩)
    (c9 : PySem.W.codeIn K cd9 "_law_values" = true)
    (k9 : PySem.W.keepIn K (.ref f9) = true)
    {f10 : Addr} {od10 an10 : Option Addr} {sl10 : Array (Option Value)} {oc10 kV10 dc10 pm10 cd10 ct10 : Value}
    (a10 : PySem.W.nsIn K mainGlobals "_law_has_fields" = some (some (.ref f10)))
    (l10 : K.lookup f10 = some ⟨oc10, od10, .func (PySem.W.fnOf "_law_has_fields" "_law_has_fields" (C8.fnArgs s_has_fields) (C8.fnBody s_has_fields) (C8.fnScope s_has_fields) .none kV10 dc10 pm10 an10 cd10 ct10), sl10⟩)
    (c10 : PySem.W.codeIn K cd10 "_law_has_fields" = true)
    (k10 : PySem.W.keepIn K (.ref f10) = true)
    {f11 : Addr} {od11 an11 : Option Addr} {sl11 : Array (Option Value)} {oc11 kV11 dc11 pm11 cd11 ct11 : Value}
    (a11 : PySem.W.nsIn K mainGlobals "law" = some (some (.ref f11)))
    (l11 : K.lookup f11 = some ⟨oc11, od11, .func (PySem.W.fnOf "law" "law" (C8.fnArgs s_law) (C8.fnBody s_law) (C8.fnScope s_law) .none kV11 dc11 pm11 an11 cd11 ct11), sl11⟩)
    (c11 : PySem.W.codeIn K cd11 "law" = true)
    (k11 : PySem.W.keepIn K (.ref f11) = true)
    (pg_tell : PySem.W.plainGet K A_tell Str.empty = true)
    (hd_tell : PySem.W.hasDictIn K A_tell = true)
    (po_tell : PySem.W.plainOver K A_tell = true)
    (sa_tell : PySem.W.findIn K (.ref A_tell) "__setattr__" = some (some (.builtin "object.__setattr__")))
    (ha_tell : PySem.W.findIn K (.ref A_tell) "__class__" = some (some (.builtin "object.__class__")))
    (mr_tell : PySem.W.mroIn K A_tell (.type "object") = some true)
    (na_tell_value : PySem.W.findIn K (.ref A_tell) "value" = some none)
    (na_tell_place : PySem.W.findIn K (.ref A_tell) "place" = some none)
    (na_tell_left : PySem.W.findIn K (.ref A_tell) "left" = some none)
    (na_tell_right : PySem.W.findIn K (.ref A_tell) "right" = some none)
    (na_tell_skip : PySem.W.findIn K (.ref A_tell) "skip" = some none)
    (na_tell_name : PySem.W.findIn K (.ref A_tell) "name" = some none)
    (na_tell_tag : PySem.W.findIn K (.ref A_tell) "tag" = some none)
    (kt_tell_tell : PySem.W.kitOne K (.ref A_tell) (.ref A_tell) = some true)
    (nf_tell_tell : PySem.W.notFirst K A_tell (.ref A_tell) = true)
    (kt_tell_put : PySem.W.kitOne K (.ref A_tell) (.ref A_put) = some false)
    (nf_tell_put : PySem.W.notFirst K A_tell (.ref A_put) = true)
    (kt_tell_same : PySem.W.kitOne K (.ref A_tell) (.ref A_same) = some false)
    (nf_tell_same : PySem.W.notFirst K A_tell (.ref A_same) = true)
    (kt_tell_there : PySem.W.kitOne K (.ref A_tell) (.ref A_there) = some false)
    (nf_tell_there : PySem.W.notFirst K A_tell (.ref A_there) = true)
    (kt_tell_call : PySem.W.kitOne K (.ref A_tell) (.ref A_call) = some false)
    (nf_tell_call : PySem.W.notFirst K A_tell (.ref A_call) = true)
    (kt_tell_fin : PySem.W.kitOne K (.ref A_tell) (.ref A_fin) = some false)
    (nf_tell_fin : PySem.W.notFirst K A_tell (.ref A_fin) = true)
    (ks_tell : PySem.W.kitOne K (.type "str") (.ref A_tell) = some false)
    (ns_tell : PySem.W.notFirst K A_tell (.type "str") = true)
    (pg_put : PySem.W.plainGet K A_put Str.empty = true)
    (hd_put : PySem.W.hasDictIn K A_put = true)
    (po_put : PySem.W.plainOver K A_put = true)
    (sa_put : PySem.W.findIn K (.ref A_put) "__setattr__" = some (some (.builtin "object.__setattr__")))
    (ha_put : PySem.W.findIn K (.ref A_put) "__class__" = some (some (.builtin "object.__class__")))
    (mr_put : PySem.W.mroIn K A_put (.type "object") = some true)
    (na_put_value : PySem.W.findIn K (.ref A_put) "value" = some none)
    (na_put_place : PySem.W.findIn K (.ref A_put) "place" = some none)
    (na_put_left : PySem.W.findIn K (.ref A_put) "left" = some none)
    (na_put_right : PySem.W.findIn K (.ref A_put) "right" = some none)
    (na_put_skip : PySem.W.findIn K (.ref A_put) "skip" = some none)
    (na_put_name : PySem.W.findIn K (.ref A_put) "name" = some none)
    (na_put_tag : PySem.W.findIn K (.ref A_put) "tag" = some none)
    (kt_put_tell : PySem.W.kitOne K (.ref A_put) (.ref A_tell) = some false)
    (nf_put_tell : PySem.W.notFirst K A_put (.ref A_tell) = true)
    (kt_put_put : PySem.W.kitOne K (.ref A_put) (.ref A_put) = some true)
    (nf_put_put : PySem.W.notFirst K A_put (.ref A_put) = true)
    (kt_put_same : PySem.W.kitOne K (.ref A_put) (.ref A_same) = some false)
    (nf_put_same : PySem.W.notFirst K A_put (.ref A_same) = true)
    (kt_put_there : PySem.W.kitOne K (.ref A_put) (.ref A_there) = some false)
    (nf_put_there : PySem.W.notFirst K A_put (.ref A_there) = true)
    (kt_put_call : PySem.W.kitOne K (.ref A_put) (.ref A_call) = some false)
    (nf_put_call : PySem.W.notFirst K A_put (.ref A_call) = true)
    (kt_put_fin : PySem.W.kitOne K (.ref A_put) (.ref A_fin) = some false)
    (nf_put_fin : PySem.W.notFirst K A_put (.ref A_fin) = true)
    (ks_put : PySem.W.kitOne K (.type "str") (.ref A_put) = some false)
    (ns_put : PySem.W.notFirst K A_put (.type "str") = true)
    (pg_same : PySem.W.plainGet K A_same Str.empty = true)
    (hd_same : PySem.W.hasDictIn K A_same = true)
    (po_same : PySem.W.plainOver K A_same = true)
    (sa_same : PySem.W.findIn K (.ref A_same) "__setattr__" = some (some (.builtin "object.__setattr__")))
    (ha_same : PySem.W.findIn K (.ref A_same) "__class__" = some (some (.builtin "object.__class__")))
    (mr_same : PySem.W.mroIn K A_same (.type "object") = some true)
    (na_same_value : PySem.W.findIn K (.ref A_same) "value" = some none)
    (na_same_place : PySem.W.findIn K (.ref A_same) "place" = some none)
    (na_same_left : PySem.W.findIn K (.ref A_same) "left" = some none)
    (na_same_right : PySem.W.findIn K (.ref A_same) "right" = some none)
    (na_same_skip : PySem.W.findIn K (.ref A_same) "skip" = some none)
    (na_same_name : PySem.W.findIn K (.ref A_same) "name" = some none)
    (na_same_tag : PySem.W.findIn K (.ref A_same) "tag" = some none)
    (kt_same_tell : PySem.W.kitOne K (.ref A_same) (.ref A_tell) = some false)
    (nf_same_tell : PySem.W.notFirst K A_same (.ref A_tell) = true)
    (kt_same_put : PySem.W.kitOne K (.ref A_same) (.ref A_put) = some false)
    (nf_same_put : PySem.W.notFirst K A_same (.ref A_put) = true)
    (kt_same_same : PySem.W.kitOne K (.ref A_same) (.ref A_same) = some true)
    (nf_same_same : PySem.W.notFirst K A_same (.ref A_same) = true)
    (kt_same_there : PySem.W.kitOne K (.ref A_same) (.ref A_there) = some false)
    (nf_same_there : PySem.W.notFirst K A_same (.ref A_there) = true)
    (kt_same_call : PySem.W.kitOne K (.ref A_same) (.ref A_call) = some false)
    (nf_same_call : PySem.W.notFirst K A_same (.ref A_call) = true)
    (kt_same_fin : PySem.W.kitOne K (.ref A_same) (.ref A_fin) = some false)
    (nf_same_fin : PySem.W.notFirst K A_same (.ref A_fin) = true)
    (ks_same : PySem.W.kitOne K (.type "str") (.ref A_same) = some false)
    (ns_same : PySem.W.notFirst K A_same (.type "str") = true)
    (pg_there : PySem.W.plainGet K A_there Str.empty = true)
    (hd_there : PySem.W.hasDictIn K A_there = true)
    (po_there : PySem.W.plainOver K A_there = true)
    (sa_there : PySem.W.findIn K (.ref A_there) "__setattr__" = some (some (.builtin "object.__setattr__")))
    (ha_there : PySem.W.findIn K (.ref A_there) "__class__" = some (some (.builtin "object.__class__")))
    (mr_there : PySem.W.mroIn K A_there (.type "object") = some true)
    (na_there_value : PySem.W.findIn K (.ref A_there) "value" = some none)
    (na_there_place : PySem.W.findIn K (.ref A_there) "place" = some none)
    (na_there_left : PySem.W.findIn K (.ref A_there) "left" = some none)
    (na_there_right : PySem.W.findIn K (.ref A_there) "right" = some none)
    (na_there_skip : PySem.W.findIn K (.ref A_there) "skip" = some none)
    (na_there_name : PySem.W.findIn K (.ref A_there) "name" = some none)
    (na_there_tag : PySem.W.findIn K (.ref A_there) "tag" = some none)
    (kt_there_tell : PySem.W.kitOne K (.ref A_there) (.ref A_tell) = some false)
    (nf_there_tell : PySem.W.notFirst K A_there (.ref A_tell) = true)
    (kt_there_put : PySem.W.kitOne K (.ref A_there) (.ref A_put) = some false)
    (nf_there_put : PySem.W.notFirst K A_there (.ref A_put) = true)
    (kt_there_same : PySem.W.kitOne K (.ref A_there) (.ref A_same) = some false)
    (nf_there_same : PySem.W.notFirst K A_there (.ref A_same) = true)
    (kt_there_there : PySem.W.kitOne K (.ref A_there) (.ref A_there) = some true)
    (nf_there_there : PySem.W.notFirst K A_there (.ref A_there) = true)
    (kt_there_call : PySem.W.kitOne K (.ref A_there) (.ref A_call) = some false)
    (nf_there_call : PySem.W.notFirst K A_there (.ref A_call) = true)
    (kt_there_fin : PySem.W.kitOne K (.ref A_there) (.ref A_fin) = some false)
    (nf_there_fin : PySem.W.notFirst K A_there (.ref A_fin) = true)
    (ks_there : PySem.W.kitOne K (.type "str") (.ref A_there) = some false)
    (ns_there : PySem.W.notFirst K A_there (.type "str") = true)
    (pg_call : PySem.W.plainGet K A_call Str.empty = true)
    (hd_call : PySem.W.hasDictIn K A_call = true)
    (po_call : PySem.W.plainOver K A_call = true)
    (sa_call : PySem.W.findIn K (.ref A_call) "__setattr__" = some (some (.builtin "object.__setattr__")))
    (ha_call : PySem.W.findIn K (.ref A_call) "__class__" = some (some (.builtin "object.__class__")))
    (mr_call : PySem.W.mroIn K A_call (.type "object") = some true)
    (na_call_value : PySem.W.findIn K (.ref A_call) "value" = some none)
    (na_call_place : PySem.W.findIn K (.ref A_call) "place" = some none)
    (na_call_left : PySem.W.findIn K (.ref A_call) "left" = some none)
    (na_call_right : PySem.W.findIn K (.ref A_call) "right" = some none)
    (na_call_skip : PySem.W.findIn K (.ref A_call) "skip" = some none)
    (na_call_name : PySem.W.findIn K (.ref A_call) "name" = some none)
    (na_call_tag : PySem.W.findIn K (.ref A_call) "tag" = some none)
    (kt_call_tell : PySem.W.kitOne K (.ref A_call) (.ref A_tell) = some false)
    (nf_call_tell : PySem.W.notFirst K A_call (.ref A_tell) = true)
    (kt_call_put : PySem.W.kitOne K (.ref A_call) (.ref A_put) = some false)
    (nf_call_put : PySem.W.notFirst K A_call (.ref A_put) = true)
    (kt_call_same : PySem.W.kitOne K (.ref A_call) (.ref A_same) = some false)
    (nf_call_same : PySem.W.notFirst K A_call (.ref A_same) = true)
    (kt_call_there : PySem.W.kitOne K (.ref A_call) (.ref A_there) = some false)
    (nf_call_there : PySem.W.notFirst K A_call (.ref A_there) = true)
    (kt_call_call : PySem.W.kitOne K (.ref A_call) (.ref A_call) = some true)
    (nf_call_call : PySem.W.notFirst K A_call (.ref A_call) = true)
    (kt_call_fin : PySem.W.kitOne K (.ref A_call) (.ref A_fin) = some false)
    (nf_call_fin : PySem.W.notFirst K A_call (.ref A_fin) = true)
    (ks_call : PySem.W.kitOne K (.type "str") (.ref A_call) = some false)
    (ns_call : PySem.W.notFirst K A_call (.type "str") = true)
    (pg_fin : PySem.W.plainGet K A_fin Str.empty = true)
    (hd_fin : PySem.W.hasDictIn K A_fin = true)
    (po_fin : PySem.W.plainOver K A_fin = true)
    (sa_fin : PySem.W.findIn K (.ref A_fin) "__setattr__" = some (some (.builtin "object.__setattr__")))
    (ha_fin : PySem.W.findIn K (.ref A_fin) "__class__" = some (some (.builtin "object.__class__")))
    (mr_fin : PySem.W.mroIn K A_fin (.type "object") = some true)
    (na_fin_value : PySem.W.findIn K (.ref A_fin) "value" = some none)
    (na_fin_place : PySem.W.findIn K (.ref A_fin) "place" = some none)
    (na_fin_left : PySem.W.findIn K (.ref A_fin) "left" = some none)
    (na_fin_right : PySem.W.findIn K (.ref A_fin) "right" = some none)
    (na_fin_skip : PySem.W.findIn K (.ref A_fin) "skip" = some none)
    (na_fin_name : PySem.W.findIn K (.ref A_fin) "name" = some none)
    (na_fin_tag : PySem.W.findIn K (.ref A_fin) "tag" = some none)
    (kt_fin_tell : PySem.W.kitOne K (.ref A_fin) (.ref A_tell) = some false)
    (nf_fin_tell : PySem.W.notFirst K A_fin (.ref A_tell) = true)
    (kt_fin_put : PySem.W.kitOne K (.ref A_fin) (.ref A_put) = some false)
    (nf_fin_put : PySem.W.notFirst K A_fin (.ref A_put) = true)
    (kt_fin_same : PySem.W.kitOne K (.ref A_fin) (.ref A_same) = some false)
    (nf_fin_same : PySem.W.notFirst K A_fin (.ref A_same) = true)
    (kt_fin_there : PySem.W.kitOne K (.ref A_fin) (.ref A_there) = some false)
    (nf_fin_there : PySem.W.notFirst K A_fin (.ref A_there) = true)
    (kt_fin_call : PySem.W.kitOne K (.ref A_fin) (.ref A_call) = some false)
    (nf_fin_call : PySem.W.notFirst K A_fin (.ref A_call) = true)
    (kt_fin_fin : PySem.W.kitOne K (.ref A_fin) (.ref A_fin) = some true)
    (nf_fin_fin : PySem.W.notFirst K A_fin (.ref A_fin) = true)
    (ks_fin : PySem.W.kitOne K (.type "str") (.ref A_fin) = some false)
    (ns_fin : PySem.W.notFirst K A_fin (.type "str") = true)
    (hn : PySem.W.specialIn K (.builtin "object.__class__") "__get__" = some (some (.builtin "getset_descriptor.__get__")))
    (htk : PySem.W.takesIn K (.builtin "object.__class__") = some true)
    {f12 : Addr} {od12 an12 : Option Addr} {sl12 : Array (Option Value)} {oc12 kV12 dc12 pm12 cd12 ct12 : Value}
    (a12 : PySem.W.findIn K (.ref A_tell) "__eq__" = some (some (.ref f12)))
    (l12 : K.lookup f12 = some ⟨oc12, od12, .func (PySem.W.fnOf "__eq__" "Tell.__eq__" (C8.fnArgs s_Tell_eq) (C8.fnBody s_Tell_eq) (C8.fnScope s_Tell_eq) .none kV12 dc12 pm12 an12 cd12 ct12), sl12⟩)
    (c12 : PySem.W.codeIn K cd12 "Tell.__eq__" = true)
    (fn12 : PySem.W.isFn K (.ref f12) = true)
    (k12 : PySem.W.keepIn K (.ref f12) = true)
    {f13 : Addr} {od13 an13 : Option Addr} {sl13 : Array (Option Value)} {oc13 kV13 dc13 pm13 cd13 ct13 : Value}
    (a13 : PySem.W.findIn K (.ref A_tell) "text" = some (some (.ref f13)))
    (l13 : K.lookup f13 = some ⟨oc13, od13, .func (PySem.W.fnOf "text" "Tell.text" (C8.fnArgs s_Tell_text) (C8.fnBody s_Tell_text) (C8.fnScope s_Tell_text) .none kV13 dc13 pm13 an13 cd13 ct13), sl13⟩)
    (c13 : PySem.W.codeIn K cd13 "Tell.text" = true)
    (fn13 : PySem.W.isFn K (.ref f13) = true)
    (k13 : PySem.W.keepIn K (.ref f13) = true)
    {f14 : Addr} {od14 an14 : Option Addr} {sl14 : Array (Option Value)} {oc14 kV14 dc14 pm14 cd14 ct14 : Value}
    (a14 : PySem.W.findIn K (.ref A_tell) "operands" = some (some (.ref f14)))
    (l14 : K.lookup f14 = some ⟨oc14, od14, .func (PySem.W.fnOf "operands" "Tell.operands" (C8.fnArgs s_Tell_operands) (C8.fnBody s_Tell_operands) (C8.fnScope s_Tell_operands) .none kV14 dc14 pm14 an14 cd14 ct14), sl14⟩)
    (c14 : PySem.W.codeIn K cd14 "Tell.operands" = true)
    (fn14 : PySem.W.isFn K (.ref f14) = true)
    (k14 : PySem.W.keepIn K (.ref f14) = true)
    {f15 : Addr} {od15 an15 : Option Addr} {sl15 : Array (Option Value)} {oc15 kV15 dc15 pm15 cd15 ct15 : Value}
    (a15 : PySem.W.findIn K (.ref A_put) "__eq__" = some (some (.ref f15)))
    (l15 : K.lookup f15 = some ⟨oc15, od15, .func (PySem.W.fnOf "__eq__" "Put.__eq__" (C8.fnArgs s_Put_eq) (C8.fnBody s_Put_eq) (C8.fnScope s_Put_eq) .none kV15 dc15 pm15 an15 cd15 ct15), sl15⟩)
    (c15 : PySem.W.codeIn K cd15 "Put.__eq__" = true)
    (fn15 : PySem.W.isFn K (.ref f15) = true)
    (k15 : PySem.W.keepIn K (.ref f15) = true)
    {f16 : Addr} {od16 an16 : Option Addr} {sl16 : Array (Option Value)} {oc16 kV16 dc16 pm16 cd16 ct16 : Value}
    (a16 : PySem.W.findIn K (.ref A_put) "text" = some (some (.ref f16)))
    (l16 : K.lookup f16 = some ⟨oc16, od16, .func (PySem.W.fnOf "text" "Put.text" (C8.fnArgs s_Put_text) (C8.fnBody s_Put_text) (C8.fnScope s_Put_text) .none kV16 dc16 pm16 an16 cd16 ct16), sl16⟩)
    (c16 : PySem.W.codeIn K cd16 "Put.text" = true)
    (fn16 : PySem.W.isFn K (.ref f16) = true)
    (k16 : PySem.W.keepIn K (.ref f16) = true)
    {f17 : Addr} {od17 an17 : Option Addr} {sl17 : Array (Option Value)} {oc17 kV17 dc17 pm17 cd17 ct17 : Value}
    (a17 : PySem.W.findIn K (.ref A_put) "operands" = some (some (.ref f17)))
    (l17 : K.lookup f17 = some ⟨oc17, od17, .func (PySem.W.fnOf "operands" "Put.operands" (C8.fnArgs s_Put_operands) (C8.fnBody s_Put_operands) (C8.fnScope s_Put_operands) .none kV17 dc17 pm17 an17 cd17 ct17), sl17⟩)
    (c17 : PySem.W.codeIn K cd17 "Put.operands" = true)
    (fn17 : PySem.W.isFn K (.ref f17) = true)
    (k17 : PySem.W.keepIn K (.ref f17) = true)
    {f18 : Addr} {od18 an18 : Option Addr} {sl18 : Array (Option Value)} {oc18 kV18 dc18 pm18 cd18 ct18 : Value}
    (a18 : PySem.W.findIn K (.ref A_same) "__eq__" = some (some (.ref f18)))
    (l18 : K.lookup f18 = some ⟨oc18, od18, .func (PySem.W.fnOf "__eq__" "Same.__eq__" (C8.fnArgs s_Same_eq) (C8.fnBody s_Same_eq) (C8.fnScope s_Same_eq) .none kV18 dc18 pm18 an18 cd18 ct18), sl18⟩)
    (c18 : PySem.W.codeIn K cd18 "Same.__eq__" = true)
    (fn18 : PySem.W.isFn K (.ref f18) = true)
    (k18 : PySem.W.keepIn K (.ref f18) = true)
    {f19 : Addr} {od19 an19 : Option Addr} {sl19 : Array (Option Value)} {oc19 kV19 dc19 pm19 cd19 ct19 : Value}
    (a19 : PySem.W.findIn K (.ref A_same) "text" = some (some (.ref f19)))
    (l19 : K.lookup f19 = some ⟨oc19, od19, .func (PySem.W.fnOf "text" "Same.text" (C8.fnArgs s_Same_text) (C8.fnBody s_Same_text) (C8.fnScope s_Same_text) .none kV19 dc19 pm19 an19 cd19 ct19), sl19⟩)
    (c19 : PySem.W.codeIn K cd19 "Same.text" = true)
    (fn19 : PySem.W.isFn K (.ref f19) = true)
    (k19 : PySem.W.keepIn K (.ref f19) = true)
    {f20 : Addr} {od20 an20 : Option Addr} {sl20 : Array (Option Value)} {oc20 kV20 dc20 pm20 cd20 ct20 : Value}
    (a20 : PySem.W.findIn K (.ref A_same) "operands" = some (some (.ref f20)))
    (l20 : K.lookup f20 = some ⟨oc20, od20, .func (PySem.W.fnOf "operands" "Same.operands" (C8.fnArgs s_Same_operands) (C8.fnBody s_Same_operands) (C8.fnScope s_Same_operands) .none kV20 dc20 pm20 an20 cd20 ct20), sl20⟩)
    (c20 : PySem.W.codeIn K cd20 "Same.operands" = true)
    (fn20 : PySem.W.isFn K (.ref f20) = true)
    (k20 : PySem.W.keepIn K (.ref f20) = true)
    {f21 : Addr} {od21 an21 : Option Addr} {sl21 : Array (Option Value)} {oc21 kV21 dc21 pm21 cd21 ct21 : Value}
    (a21 : PySem.W.findIn K (.ref A_there) "__eq__" = some (some (.ref f21)))
    (l21 : K.lookup f21 = some ⟨oc21, od21, .func (PySem.W.fnOf "__eq__" "There.__eq__" (C8.fnArgs s_There_eq) (C8.fnBody s_There_eq) (C8.fnScope s_There_eq) .none kV21 dc21 pm21 an21 cd21 ct21), sl21⟩)
    (c21 : PySem.W.codeIn K cd21 "There.__eq__" = true)
    (fn21 : PySem.W.isFn K (.ref f21) = true)
    (k21 : PySem.W.keepIn K (.ref f21) = true)
    {f22 : Addr} {od22 an22 : Option Addr} {sl22 : Array (Option Value)} {oc22 kV22 dc22 pm22 cd22 ct22 : Value}
    (a22 : PySem.W.findIn K (.ref A_there) "text" = some (some (.ref f22)))
    (l22 : K.lookup f22 = some ⟨oc22, od22, .func (PySem.W.fnOf "text" "There.text" (C8.fnArgs s_There_text) (C8.fnBody s_There_text) (C8.fnScope s_There_text) .none kV22 dc22 pm22 an22 cd22 ct22), sl22⟩)
    (c22 : PySem.W.codeIn K cd22 "There.text" = true)
    (fn22 : PySem.W.isFn K (.ref f22) = true)
    (k22 : PySem.W.keepIn K (.ref f22) = true)
    {f23 : Addr} {od23 an23 : Option Addr} {sl23 : Array (Option Value)} {oc23 kV23 dc23 pm23 cd23 ct23 : Value}
    (a23 : PySem.W.findIn K (.ref A_there) "operands" = some (some (.ref f23)))
    (l23 : K.lookup f23 = some ⟨oc23, od23, .func (PySem.W.fnOf "operands" "There.operands" (C8.fnArgs s_There_operands) (C8.fnBody s_There_operands) (C8.fnScope s_There_operands) .none kV23 dc23 pm23 an23 cd23 ct23), sl23⟩)
    (c23 : PySem.W.codeIn K cd23 "There.operands" = true)
    (fn23 : PySem.W.isFn K (.ref f23) = true)
    (k23 : PySem.W.keepIn K (.ref f23) = true)
    {f24 : Addr} {od24 an24 : Option Addr} {sl24 : Array (Option Value)} {oc24 kV24 dc24 pm24 cd24 ct24 : Value}
    (a24 : PySem.W.findIn K (.ref A_call) "__eq__" = some (some (.ref f24)))
    (l24 : K.lookup f24 = some ⟨oc24, od24, .func (PySem.W.fnOf "__eq__" "Call.__eq__" (C8.fnArgs s_Call_eq) (C8.fnBody s_Call_eq) (C8.fnScope s_Call_eq) .none kV24 dc24 pm24 an24 cd24 ct24), sl24⟩)
    (c24 : PySem.W.codeIn K cd24 "Call.__eq__" = true)
    (fn24 : PySem.W.isFn K (.ref f24) = true)
    (k24 : PySem.W.keepIn K (.ref f24) = true)
    {f25 : Addr} {od25 an25 : Option Addr} {sl25 : Array (Option Value)} {oc25 kV25 dc25 pm25 cd25 ct25 : Value}
    (a25 : PySem.W.findIn K (.ref A_call) "text" = some (some (.ref f25)))
    (l25 : K.lookup f25 = some ⟨oc25, od25, .func (PySem.W.fnOf "text" "Call.text" (C8.fnArgs s_Call_text) (C8.fnBody s_Call_text) (C8.fnScope s_Call_text) .none kV25 dc25 pm25 an25 cd25 ct25), sl25⟩)
    (c25 : PySem.W.codeIn K cd25 "Call.text" = true)
    (fn25 : PySem.W.isFn K (.ref f25) = true)
    (k25 : PySem.W.keepIn K (.ref f25) = true)
    {f26 : Addr} {od26 an26 : Option Addr} {sl26 : Array (Option Value)} {oc26 kV26 dc26 pm26 cd26 ct26 : Value}
    (a26 : PySem.W.findIn K (.ref A_call) "operands" = some (some (.ref f26)))
    (l26 : K.lookup f26 = some ⟨oc26, od26, .func (PySem.W.fnOf "operands" "Call.operands" (C8.fnArgs s_Call_operands) (C8.fnBody s_Call_operands) (C8.fnScope s_Call_operands) .none kV26 dc26 pm26 an26 cd26 ct26), sl26⟩)
    (c26 : PySem.W.codeIn K cd26 "Call.operands" = true)
    (fn26 : PySem.W.isFn K (.ref f26) = true)
    (k26 : PySem.W.keepIn K (.ref f26) = true)
    {f27 : Addr} {od27 an27 : Option Addr} {sl27 : Array (Option Value)} {oc27 kV27 dc27 pm27 cd27 ct27 : Value}
    (a27 : PySem.W.findIn K (.ref A_fin) "__eq__" = some (some (.ref f27)))
    (l27 : K.lookup f27 = some ⟨oc27, od27, .func (PySem.W.fnOf "__eq__" "End.__eq__" (C8.fnArgs s_End_eq) (C8.fnBody s_End_eq) (C8.fnScope s_End_eq) .none kV27 dc27 pm27 an27 cd27 ct27), sl27⟩)
    (c27 : PySem.W.codeIn K cd27 "End.__eq__" = true)
    (fn27 : PySem.W.isFn K (.ref f27) = true)
    (k27 : PySem.W.keepIn K (.ref f27) = true)
    {f28 : Addr} {od28 an28 : Option Addr} {sl28 : Array (Option Value)} {oc28 kV28 dc28 pm28 cd28 ct28 : Value}
    (a28 : PySem.W.findIn K (.ref A_fin) "text" = some (some (.ref f28)))
    (l28 : K.lookup f28 = some ⟨oc28, od28, .func (PySem.W.fnOf "text" "End.text" (C8.fnArgs s_End_text) (C8.fnBody s_End_text) (C8.fnScope s_End_text) .none kV28 dc28 pm28 an28 cd28 ct28), sl28⟩)
    (c28 : PySem.W.codeIn K cd28 "End.text" = true)
    (fn28 : PySem.W.isFn K (.ref f28) = true)
    (k28 : PySem.W.keepIn K (.ref f28) = true)
    {f29 : Addr} {od29 an29 : Option Addr} {sl29 : Array (Option Value)} {oc29 kV29 dc29 pm29 cd29 ct29 : Value}
    (a29 : PySem.W.findIn K (.ref A_fin) "operands" = some (some (.ref f29)))
    (l29 : K.lookup f29 = some ⟨oc29, od29, .func (PySem.W.fnOf "operands" "End.operands" (C8.fnArgs s_End_operands) (C8.fnBody s_End_operands) (C8.fnScope s_End_operands) .none kV29 dc29 pm29 an29 cd29 ct29), sl29⟩)
    (c29 : PySem.W.codeIn K cd29 "End.operands" = true)
    (fn29 : PySem.W.isFn K (.ref f29) = true)
    (k29 : PySem.W.keepIn K (.ref f29) = true)
    {f30 : Addr} {od30 an30 : Option Addr} {sl30 : Array (Option Value)} {oc30 kV30 dc30 pm30 cd30 ct30 : Value}
    (a30 : PySem.W.findIn K (.ref A_tell) "__init__" = some (some (.ref f30)))
    (l30 : K.lookup f30 = some ⟨oc30, od30, .func (PySem.W.fnOf "__init__" "Tell.__init__" (C8.fnArgs s_Tell_init) (C8.fnBody s_Tell_init) (C8.fnScope s_Tell_init) .none kV30 dc30 pm30 an30 cd30 ct30), sl30⟩)
    (c30 : PySem.W.codeIn K cd30 "Tell.__init__" = true)
    (fn30 : PySem.W.isFn K (.ref f30) = true)
    (k30 : PySem.W.keepIn K (.ref A_tell) = true)
    (mk30 : PySem.W.makesIn K A_tell = true)
    {f31 : Addr} {od31 an31 : Option Addr} {sl31 : Array (Option Value)} {oc31 kV31 dc31 pm31 cd31 ct31 : Value}
    (a31 : PySem.W.findIn K (.ref A_put) "__init__" = some (some (.ref f31)))
    (l31 : K.lookup f31 = some ⟨oc31, od31, .func (PySem.W.fnOf "__init__" "Put.__init__" (C8.fnArgs s_Put_init) (C8.fnBody s_Put_init) (C8.fnScope s_Put_init) .none kV31 dc31 pm31 an31 cd31 ct31), sl31⟩)
    (c31 : PySem.W.codeIn K cd31 "Put.__init__" = true)
    (fn31 : PySem.W.isFn K (.ref f31) = true)
    (k31 : PySem.W.keepIn K (.ref A_put) = true)
    (mk31 : PySem.W.makesIn K A_put = true)
    {f32 : Addr} {od32 an32 : Option Addr} {sl32 : Array (Option Value)} {oc32 kV32 dc32 pm32 cd32 ct32 : Value}
    (a32 : PySem.W.findIn K (.ref A_same) "__init__" = some (some (.ref f32)))
    (l32 : K.lookup f32 = some ⟨oc32, od32, .func (PySem.W.fnOf "__init__" "Same.__init__" (C8.fnArgs s_Same_init) (C8.fnBody s_Same_init) (C8.fnScope s_Same_init) .none kV32 dc32 pm32 an32 cd32 ct32), sl32⟩)
    (c32 : PySem.W.codeIn K cd32 "Same.__init__" = true)
    (fn32 : PySem.W.isFn K (.ref f32) = true)
    (k32 : PySem.W.keepIn K (.ref A_same) = true)
    (mk32 : PySem.W.makesIn K A_same = true)
    {f33 : Addr} {od33 an33 : Option Addr} {sl33 : Array (Option Value)} {oc33 kV33 dc33 pm33 cd33 ct33 : Value}
    (a33 : PySem.W.findIn K (.ref A_there) "__init__" = some (some (.ref f33)))
    (l33 : K.lookup f33 = some ⟨oc33, od33, .func (PySem.W.fnOf "__init__" "There.__init__" (C8.fnArgs s_There_init) (C8.fnBody s_There_init) (C8.fnScope s_There_init) .none kV33 dc33 pm33 an33 cd33 ct33), sl33⟩)
    (c33 : PySem.W.codeIn K cd33 "There.__init__" = true)
    (fn33 : PySem.W.isFn K (.ref f33) = true)
    (k33 : PySem.W.keepIn K (.ref A_there) = true)
    (mk33 : PySem.W.makesIn K A_there = true)
    {f34 : Addr} {od34 an34 : Option Addr} {sl34 : Array (Option Value)} {oc34 kV34 dc34 pm34 cd34 ct34 : Value}
    {DT : Addr} {dod : Option Addr} {doc : Value} {dn dtk : Nat} {dsl : Array (Option Value)}
    (a34 : PySem.W.findIn K (.ref A_call) "__init__" = some (some (.ref f34)))
    (l34 : K.lookup f34 = some ⟨oc34, od34, .func (PySem.W.fnOf "__init__" "Call.__init__" (C8.fnArgs s_Call_init) (C8.fnBody s_Call_init) (C8.fnScope s_Call_init) (.ref DT) kV34 dc34 pm34 an34 cd34 ct34), sl34⟩)
    (ldt : K.lookup DT = some ⟨doc, dod, .seq [Value.int 0 dtk].toArray dn, dsl⟩)
    (c34 : PySem.W.codeIn K cd34 "Call.__init__" = true)
    (fn34 : PySem.W.isFn K (.ref f34) = true)
    (k34 : PySem.W.keepIn K (.ref A_call) = true)
    (mk34 : PySem.W.makesIn K A_call = true)
    (e_mk : PySem.W.makesIn K A_fin = true)
    (e_in : PySem.W.findIn K (.ref A_fin) "__init__" = some (some (.builtin "object.__init__")))
    (e_kp : PySem.W.keepIn K (.ref A_fin) = true)
    (z_len : PySem.W.nsIn K mainGlobals "len" = some none)
    (z_int : PySem.W.nsIn K mainGlobals "int" = some none)
    (z_tuple : PySem.W.nsIn K mainGlobals "tuple" = some none)
    (z_list : PySem.W.nsIn K mainGlobals "list" = some none)
    (z_range : PySem.W.nsIn K mainGlobals "range" = some none)
    (z_isinstance : PySem.W.nsIn K mainGlobals "isinstance" = some none)
    (z_str : PySem.W.nsIn K mainGlobals "str" = some none)
    (z_abs : PySem.W.nsIn K mainGlobals "abs" = some none) : ∃ A, Top K mg A := by
  have cl_tell : Cls K A_tell := ⟨pg_tell, hd_tell, po_tell, sa_tell⟩
  have cl_put : Cls K A_put := ⟨pg_put, hd_put, po_put, sa_put⟩
  have cl_same : Cls K A_same := ⟨pg_same, hd_same, po_same, sa_same⟩
  have cl_there : Cls K A_there := ⟨pg_there, hd_there, po_there, sa_there⟩
  have cl_call : Cls K A_call := ⟨pg_call, hd_call, po_call, sa_call⟩
  have cl_fin : Cls K A_fin := ⟨pg_fin, hd_fin, po_fin, sa_fin⟩
  refine ⟨fun k => match k with | .tell => A_tell | .put => A_put | .same => A_same | .there => A_there | .call => A_call | .fin => A_fin, ?_⟩
  exact ⟨dd_mk X G a0 l0 c0 k0 (fun _ _ _ _ _ _ us hl => match us, hl with | [_], _ => rfl),
   dd_mk X G a1 l1 c1 k1 (fun _ _ _ _ _ _ us hl => match us, hl with | [_, _], _ => rfl),
   dd_mk X G a2 l2 c2 k2 (fun _ _ _ _ _ _ us hl => match us, hl with | [_, _], _ => rfl),
   dd_mk X G a3 l3 c3 k3 (fun _ _ _ _ _ _ us hl => match us, hl with | [_], _ => rfl),
   dd_mk X G a4 l4 c4 k4 (fun _ _ _ _ _ _ us hl => match us, hl with | [_], _ => rfl),
   dd_mk X G a5 l5 c5 k5 (fun _ _ _ _ _ _ us hl => match us, hl with | [_], _ => rfl),
   dd_mk X G a6 l6 c6 k6 (fun _ _ _ _ _ _ us hl => match us, hl with | [_], _ => rfl),
   dd_mk X G a7 l7 c7 k7 (fun _ _ _ _ _ _ us hl => match us, hl with | [_], _ => rfl),
   dd_mk X G a8 l8 c8 k8 (fun _ _ _ _ _ _ us hl => match us, hl with | [_], _ => rfl),
   dd_mk X G a9 l9 c9 k9 (fun _ _ _ _ _ _ us hl => match us, hl with | [_], _ => rfl),
   dd_mk X G a10 l10 c10 k10 (fun _ _ _ _ _ _ us hl => match us, hl with | [_, _], _ => rfl),
   dd_mk X G a11 l11 c11 k11 (fun _ _ _ _ _ _ us hl => match us, hl with | [_], _ => rfl),
   ⟨_, _, cl_tell, ⟨a12, fn12, k12⟩, ⟨_, _, _, _, _, _, _, _, _, _, rfl, l12, c12⟩, .all (fun us hl => match us, hl with | [_, _], _ => rfl)⟩,
   ⟨_, _, cl_tell, ⟨a13, fn13, k13⟩, ⟨_, _, _, _, _, _, _, _, _, _, rfl, l13, c13⟩, .all (fun us hl => match us, hl with | [_], _ => rfl)⟩,
   ⟨_, _, cl_tell, ⟨a14, fn14, k14⟩, ⟨_, _, _, _, _, _, _, _, _, _, rfl, l14, c14⟩, .all (fun us hl => match us, hl with | [_], _ => rfl)⟩,
   ⟨_, _, cl_put, ⟨a15, fn15, k15⟩, ⟨_, _, _, _, _, _, _, _, _, _, rfl, l15, c15⟩, .all (fun us hl => match us, hl with | [_, _], _ => rfl)⟩,
   ⟨_, _, cl_put, ⟨a16, fn16, k16⟩, ⟨_, _, _, _, _, _, _, _, _, _, rfl, l16, c16⟩, .all (fun us hl => match us, hl with | [_], _ => rfl)⟩,
   ⟨_, _, cl_put, ⟨a17, fn17, k17⟩, ⟨_, _, _, _, _, _, _, _, _, _, rfl, l17, c17⟩, .all (fun us hl => match us, hl with | [_], _ => rfl)⟩,
   ⟨_, _, cl_same, ⟨a18, fn18, k18⟩, ⟨_, _, _, _, _, _, _, _, _, _, rfl, l18, c18⟩, .all (fun us hl => match us, hl with | [_, _], _ => rfl)⟩,
   ⟨_, _, cl_same, ⟨a19, fn19, k19⟩, ⟨_, _, _, _, _, _, _, _, _, _, rfl, l19, c19⟩, .all (fun us hl => match us, hl with | [_], _ => rfl)⟩,
   ⟨_, _, cl_same, ⟨a20, fn20, k20⟩, ⟨_, _, _, _, _, _, _, _, _, _, rfl, l20, c20⟩, .all (fun us hl => match us, hl with | [_], _ => rfl)⟩,
   ⟨_, _, cl_there, ⟨a21, fn21, k21⟩, ⟨_, _, _, _, _, _, _, _, _, _, rfl, l21, c21⟩, .all (fun us hl => match us, hl with | [_, _], _ => rfl)⟩,
   ⟨_, _, cl_there, ⟨a22, fn22, k22⟩, ⟨_, _, _, _, _, _, _, _, _, _, rfl, l22, c22⟩, .all (fun us hl => match us, hl with | [_], _ => rfl)⟩,
   ⟨_, _, cl_there, ⟨a23, fn23, k23⟩, ⟨_, _, _, _, _, _, _, _, _, _, rfl, l23, c23⟩, .all (fun us hl => match us, hl with | [_], _ => rfl)⟩,
   ⟨_, _, cl_call, ⟨a24, fn24, k24⟩, ⟨_, _, _, _, _, _, _, _, _, _, rfl, l24, c24⟩, .all (fun us hl => match us, hl with | [_, _], _ => rfl)⟩,
   ⟨_, _, cl_call, ⟨a25, fn25, k25⟩, ⟨_, _, _, _, _, _, _, _, _, _, rfl, l25, c25⟩, .all (fun us hl => match us, hl with | [_], _ => rfl)⟩,
   ⟨_, _, cl_call, ⟨a26, fn26, k26⟩, ⟨_, _, _, _, _, _, _, _, _, _, rfl, l26, c26⟩, .all (fun us hl => match us, hl with | [_], _ => rfl)⟩,
   ⟨_, _, cl_fin, ⟨a27, fn27, k27⟩, ⟨_, _, _, _, _, _, _, _, _, _, rfl, l27, c27⟩, .all (fun us hl => match us, hl with | [_, _], _ => rfl)⟩,
   ⟨_, _, cl_fin, ⟨a28, fn28, k28⟩, ⟨_, _, _, _, _, _, _, _, _, _, rfl, l28, c28⟩, .all (fun us hl => match us, hl with | [_], _ => rfl)⟩,
   ⟨_, _, cl_fin, ⟨a29, fn29, k29⟩, ⟨_, _, _, _, _, _, _, _, _, _, rfl, l29, c29⟩, .all (fun us hl => match us, hl with | [_], _ => rfl)⟩,
   ⟨_, _, [], ⟨mk30, a30, fn30, k30⟩, PySem.W.mg_of X G ga_tell, ⟨_, _, _, _, _, _, _, _, _, _, rfl, l30, c30⟩, .all (fun us hl => match us, hl with | [u0, u1], _ => rfl), .nil⟩,
   ⟨_, _, [], ⟨mk31, a31, fn31, k31⟩, PySem.W.mg_of X G ga_put, ⟨_, _, _, _, _, _, _, _, _, _, rfl, l31, c31⟩, .all (fun us hl => match us, hl with | [u0, u1, u2], _ => rfl), .nil⟩,
   ⟨_, _, [], ⟨mk32, a32, fn32, k32⟩, PySem.W.mg_of X G ga_same, ⟨_, _, _, _, _, _, _, _, _, _, rfl, l32, c32⟩, .all (fun us hl => match us, hl with | [u0, u1, u2, u3], _ => rfl), .nil⟩,
   ⟨_, _, [], ⟨mk33, a33, fn33, k33⟩, PySem.W.mg_of X G ga_there, ⟨_, _, _, _, _, _, _, _, _, _, rfl, l33, c33⟩, .all (fun us hl => match us, hl with | [u0, u1, u2], _ => rfl), .nil⟩,
   ⟨_, _, [], ⟨mk34, a34, fn34, k34⟩, PySem.W.mg_of X G ga_call, ⟨_, _, _, _, _, _, _, _, _, _, rfl, l34, c34⟩, fun s us Y hl => L2.BindsTo.of_looks fun M => (match us, hl with | [u0, u1, u2, u3], _ => looks_items Y ldt rfl (.of_pure rfl)), .nil⟩,
   ⟨_, _, [Value.int 0 dtk], ⟨mk34, a34, fn34, k34⟩, PySem.W.mg_of X G ga_call, ⟨_, _, _, _, _, _, _, _, _, _, rfl, l34, c34⟩, fun s us Y hl => L2.BindsTo.of_looks fun M => (have hl2 : us.length = 3 := by simpa using hl
     match us, hl2 with | [u0, u1, u2], _ => looks_items Y ldt rfl (.of_pure rfl)), .cons ⟨_, rfl⟩ .nil⟩,
   PySem.W.mg_of X G ga_tell,
   PySem.W.mg_of X G ga_put,
   PySem.W.mg_of X G ga_same,
   PySem.W.mg_of X G ga_there,
   PySem.W.mg_of X G ga_call,
   PySem.W.mg_of X G ga_fin,
   e_mk,
   e_in,
   e_kp,
   fun k => by cases k; exact ⟨cl_tell, ha_tell, hn, htk, mr_tell, kt_tell_tell⟩; exact ⟨cl_put, ha_put, hn, htk, mr_put, kt_put_put⟩; exact ⟨cl_same, ha_same, hn, htk, mr_same, kt_same_same⟩; exact ⟨cl_there, ha_there, hn, htk, mr_there, kt_there_there⟩; exact ⟨cl_call, ha_call, hn, htk, mr_call, kt_call_call⟩; exact ⟨cl_fin, ha_fin, hn, htk, mr_fin, kt_fin_fin⟩,
   fun k j => by cases k <;> cases j; exact kt_tell_tell; exact kt_tell_put; exact kt_tell_same; exact kt_tell_there; exact kt_tell_call; exact kt_tell_fin; exact kt_put_tell; exact kt_put_put; exact kt_put_same; exact kt_put_there; exact kt_put_call; exact kt_put_fin; exact kt_same_tell; exact kt_same_put; exact kt_same_same; exact kt_same_there; exact kt_same_call; exact kt_same_fin; exact kt_there_tell; exact kt_there_put; exact kt_there_same; exact kt_there_there; exact kt_there_call; exact kt_there_fin; exact kt_call_tell; exact kt_call_put; exact kt_call_same; exact kt_call_there; exact kt_call_call; exact kt_call_fin; exact kt_fin_tell; exact kt_fin_put; exact kt_fin_same; exact kt_fin_there; exact kt_fin_call; exact kt_fin_fin,
   fun k => by cases k; exact ks_tell; exact ks_put; exact ks_same; exact ks_there; exact ks_call; exact ks_fin,
   fun k j => by cases k <;> cases j; exact nf_tell_tell; exact nf_tell_put; exact nf_tell_same; exact nf_tell_there; exact nf_tell_call; exact nf_tell_fin; exact nf_put_tell; exact nf_put_put; exact nf_put_same; exact nf_put_there; exact nf_put_call; exact nf_put_fin; exact nf_same_tell; exact nf_same_put; exact nf_same_same; exact nf_same_there; exact nf_same_call; exact nf_same_fin; exact nf_there_tell; exact nf_there_put; exact nf_there_same; exact nf_there_there; exact nf_there_call; exact nf_there_fin; exact nf_call_tell; exact nf_call_put; exact nf_call_same; exact nf_call_there; exact nf_call_call; exact nf_call_fin; exact nf_fin_tell; exact nf_fin_put; exact nf_fin_same; exact nf_fin_there; exact nf_fin_call; exact nf_fin_fin,
   fun k => by cases k; exact ns_tell; exact ns_put; exact ns_same; exact ns_there; exact ns_call; exact ns_fin,
   fun k f hf => by
      simp only [List.mem_cons, List.not_mem_nil, or_false] at hf
      cases k <;> rcases hf with rfl | rfl | rfl | rfl | rfl | rfl | rfl
      exact ⟨cl_tell, na_tell_value⟩
      exact ⟨cl_tell, na_tell_place⟩
      exact ⟨cl_tell, na_tell_left⟩
      exact ⟨cl_tell, na_tell_right⟩
      exact ⟨cl_tell, na_tell_skip⟩
      exact ⟨cl_tell, na_tell_name⟩
      exact ⟨cl_tell, na_tell_tag⟩
      exact ⟨cl_put, na_put_value⟩
      exact ⟨cl_put, na_put_place⟩
      exact ⟨cl_put, na_put_left⟩
      exact ⟨cl_put, na_put_right⟩
      exact ⟨cl_put, na_put_skip⟩
      exact ⟨cl_put, na_put_name⟩
      exact ⟨cl_put, na_put_tag⟩
      exact ⟨cl_same, na_same_value⟩
      exact ⟨cl_same, na_same_place⟩
      exact ⟨cl_same, na_same_left⟩
      exact ⟨cl_same, na_same_right⟩
      exact ⟨cl_same, na_same_skip⟩
      exact ⟨cl_same, na_same_name⟩
      exact ⟨cl_same, na_same_tag⟩
      exact ⟨cl_there, na_there_value⟩
      exact ⟨cl_there, na_there_place⟩
      exact ⟨cl_there, na_there_left⟩
      exact ⟨cl_there, na_there_right⟩
      exact ⟨cl_there, na_there_skip⟩
      exact ⟨cl_there, na_there_name⟩
      exact ⟨cl_there, na_there_tag⟩
      exact ⟨cl_call, na_call_value⟩
      exact ⟨cl_call, na_call_place⟩
      exact ⟨cl_call, na_call_left⟩
      exact ⟨cl_call, na_call_right⟩
      exact ⟨cl_call, na_call_skip⟩
      exact ⟨cl_call, na_call_name⟩
      exact ⟨cl_call, na_call_tag⟩
      exact ⟨cl_fin, na_fin_value⟩
      exact ⟨cl_fin, na_fin_place⟩
      exact ⟨cl_fin, na_fin_left⟩
      exact ⟨cl_fin, na_fin_right⟩
      exact ⟨cl_fin, na_fin_skip⟩
      exact ⟨cl_fin, na_fin_name⟩
      exact ⟨cl_fin, na_fin_tag⟩,
   PySem.W.mg_none_of X G z_len,
   PySem.W.mg_none_of X G z_int,
   PySem.W.mg_none_of X G z_tuple,
   PySem.W.mg_none_of X G z_list,
   PySem.W.mg_none_of X G z_range,
   PySem.W.mg_none_of X G z_isinstance,
   PySem.W.mg_none_of X G z_str,
   PySem.W.mg_none_of X G z_abs⟩
theorem law_fn {l : PySem.W.OpenLaw} {w : World} {K : PySem.W.Frag} {mg : Str → Option Value} {fa : Addr} (T : ∃ A, Top K mg A) (hfa : mg "law" = some (.ref fa)) :
    ∃ fd : FuncData, (∀ (s : Shared) (v : Value), BindsTo s fd ⟨[v], []⟩ [("_law_script", v)]) ∧ ∀ base : Heap, K.In base → base.Ns mainGlobals mg → FnOk l.prog w K mg base CX0 8 fa fd ["_law_script"] (spLaw K) := by
  obtain ⟨A, T⟩ := T
  obtain ⟨f, fd, F, b, df⟩ := T.d_law.ex
  have e := hfa.symm.trans F.mgf
  cases e
  have F2 := F.fn
  obtain ⟨oc, od, dV, kV, doc, pm, an, cdv, ct, osl, rfl, lk, hcd⟩ := F2.ex
  have e2 : dV = .none := df
  subst e2
  exact ⟨_, fun s v => .of_eq rfl, fun base _ _ => ok_law T F.fn⟩
end L00
open PySem PySem.W PyProof.Rows in
set_option maxRecDepth 100000 in
set_option maxHeartbeats 0 in
theorem PySem.Challenge.cw_quietedition_k00_rows_and_values_holds : PySem.Challenge.rw_quietedition_k00_rows_and_values.Holds := by
  w_on; o_law; k_head; (case hw => w_witness2)
  k_fill
  refine L2.walk_of (l := PySem.Challenge.rw_quietedition_k00_rows_and_values) (n := 63) (k := 8) (x := "_law_script") (CX := fun _ => L2.CX0) (sp := fun w => L00.spLaw _) rfl (by decide) rfl ⟨rfl, by decide, by decide⟩ (fun w h Y => PySem.W.kIn_of Y) ?F (fun _ _ a ns hl _ hS => ⟨a, ns, rfl, hS, hl, fun _ => rfl⟩) (fun _ _ _ _ _ h => h)
  case F =>
    intro w mg fa h KX G hmg
    refine' L00.law_fn (L00.top_mk KX G ?ga_tell ?ga_put ?ga_same ?ga_there ?ga_call ?ga_fin ?a0 ?l0 ?c0 ?k0 ?a1 ?l1 ?c1 ?k1 ?a2 ?l2 ?c2 ?k2 ?a3 ?l3 ?c3 ?k3 ?a4 ?l4 ?c4 ?k4 ?a5 ?l5 ?c5 ?k5 ?a6 ?l6 ?c6 ?k6 ?a7 ?l7 ?c7 ?k7 ?a8 ?l8 ?c8 ?k8 ?a9 ?l9 ?c9 ?k9 ?a10 ?l10 ?c10 ?k10 ?a11 ?l11 ?c11 ?k11 ?pg_tell ?hd_tell ?po_tell ?sa_tell ?ha_tell ?mr_tell ?na_tell_value ?na_tell_place ?na_tell_left ?na_tell_right ?na_tell_skip ?na_tell_name ?na_tell_tag ?kt_tell_tell ?nf_tell_tell ?kt_tell_put ?nf_tell_put ?kt_tell_same ?nf_tell_same ?kt_tell_there ?nf_tell_there ?kt_tell_call ?nf_tell_call ?kt_tell_fin ?nf_tell_fin ?ks_tell ?ns_tell ?pg_put ?hd_put ?po_put ?sa_put ?ha_put ?mr_put ?na_put_value ?na_put_place ?na_put_left ?na_put_right ?na_put_skip ?na_put_name ?na_put_tag ?kt_put_tell ?nf_put_tell ?kt_put_put ?nf_put_put ?kt_put_same ?nf_put_same ?kt_put_there ?nf_put_there ?kt_put_call ?nf_put_call ?kt_put_fin ?nf_put_fin ?ks_put ?ns_put ?pg_same ?hd_same ?po_same ?sa_same ?ha_same ?mr_same ?na_same_value ?na_same_place ?na_same_left ?na_same_right ?na_same_skip ?na_same_name ?na_same_tag ?kt_same_tell ?nf_same_tell ?kt_same_put ?nf_same_put ?kt_same_same ?nf_same_same ?kt_same_there ?nf_same_there ?kt_same_call ?nf_same_call ?kt_same_fin ?nf_same_fin ?ks_same ?ns_same ?pg_there ?hd_there ?po_there ?sa_there ?ha_there ?mr_there ?na_there_value ?na_there_place ?na_there_left ?na_there_right ?na_there_skip ?na_there_name ?na_there_tag ?kt_there_tell ?nf_there_tell ?kt_there_put ?nf_there_put ?kt_there_same ?nf_there_same ?kt_there_there ?nf_there_there ?kt_there_call ?nf_there_call ?kt_there_fin ?nf_there_fin ?ks_there ?ns_there ?pg_call ?hd_call ?po_call ?sa_call ?ha_call ?mr_call ?na_call_value ?na_call_place ?na_call_left ?na_call_right ?na_call_skip ?na_call_name ?na_call_tag ?kt_call_tell ?nf_call_tell ?kt_call_put ?nf_call_put ?kt_call_same ?nf_call_same ?kt_call_there ?nf_call_there ?kt_call_call ?nf_call_call ?kt_call_fin ?nf_call_fin ?ks_call ?ns_call ?pg_fin ?hd_fin ?po_fin ?sa_fin ?ha_fin ?mr_fin ?na_fin_value ?na_fin_place ?na_fin_left ?na_fin_right ?na_fin_skip ?na_fin_name ?na_fin_tag ?kt_fin_tell ?nf_fin_tell ?kt_fin_put ?nf_fin_put ?kt_fin_same ?nf_fin_same ?kt_fin_there ?nf_fin_there ?kt_fin_call ?nf_fin_call ?kt_fin_fin ?nf_fin_fin ?ks_fin ?ns_fin ?hn ?htk ?a12 ?l12 ?c12 ?fn12 ?k12 ?a13 ?l13 ?c13 ?fn13 ?k13 ?a14 ?l14 ?c14 ?fn14 ?k14 ?a15 ?l15 ?c15 ?fn15 ?k15 ?a16 ?l16 ?c16 ?fn16 ?k16 ?a17 ?l17 ?c17 ?fn17 ?k17 ?a18 ?l18 ?c18 ?fn18 ?k18 ?a19 ?l19 ?c19 ?fn19 ?k19 ?a20 ?l20 ?c20 ?fn20 ?k20 ?a21 ?l21 ?c21 ?fn21 ?k21 ?a22 ?l22 ?c22 ?fn22 ?k22 ?a23 ?l23 ?c23 ?fn23 ?k23 ?a24 ?l24 ?c24 ?fn24 ?k24 ?a25 ?l25 ?c25 ?fn25 ?k25 ?a26 ?l26 ?c26 ?fn26 ?k26 ?a27 ?l27 ?c27 ?fn27 ?k27 ?a28 ?l28 ?c28 ?fn28 ?k28 ?a29 ?l29 ?c29 ?fn29 ?k29 ?a30 ?l30 ?c30 ?fn30 ?k30 ?mk30 ?a31 ?l31 ?c31 ?fn31 ?k31 ?mk31 ?a32 ?l32 ?c32 ?fn32 ?k32 ?mk32 ?a33 ?l33 ?c33 ?fn33 ?k33 ?mk33 ?a34 ?l34 ?ldt ?c34 ?fn34 ?k34 ?mk34 ?e_mk ?e_in ?e_kp ?z_len ?z_int ?z_tuple ?z_list ?z_range ?z_isinstance ?z_str ?z_abs) hmg
    (case ga_tell => k_is)
    (case ga_put => k_is)
    (case ga_same => k_is)
    (case ga_there => k_is)
    (case ga_call => k_is)
    (case ga_fin => k_is)
    (case a0 => k_is)
    (case l0 => k_is)
    (case c0 => k_is)
    (case k0 => k_is)
    (case a1 => k_is)
    (case l1 => k_is)
    (case c1 => k_is)
    (case k1 => k_is)
    (case a2 => k_is)
    (case l2 => k_is)
    (case c2 => k_is)
    (case k2 => k_is)
    (case a3 => k_is)
    (case l3 => k_is)
    (case c3 => k_is)
    (case k3 => k_is)
    (case a4 => k_is)
    (case l4 => k_is)
    (case c4 => k_is)
    (case k4 => k_is)
    (case a5 => k_is)
    (case l5 => k_is)
    (case c5 => k_is)
    (case k5 => k_is)
    (case a6 => k_is)
    (case l6 => k_is)
    (case c6 => k_is)
    (case k6 => k_is)
    (case a7 => k_is)
    (case l7 => k_is)
    (case c7 => k_is)
    (case k7 => k_is)
    (case a8 => k_is)
    (case l8 => k_is)
    (case c8 => k_is)
    (case k8 => k_is)
    (case a9 => k_is)
    (case l9 => k_is)
    (case c9 => k_is)
    (case k9 => k_is)
    (case a10 => k_is)
    (case l10 => k_is)
    (case c10 => k_is)
    (case k10 => k_is)
    (case a11 => k_is)
    (case l11 => k_is)
    (case c11 => k_is)
    (case k11 => k_is)
    (case pg_tell => k_is)
    (case hd_tell => k_is)
    (case po_tell => k_is)
    (case sa_tell => k_is)
    (case ha_tell => k_is)
    (case mr_tell => k_is)
    (case na_tell_value => k_is)
    (case na_tell_place => k_is)
    (case na_tell_left => k_is)
    (case na_tell_right => k_is)
    (case na_tell_skip => k_is)
    (case na_tell_name => k_is)
    (case na_tell_tag => k_is)
    (case kt_tell_tell => kit_is)
    (case nf_tell_tell => k_is)
    (case kt_tell_put => kit_is)
    (case nf_tell_put => k_is)
    (case kt_tell_same => kit_is)
    (case nf_tell_same => k_is)
    (case kt_tell_there => kit_is)
    (case nf_tell_there => k_is)
    (case kt_tell_call => kit_is)
    (case nf_tell_call => k_is)
    (case kt_tell_fin => kit_is)
    (case nf_tell_fin => k_is)
    (case ks_tell => kit_is)
    (case ns_tell => k_is)
    (case pg_put => k_is)
    (case hd_put => k_is)
    (case po_put => k_is)
    (case sa_put => k_is)
    (case ha_put => k_is)
    (case mr_put => k_is)
    (case na_put_value => k_is)
    (case na_put_place => k_is)
    (case na_put_left => k_is)
    (case na_put_right => k_is)
    (case na_put_skip => k_is)
    (case na_put_name => k_is)
    (case na_put_tag => k_is)
    (case kt_put_tell => kit_is)
    (case nf_put_tell => k_is)
    (case kt_put_put => kit_is)
    (case nf_put_put => k_is)
    (case kt_put_same => kit_is)
    (case nf_put_same => k_is)
    (case kt_put_there => kit_is)
    (case nf_put_there => k_is)
    (case kt_put_call => kit_is)
    (case nf_put_call => k_is)
    (case kt_put_fin => kit_is)
    (case nf_put_fin => k_is)
    (case ks_put => kit_is)
    (case ns_put => k_is)
    (case pg_same => k_is)
    (case hd_same => k_is)
    (case po_same => k_is)
    (case sa_same => k_is)
    (case ha_same => k_is)
    (case mr_same => k_is)
    (case na_same_value => k_is)
    (case na_same_place => k_is)
    (case na_same_left => k_is)
    (case na_same_right => k_is)
    (case na_same_skip => k_is)
    (case na_same_name => k_is)
    (case na_same_tag => k_is)
    (case kt_same_tell => kit_is)
    (case nf_same_tell => k_is)
    (case kt_same_put => kit_is)
    (case nf_same_put => k_is)
    (case kt_same_same => kit_is)
    (case nf_same_same => k_is)
    (case kt_same_there => kit_is)
    (case nf_same_there => k_is)
    (case kt_same_call => kit_is)
    (case nf_same_call => k_is)
    (case kt_same_fin => kit_is)
    (case nf_same_fin => k_is)
    (case ks_same => kit_is)
    (case ns_same => k_is)
    (case pg_there => k_is)
    (case hd_there => k_is)
    (case po_there => k_is)
    (case sa_there => k_is)
    (case ha_there => k_is)
    (case mr_there => k_is)
    (case na_there_value => k_is)
    (case na_there_place => k_is)
    (case na_there_left => k_is)
    (case na_there_right => k_is)
    (case na_there_skip => k_is)
    (case na_there_name => k_is)
    (case na_there_tag => k_is)
    (case kt_there_tell => kit_is)
    (case nf_there_tell => k_is)
    (case kt_there_put => kit_is)
    (case nf_there_put => k_is)
    (case kt_there_same => kit_is)
    (case nf_there_same => k_is)
    (case kt_there_there => kit_is)
    (case nf_there_there => k_is)
    (case kt_there_call => kit_is)
    (case nf_there_call => k_is)
    (case kt_there_fin => kit_is)
    (case nf_there_fin => k_is)
    (case ks_there => kit_is)
    (case ns_there => k_is)
    (case pg_call => k_is)
    (case hd_call => k_is)
    (case po_call => k_is)
    (case sa_call => k_is)
    (case ha_call => k_is)
    (case mr_call => k_is)
    (case na_call_value => k_is)
    (case na_call_place => k_is)
    (case na_call_left => k_is)
    (case na_call_right => k_is)
    (case na_call_skip => k_is)
    (case na_call_name => k_is)
    (case na_call_tag => k_is)
    (case kt_call_tell => kit_is)
    (case nf_call_tell => k_is)
    (case kt_call_put => kit_is)
    (case nf_call_put => k_is)
    (case kt_call_same => kit_is)
    (case nf_call_same => k_is)
    (case kt_call_there => kit_is)
    (case nf_call_there => k_is)
    (case kt_call_call => kit_is)
    (case nf_call_call => k_is)
    (case kt_call_fin => kit_is)
    (case nf_call_fin => k_is)
    (case ks_call => kit_is)
    (case ns_call => k_is)
    (case pg_fin => k_is)
    (case hd_fin => k_is)
    (case po_fin => k_is)
    (case sa_fin => k_is)
    (case ha_fin => k_is)
    (case mr_fin => k_is)
    (case na_fin_value => k_is)
    (case na_fin_place => k_is)
    (case na_fin_left => k_is)
    (case na_fin_right => k_is)
    (case na_fin_skip => k_is)
    (case na_fin_name => k_is)
    (case na_fin_tag => k_is)
    (case kt_fin_tell => kit_is)
    (case nf_fin_tell => k_is)
    (case kt_fin_put => kit_is)
    (case nf_fin_put => k_is)
    (case kt_fin_same => kit_is)
    (case nf_fin_same => k_is)
    (case kt_fin_there => kit_is)
    (case nf_fin_there => k_is)
    (case kt_fin_call => kit_is)
    (case nf_fin_call => k_is)
    (case kt_fin_fin => kit_is)
    (case nf_fin_fin => k_is)
    (case ks_fin => kit_is)
    (case ns_fin => k_is)
    (case hn => k_is)
    (case htk => k_is)
    (case a12 => k_is)
    (case l12 => k_is)
    (case c12 => k_is)
    (case fn12 => k_is)
    (case k12 => k_is)
    (case a13 => k_is)
    (case l13 => k_is)
    (case c13 => k_is)
    (case fn13 => k_is)
    (case k13 => k_is)
    (case a14 => k_is)
    (case l14 => k_is)
    (case c14 => k_is)
    (case fn14 => k_is)
    (case k14 => k_is)
    (case a15 => k_is)
    (case l15 => k_is)
    (case c15 => k_is)
    (case fn15 => k_is)
    (case k15 => k_is)
    (case a16 => k_is)
    (case l16 => k_is)
    (case c16 => k_is)
    (case fn16 => k_is)
    (case k16 => k_is)
    (case a17 => k_is)
    (case l17 => k_is)
    (case c17 => k_is)
    (case fn17 => k_is)
    (case k17 => k_is)
    (case a18 => k_is)
    (case l18 => k_is)
    (case c18 => k_is)
    (case fn18 => k_is)
    (case k18 => k_is)
    (case a19 => k_is)
    (case l19 => k_is)
    (case c19 => k_is)
    (case fn19 => k_is)
    (case k19 => k_is)
    (case a20 => k_is)
    (case l20 => k_is)
    (case c20 => k_is)
    (case fn20 => k_is)
    (case k20 => k_is)
    (case a21 => k_is)
    (case l21 => k_is)
    (case c21 => k_is)
    (case fn21 => k_is)
    (case k21 => k_is)
    (case a22 => k_is)
    (case l22 => k_is)
    (case c22 => k_is)
    (case fn22 => k_is)
    (case k22 => k_is)
    (case a23 => k_is)
    (case l23 => k_is)
    (case c23 => k_is)
    (case fn23 => k_is)
    (case k23 => k_is)
    (case a24 => k_is)
    (case l24 => k_is)
    (case c24 => k_is)
    (case fn24 => k_is)
    (case k24 => k_is)
    (case a25 => k_is)
    (case l25 => k_is)
    (case c25 => k_is)
    (case fn25 => k_is)
    (case k25 => k_is)
    (case a26 => k_is)
    (case l26 => k_is)
    (case c26 => k_is)
    (case fn26 => k_is)
    (case k26 => k_is)
    (case a27 => k_is)
    (case l27 => k_is)
    (case c27 => k_is)
    (case fn27 => k_is)
    (case k27 => k_is)
    (case a28 => k_is)
    (case l28 => k_is)
    (case c28 => k_is)
    (case fn28 => k_is)
    (case k28 => k_is)
    (case a29 => k_is)
    (case l29 => k_is)
    (case c29 => k_is)
    (case fn29 => k_is)
    (case k29 => k_is)
    (case a30 => k_is)
    (case l30 => k_is)
    (case c30 => k_is)
    (case fn30 => k_is)
    (case k30 => k_is)
    (case mk30 => k_is)
    (case a31 => k_is)
    (case l31 => k_is)
    (case c31 => k_is)
    (case fn31 => k_is)
    (case k31 => k_is)
    (case mk31 => k_is)
    (case a32 => k_is)
    (case l32 => k_is)
    (case c32 => k_is)
    (case fn32 => k_is)
    (case k32 => k_is)
    (case mk32 => k_is)
    (case a33 => k_is)
    (case l33 => k_is)
    (case c33 => k_is)
    (case fn33 => k_is)
    (case k33 => k_is)
    (case mk33 => k_is)
    (case a34 => k_is)
    (case l34 => k_is)
    (case ldt => k_is)
    (case c34 => k_is)
    (case fn34 => k_is)
    (case k34 => k_is)
    (case mk34 => k_is)
    (case e_mk => k_is)
    (case e_in => k_is)
    (case e_kp => k_is)
    (case z_len => k_is)
    (case z_int => k_is)
    (case z_tuple => k_is)
    (case z_list => k_is)
    (case z_range => k_is)
    (case z_isinstance => k_is)
    (case z_str => k_is)
    (case z_abs => k_is)
