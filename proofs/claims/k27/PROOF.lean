import PyProof.Rows.All
import Wide.All
import OpenK.AllK
import Wide.FinOn
import HandS.ForMost
import HandS.Wide
import HandS.SetKeys
import HandS.IsInst
import HandS.Codes
import HandS.Deep
import HandS.SortInts
import HandS.Flow
import HandS.TupAny
import HandS.SetBool
import HandS.Strs
import PySem.Challenge.RW_quietedition_k27_choices_stand_for_all
set_option Elab.async false
set_option linter.all false
set_option maxRecDepth 100000
set_option maxHeartbeats 4000000
/-! Own layer: backward rules for readings, frames, packages of defs. -/
namespace QB
open PySem PySem.Spec PyProof.Rows L2

/-! ### readings by name -/
def kTest (QT : Bool → Hp → Prop) : VK := fun x H' => ∃ k, x = .bl k ∧ QT k H'
def kPart (QO : Option Int → Hp → Prop) : VK := fun x H1 => ∃ i, x = .int i ∧ QO (some i) H1
def kAnd (tb : TE) (σ : L2.St) (Q : VK) : VK := fun x H1 => ∃ c, x = .bl c ∧ if c = true then tb σ H1 Q else Q (.bl false) H1
def kOr (tb : TE) (σ : L2.St) (Q : VK) : VK := fun x H1 => ∃ c, x = .bl c ∧ if c = true then Q (.bl true) H1 else tb σ H1 Q
def kNot (Q : VK) : VK := fun x H1 => ∃ c, x = .bl c ∧ Q (.bl (!c)) H1
def kTru (K : PySem.W.Frag) (QT : Bool → Hp → Prop) : VK := fun x H' => ∃ k, TruV K x H' k ∧ QT k H'
def tTruth (K : PySem.W.Frag) (ta : TE) : TT := fun σ H Q => ta σ H fun x H' => ∃ k, TruV K x H' k ∧ Q k H'
def rLen (K : PySem.W.Frag) : List V → Hp → VK → Prop := fun xs H Q => ∃ p ys, xs = [.ref p] ∧ (SqL K H p ys ∨ SqT K H p ys) ∧ Q (.int ys.length) H
def rLst (K : PySem.W.Frag) : List V → Hp → VK → Prop := fun xs H Q => ∃ p ys, xs = [.ref p] ∧ (SqL K H p ys ∨ SqT K H p ys) ∧ ∀ l, H l = none → Q (.ref l) (upd H l (.lst ys))
def rTupl (K : PySem.W.Frag) : List V → Hp → VK → Prop := fun xs H Q => ∃ p ys, xs = [.ref p] ∧ ((SqL K H p ys ∧ ∀ l, H l = none → Q (.ref l) (upd H l (.tup ys))) ∨ (SqT K H p ys ∧ Q (.ref p) H))
def rInt : List V → Hp → VK → Prop := fun xs H Q => (∃ i, xs = [.int i] ∧ Q (.int i) H) ∨ ∃ k, xs = [.bl k] ∧ Q (.int (if k then 1 else 0)) H
def rAbs : List V → Hp → VK → Prop := fun xs H Q => ∃ i, xs = [.int i] ∧ Q (.int (if i < 0 then -i else i)) H
def rMax : List V → Hp → VK → Prop := fun xs H Q => ∃ i j, xs = [.int i, .int j] ∧ Q (.int (if j > i then j else i)) H
def rMin : List V → Hp → VK → Prop := fun xs H Q => ∃ i j, xs = [.int i, .int j] ∧ Q (.int (if j < i then j else i)) H
def rAddStr : R2 := fun x y H Q => ∃ i j, x = .str i ∧ y = .str j ∧ i.length + j.length ≤ sizeLine ∧ Q (.str (i ++ j)) H
section
variable {X : Cx}
theorem c_len : CallR X (.builtin "len") (rLen X.K) := call_len_seq
theorem c_lst : CallR X (.type "list") (rLst X.K) := call_list_of
theorem c_tup : CallR X (.type "tuple") (rTupl X.K) := call_tuple_of
theorem c_int : CallR X (.type "int") rInt := call_int1
theorem c_abs : CallR X (.builtin "abs") rAbs := call_abs
theorem c_max (hc : X.calm = true) : CallR X (.builtin "max") rMax := call_max2 hc
theorem c_min (hc : X.calm = true) : CallR X (.builtin "min") rMin := call_min2 hc
theorem o_adds : OpR X (binaryOp .Add) rAddStr := op_add_str
theorem pt_tru {a : Expr} {ta : TE} (ha : PE X a ta) (he : ∀ whole, isTrue a X.env whole = (do let v ← whole; standAt a.pos; holding [v] (truthy v))) : PT X a (tTruth X.K ta) := pt_truth ha he
end

/-! ### the same rules, the written part by its name (inside comprehensions) -/
section
variable {X : Cx} {e : Expr} {f : Str} {pos : Pos} {ta : TE} {tg : Expr} {a : Expr}
theorem kixL (K : PySem.W.Frag) (h : X.K = K) : IxR X (rIxL K) := h ▸ ix_list
theorem kixT (K : PySem.W.Frag) (h : X.K = K) : IxR X (rIxT K) := h ▸ ix_tup
theorem kixQ (K : PySem.W.Frag) (h : X.K = K) : IxR X (rIx K) := h ▸ ix_seq
theorem koIn (K : PySem.W.Frag) (h : X.K = K) : OpR X (compareOp .In) (rIn K false) := h ▸ op_in_seq
theorem koNi (K : PySem.W.Frag) (h : X.K = K) : OpR X (compareOp .NotIn) (rIn K true) := h ▸ op_notIn_seq
theorem koEq (K : PySem.W.Frag) (h : X.K = K) (hu : X.A.units + 64 < cLine) : OpR X (compareOp .Eq) (rEqD K) := h ▸ op_eqD hu
theorem koNe (K : PySem.W.Frag) (h : X.K = K) (hu : X.A.units + 64 < cLine) : OpR X (compareOp .NotEq) (rNeD K) := h ▸ op_neD hu
theorem koInD (K : PySem.W.Frag) (h : X.K = K) (hu : X.A.units + 65 < cLine) : OpR X (compareOp .In) (rInD K) := h ▸ op_inD hu
theorem koNiD (K : PySem.W.Frag) (h : X.K = K) (hu : X.A.units + 65 < cLine) : OpR X (compareOp .NotIn) (rNotInD K) := h ▸ op_notInD hu
theorem kcLen (K : PySem.W.Frag) (h : X.K = K) : CallR X (.builtin "len") (rLen K) := h ▸ c_len
theorem kcLst' (K : PySem.W.Frag) (h : X.K = K) : CallR X (.type "list") (rLst K) := h ▸ c_lst
theorem kcTup (K : PySem.W.Frag) (h : X.K = K) : CallR X (.type "tuple") (rTupl K) := h ▸ c_tup
theorem kcIsi (K : PySem.W.Frag) (h : X.K = K) : CallR X (.builtin "isinstance") (rIsi K) := h ▸ call_isi
theorem kslL (K : PySem.W.Frag) (h : X.K = K) : SlR X (rSlL K) := h ▸ sl_list
theorem kslT (K : PySem.W.Frag) (h : X.K = K) : SlR X (rSlA K) := h ▸ sl_tupA
theorem kcatA (K : PySem.W.Frag) (h : X.K = K) : OpR X (binaryOp .Add) (rCatA K) := h ▸ op_catA
theorem kpt_tru (K : PySem.W.Frag) (h : X.K = K) (ha : PE X a ta) (he : ∀ whole, isTrue a X.env whole = (do let v ← whole; standAt a.pos; holding [v] (truthy v))) : PT X a (tTruth K ta) := h ▸ pt_tru ha he
theorem kpe_fld (K : PySem.W.Frag) (h : X.K = K) (he : PE X e ta) (hb : attributeBase e f X.env (eval e X.env) = eval e X.env) : PE X (.Attribute e f pos) (tFld K ta f) := h ▸ pe_fld he hb
theorem kpi_list (K : PySem.W.Frag) (h : X.K = K) {l : Expr} {tl : TE} (hl : PE X l tl) : PI X tg l (iList K tl) := h ▸ pi_list hl
theorem kpi_tup (K : PySem.W.Frag) (h : X.K = K) {l : Expr} {tl : TE} (hl : PE X l tl) : PI X tg l (iTup K tl) := h ▸ pi_tup hl
end

/-! ### rules, goal by goal -/
section
variable {K : PySem.W.Frag} {σ : L2.St} {H : Hp} {Q : VK} {QT : Bool → Hp → Prop} {QA : List V → Hp → Prop} {D : Ends} {t u u2 : TS} {ta tb te to ti : TE} {c c1 c2 : TT} {tl tr : TA} {r : R2} {v x y : V} {i : Nat}
theorem seq (h : t { D with nx := u D } σ H) : tSeq t u D σ H := h
theorem seqA {g : TG} (h : te σ H fun x H1 => g x σ H1 (u D)) : tSeq (tAsg te g) u D σ H := h
theorem seqD (h : te σ H fun _ H1 => u D σ H1) : tSeq (tDrop te) u D σ H := h
theorem seqU {ip : TIp} (h : tAug i te ip { D with nx := u D } σ H) : tSeq (tAug i te ip) u D σ H := h
theorem seqP {j : Nat} (h : tPar i j tl { D with nx := u D } σ H) : tSeq (tPar i j tl) u D σ H := h
theorem seqI (h : c σ H fun b H1 => if b = true then t { D with nx := u2 D } σ H1 else u { D with nx := u2 D } σ H1) : tSeq (tIfS c t u) u2 D σ H := h
theorem parv {j : Nat} (h : tl σ H fun vs H1 => ∃ v w, vs = [v, w] ∧ D.nx ((σ.set i (some v)).set j (some w)) H1) : tPar i j tl D σ H := h
theorem augv {ip : TIp} (e : σ[i]? = some (some x)) (h : te σ H fun y H1 => ip x y H1 fun z H2 => D.nx (σ.set i (some z)) H2) : tAug i te ip D σ H := ⟨x, e, h⟩
theorem ipi {f : Int → Int → Int} {a b : Int} (h : Q (.int (f a b)) H) : ipI f (.int a) (.int b) H Q := ⟨a, b, rfl, rfl, h⟩
theorem nxk {f b k : L2.St → Hp → Prop} {r : VK} (h : f σ H) : Ends.nx ⟨f, r, b, k⟩ σ H := h
theorem rtk {f b k : L2.St → Hp → Prop} {r : VK} (h : r v H) : Ends.rt ⟨f, r, b, k⟩ v H := h
theorem bkk {f b k : L2.St → Hp → Prop} {r : VK} (h : b σ H) : Ends.bk ⟨f, r, b, k⟩ σ H := h
theorem ctk {f b k : L2.St → Hp → Prop} {r : VK} (h : k σ H) : Ends.ct ⟨f, r, b, k⟩ σ H := h
theorem ifK (k : ∀ Y Z : Hp → Prop, (∀ H1, t D σ H1 → Y H1) → (∀ H1, u D σ H1 → Z H1) → c σ H fun b H1 => if b = true then Y H1 else Z H1) : tIfS c t u D σ H := k _ _ (fun _ q => q) (fun _ q => q)
theorem seqR {P : L2.St → Hp → Prop} (h : ∀ σ H, P σ H → u D σ H) (k : ∀ U : L2.St → Hp → Prop, (∀ σ H, P σ H → U σ H) → t { D with nx := U } σ H) : tSeq t u D σ H := k _ h
theorem nxt (h : D.nx σ H) : tNext D σ H := h
theorem drop (h : te σ H fun _ H1 => D.nx σ H1) : tDrop te D σ H := h
theorem ret (h : te σ H D.rt) : tRet te D σ H := h
theorem ifs (h : c σ H fun b H1 => if b = true then t D σ H1 else u D σ H1) : tIfS c t u D σ H := h
theorem setv (h : te σ H fun x H1 => D.nx (σ.set i (some x)) H1) : tAsg te (gName i) D σ H := h
theorem sets {ts : TSet} (h : te σ H fun v H1 => to σ H1 fun o H2 => ti σ H2 fun i H3 => ts o i v H3 fun H4 => D.nx σ H4) : tAsg te (gSub to ti ts) D σ H := h
theorem gsb {QG : L2.St → Hp → Prop} {ts : TSet} (h : to σ H fun o H2 => ti σ H2 fun i H3 => ts o i v H3 fun H4 => QG σ H4) : gSub to ti ts v σ H QG := h
theorem gnm {QG : L2.St → Hp → Prop} (h : QG (σ.set i (some v)) H) : gName i v σ H QG := h
theorem var (e : σ[i]? = some (some v)) (h : Q v H) : tVar i σ H Q := ⟨v, e, h⟩
theorem cst (h : Q v H) : tC v σ H Q := h
theorem opr (h : ta σ H fun x H1 => tb σ H1 fun y H2 => r x y H2 Q) : tOp r ta tb σ H Q := h
theorem unr {r : V → Hp → VK → Prop} (h : ta σ H fun x H1 => r x H1 Q) : tUn r ta σ H Q := h
theorem tst (h : te σ H (kTest QT)) : tTest te σ H QT := h
theorem tbb (h : te σ H (kTest QT)) : tB te σ H QT := h
theorem exb {b : Bool} (h : QT b H) : kTest QT (.bl b) H := ⟨b, rfl, h⟩
theorem exi {j : Int} {QO : Option Int → Hp → Prop} (h : QO (some j) H) : kPart QO (.int j) H := ⟨j, rfl, h⟩
theorem tand (h : c1 σ H fun b H1 => if b = true then c2 σ H1 QT else QT false H1) : tAnd c1 c2 σ H QT := h
theorem tor (h : c1 σ H fun b H1 => if b = true then QT true H1 else c2 σ H1 QT) : tOr c1 c2 σ H QT := h
theorem tnot (h : c1 σ H fun b H1 => QT (!b) H1) : tNot c1 σ H QT := h
theorem tif (h : c1 σ H fun b H1 => if b = true then ta σ H1 Q else tb σ H1 Q) : tIf c1 ta tb σ H Q := h
theorem andv (h : ta σ H (kAnd tb σ Q)) : tAndV ta tb σ H Q := h
theorem orv (h : ta σ H (kOr tb σ Q)) : tOrV ta tb σ H Q := h
theorem kand {b : Bool} (h : if b = true then tb σ H Q else Q (.bl false) H) : kAnd tb σ Q (.bl b) H := ⟨b, rfl, h⟩
theorem kor {b : Bool} (h : if b = true then Q (.bl true) H else tb σ H Q) : kOr tb σ Q (.bl b) H := ⟨b, rfl, h⟩
theorem notv (h : ta σ H (kNot Q)) : tNotV ta σ H Q := h
theorem knot {b : Bool} (h : Q (.bl (!b)) H) : kNot Q (.bl b) H := ⟨b, rfl, h⟩
theorem tnil (h : QA [] H) : tNil σ H QA := h
theorem tcons (h : ta σ H fun x H1 => tr σ H1 fun xs H2 => QA (x :: xs) H2) : tCons ta tr σ H QA := h
theorem tcb {r : List V → Hp → VK → Prop} (h : tl σ H fun vs H1 => r vs H1 Q) : tCB r tl σ H Q := h
theorem tcall {sp : Sp} {dvs : List V} {E : XK} (h : tl σ H fun vs H1 => sp (vs ++ dvs) H1 Q E) : tCall sp dvs E tl σ H Q := h
theorem ttup (h : tl σ H fun xs H1 => xs.length ≤ sizeLine ∧ ∀ p, H1 p = none → Q (.ref p) (upd H1 p (.tup xs))) : tTup tl σ H Q := h
theorem tlst (h : tl σ H fun xs H1 => xs.length ≤ sizeLine ∧ ∀ p, H1 p = none → Q (.ref p) (upd H1 p (.lst xs))) : tLst tl σ H Q := h
theorem tbm {T : String} {r : V → List V → Hp → VK → Prop} (h : to σ H fun x H1 => tyV K T x H1 ∧ tl σ H1 fun xs H2 => r x xs H2 Q) : tBM K T r to tl σ H Q := h
theorem tbm0 {T : String} {r : V → List V → Hp → VK → Prop} (h : to σ H fun x H1 => tyV K T x H1 ∧ r x [] H1 Q) : tBM0 K T r to σ H Q := h
theorem tsl {r : V → Option Int → Option Int → Hp → VK → Prop} {t1 t2 : TO} (h : te σ H fun x H1 => t1 σ H1 fun l H2 => t2 σ H2 fun u H3 => r x l u H3 Q) : tSl r te t1 t2 σ H Q := h
theorem prt {QO : Option Int → Hp → Prop} (h : te σ H (kPart QO)) : tPart te σ H QO := h
theorem npr {QO : Option Int → Hp → Prop} (h : QO none H) : tNoPart σ H QO := h
theorem rI0' {g : Int → Int → V} {a b : Int} (h : Q (g a b) H) : rI0 g (.int a) (.int b) H Q := ⟨a, b, rfl, rfl, h⟩
theorem rI' {C : Int → Int → Prop} {g : Int → Int → V} {a b : Int} (hc : C a b) (h : Q (g a b) H) : rI C g (.int a) (.int b) H Q := ⟨a, b, rfl, rfl, hc, h⟩
theorem rU' {g : Int → V} {a : Int} (h : Q (g a) H) : rU g (.int a) H Q := ⟨a, rfl, h⟩
theorem req (hs : scal x y = true) (h : Q (.bl (decide (x = y))) H) : rEq x y H Q := ⟨hs, h⟩
theorem rne (hs : scal x y = true) (h : Q (.bl (!decide (x = y))) H) : rNe x y H Q := ⟨hs, h⟩
theorem ixl {p : Addr} {xs : List V} {j : Int} (hp : SqL K H p xs) (ha : atI xs j = some v) (h : Q v H) : rIxL K (.ref p) (.int j) H Q := ⟨p, xs, j, v, rfl, rfl, hp, ha, h⟩
theorem ixt {p : Addr} {xs : List V} {j : Int} (hp : SqT K H p xs) (ha : atI xs j = some v) (h : Q v H) : rIxT K (.ref p) (.int j) H Q := ⟨p, xs, j, v, rfl, rfl, hp, ha, h⟩
theorem setl {p : Addr} {xs : List V} {k : Int} {j : Nat} {QH : Hp → Prop} (hp : H p = some (.lst xs)) (hj : ixN xs.length k = some j) (h : QH (upd H p (.lst (xs.set j v)))) : rSetL (.ref p) (.int k) v H QH := ⟨p, xs, k, j, rfl, rfl, hp, hj, h⟩
theorem ins {neg : Bool} {p : Addr} {xs : List V} (hp : SqL K H p xs) (hx : flatV x = true) (ha : xs.all flatV = true) (h : Q (.bl (if neg then !inV x xs else inV x xs)) H) : rIn K neg x (.ref p) H Q := ⟨p, xs, rfl, .inl hp, hx, ha, h⟩
theorem inst {neg : Bool} {p : Addr} {xs : List V} (hp : SqT K H p xs) (hx : flatV x = true) (ha : xs.all flatV = true) (h : Q (.bl (if neg then !inV x xs else inV x xs)) H) : rIn K neg x (.ref p) H Q := ⟨p, xs, rfl, .inr hp, hx, ha, h⟩
theorem app {l : Addr} {xs : List V} (hl : H l = some (.lst xs)) (hn : xs.length < sizeLine) (h : Q .non (upd H l (.lst (xs ++ [y])))) : rAppend (.ref l) [y] H Q := ⟨l, xs, y, rfl, rfl, hl, hn, h⟩
theorem rvs {l : Addr} {xs : List V} (hl : H l = some (.lst xs)) (h : Q .non (upd H l (.lst xs.reverse))) : rReverse (.ref l) [] H Q := ⟨l, xs, rfl, rfl, hl, h⟩
theorem tyl {l : Addr} {xs : List V} {P : Prop} (hl : SqL K H l xs) (h : P) : tyV K "list" (.ref l) H ∧ P := ⟨.inl ⟨rfl, xs, hl⟩, h⟩
theorem sll {p : Addr} {xs : List V} {lo hi : Option Int} (hp : SqL K H p xs) (h : ∀ q, H q = none → Q (.ref q) (upd H q (.lst (cutV xs lo hi)))) : rSlL K (.ref p) lo hi H Q := ⟨p, xs, rfl, hp, h⟩
theorem cat {a b : Addr} {xs ys : List V} (h1 : H a = some (.lst xs)) (h2 : H b = some (.lst ys)) (hn : xs.length + ys.length ≤ sizeLine) (h : ∀ q, H q = none → Q (.ref q) (upd H q (.lst (xs ++ ys)))) : rCat (.ref a) (.ref b) H Q := ⟨a, b, xs, ys, rfl, rfl, h1, h2, hn, h⟩
theorem srtd {a : Addr} {ns : List Int} (h1 : SqL K H a (ns.map V.int)) (h : ∀ (ms : List Int) (q : Addr), ms.Perm ns → ms.Pairwise (· ≤ ·) → H q = none → Q (.ref q) (upd H q (.lst (ms.map V.int)))) : rSortedI K [.ref a] H Q := ⟨a, ns, rfl, h1, h⟩
theorem len_l {p : Addr} {xs : List V} (hp : SqL K H p xs) (h : Q (.int xs.length) H) : rLen K [.ref p] H Q := ⟨p, xs, rfl, .inl hp, h⟩
theorem len_t {p : Addr} {xs : List V} (hp : SqT K H p xs) (h : Q (.int xs.length) H) : rLen K [.ref p] H Q := ⟨p, xs, rfl, .inr hp, h⟩
theorem lst_l {p : Addr} {xs : List V} (hp : SqL K H p xs) (h : ∀ l, H l = none → Q (.ref l) (upd H l (.lst xs))) : rLst K [.ref p] H Q := ⟨p, xs, rfl, .inl hp, h⟩
theorem lst_t {p : Addr} {xs : List V} (hp : SqT K H p xs) (h : ∀ l, H l = none → Q (.ref l) (upd H l (.lst xs))) : rLst K [.ref p] H Q := ⟨p, xs, rfl, .inr hp, h⟩
theorem tup_l {p : Addr} {xs : List V} (hp : SqL K H p xs) (h : ∀ l, H l = none → Q (.ref l) (upd H l (.tup xs))) : rTupl K [.ref p] H Q := ⟨p, xs, rfl, .inl ⟨hp, h⟩⟩
theorem tup_t {p : Addr} {xs : List V} (hp : SqT K H p xs) (h : Q (.ref p) H) : rTupl K [.ref p] H Q := ⟨p, xs, rfl, .inr ⟨hp, h⟩⟩
theorem int_i {a : Int} (h : Q (.int a) H) : rInt [.int a] H Q := .inl ⟨a, rfl, h⟩
theorem abs_i {a : Int} (h : Q (.int (if a < 0 then -a else a)) H) : rAbs [.int a] H Q := ⟨a, rfl, h⟩
theorem max_i {a b : Int} (h : Q (.int (if b > a then b else a)) H) : rMax [.int a, .int b] H Q := ⟨a, b, rfl, h⟩
theorem min_i {a b : Int} (h : Q (.int (if b < a then b else a)) H) : rMin [.int a, .int b] H Q := ⟨a, b, rfl, h⟩
theorem adds {a b : Str} (hl : a.length + b.length ≤ sizeLine) (h : Q (.str (a ++ b)) H) : rAddStr (.str a) (.str b) H Q := ⟨a, b, rfl, rfl, hl, h⟩
theorem tru (h : te σ H (kTru K QT)) : tTruth K te σ H QT := h
theorem trl {p : Addr} {xs : List V} (hp : SqL K H p xs) (h : QT (!xs.isEmpty) H) : kTru K QT (.ref p) H := ⟨_, .inl ⟨xs, hp, rfl⟩, h⟩
theorem trt {p : Addr} {xs : List V} (hp : SqT K H p xs) (h : QT (!xs.isEmpty) H) : kTru K QT (.ref p) H := ⟨_, .inr (.inl ⟨xs, hp, rfl⟩), h⟩
theorem itT {A B : Prop} (h : A) : if true = true then A else B := by rw [if_pos rfl]; exact h
theorem itF {A B : Prop} (h : B) : if false = true then A else B := by rw [if_neg Bool.false_ne_true]; exact h
theorem itNT {A B : Prop} (h : B) : if (!true) = true then A else B := itF h
theorem itNF {A B : Prop} (h : A) : if (!false) = true then A else B := itT h
theorem itD {p : Prop} [Decidable p] {A B : Prop} (h1 : p → A) (h2 : ¬ p → B) : if decide p = true then A else B := by
  by_cases h : p
  · rw [if_pos (decide_eq_true h)]; exact h1 h
  · rw [if_neg (by rw [decide_eq_false h]; decide)]; exact h2 h
theorem itN {b : Bool} {A B : Prop} (h1 : b = false → A) (h2 : b = true → B) : if (!b) = true then A else B := by
  cases b with
  | true => exact itF (h2 rfl)
  | false => exact itT (h1 rfl)
theorem itB {b : Bool} {A B : Prop} (h1 : b = true → A) (h2 : b = false → B) : if b = true then A else B := by
  cases b with
  | true => exact itT (h1 rfl)
  | false => exact itF (h2 rfl)
end

/-! ### frames -/
/-- all but p is as it was -/
def Fr (p : Addr) (H H' : Hp) : Prop := ∀ b o, b ≠ p → H b = some o → H' b = some o
theorem Fr.refl (p : Addr) (H : Hp) : Fr p H H := fun _ _ _ h => h
theorem Fr.trans {p : Addr} {H H1 H2 : Hp} (a : Fr p H H1) (b : Fr p H1 H2) : Fr p H H2 := fun x o n h => b x o n (a x o n h)
theorem Fr.of {p : Addr} {H H' : Hp} (s : Same H H') : Fr p H H' := fun b o _ h => s b o h
theorem Fr.upd {p : Addr} {H H' : Hp} {o : HO} (f : Fr p H H') : Fr p H (upd H' p o) := fun b u n h => by rw [upd_ne n]; exact f b u n h
theorem Fr.l {K : PySem.W.Frag} {p a : Addr} {H H' : Hp} {xs : List V} (f : Fr p H H') (n : a ≠ p) (h : SqL K H a xs) : SqL K H' a xs := by
  rcases h with (h | ⟨o, h⟩) | h
  · exact .inl (.inl (f _ _ n h))
  · exact .inl (.inr ⟨o, f _ _ n h⟩)
  · exact .inr h
theorem Fr.t {K : PySem.W.Frag} {p a : Addr} {H H' : Hp} {xs : List V} (f : Fr p H H') (n : a ≠ p) (h : SqT K H a xs) : SqT K H' a xs := by
  rcases h with (h | ⟨o, h⟩) | h
  · exact .inl (.inl (f _ _ n h))
  · exact .inl (.inr ⟨o, f _ _ n h⟩)
  · exact .inr h
theorem same_new {H : Hp} {p : Addr} {o : HO} (h : H p = none) : Same H (upd H p o) := fun b x e => by
  rw [upd_ne (ne_of_none e h)]
  exact e
/-- an object that H does not know may change -/
theorem same_mut {H H' : Hp} {p : Addr} {o : HO} (s : Same H H') (h : H p = none) : Same H (upd H' p o) := fun a u ha => by
  rw [upd_ne (ne_of_none ha h)]
  exact s a u ha
theorem same_t {K : PySem.W.Frag} {H H' : Hp} {a : Addr} {xs : List V} (e : Same H H') (h : SqT K H a xs) : SqT K H' a xs := by
  rcases h with (h | ⟨o, h⟩) | h
  · exact .inl (.inl (e _ _ h))
  · exact .inl (.inr ⟨o, e _ _ h⟩)
  · exact .inr h
/-- what stood when g was new stands when g changes -/
theorem sq_mut {K : PySem.W.Frag} {H H' : Hp} {b g : Addr} {xs : List V} {o : HO} (h : SqL K H b xs) (hg : H g = none) (h' : SqL K H' b xs) : SqL K (upd H' g o) b xs := by
  by_cases e : b = g
  · subst e
    rcases h with (h | ⟨o, h⟩) | h
    · rw [hg] at h; cases h
    · rw [hg] at h; cases h
    · exact .inr h
  · rcases h' with (h' | ⟨o, h'⟩) | h'
    · exact .inl (.inl (by rw [upd_ne e]; exact h'))
    · exact .inl (.inr ⟨o, by rw [upd_ne e]; exact h'⟩)
    · exact .inr h'
/-- the heap without p -/
def wo (H : Hp) (p : Addr) : Hp := fun b => if b = p then none else H b
theorem wo_ne {H : Hp} {p b : Addr} (n : b ≠ p) : wo H p b = H b := by unfold wo; rw [if_neg n]
theorem wo_p {H : Hp} {p : Addr} : wo H p p = none := by unfold wo; rw [if_pos rfl]
theorem wo_same {H : Hp} {p : Addr} : Same (wo H p) H := fun b o e => by
  unfold wo at e
  split at e
  · cases e
  · exact e
theorem Fr.wo {p : Addr} {H H' : Hp} (f : Fr p H H') : Same (wo H p) (QB.wo H' p) := fun b o e => by
  by_cases n : b = p
  · subst n; rw [wo_p] at e; cases e
  · rw [wo_ne n] at e ⊢; exact f b o n e
theorem wo_upd {p : Addr} {H : Hp} {o : HO} : Same (wo H p) (wo (upd H p o) p) := Fr.wo ((Fr.refl p H).upd)

/-! ### defs as packages -/
structure Dd (K : PySem.W.Frag) (mg : Str → Option Value) (x : Str) (st : Stmt) (ps : List Str) : Prop where
  ex : ∃ (f : Addr) (fd : FuncData), C8.Def K mg x st f fd ∧ Binds K fd ps [] ∧ fd.defaults = .none
theorem dd_mk {K : PySem.W.Frag} {mg : Str → Option Value} {x : Str} {st : Stmt} {ps : List Str} {h : Heap} {f : Addr} {oc : Value} {od an : Option Addr} {osl : Array (Option Value)} {kV doc pm cdv ct : Value}
    (X : K.In h) (G : h.Ns mainGlobals mg) (a : PySem.W.nsIn K mainGlobals x = some (some (.ref f)))
    (l : K.lookup f = some ⟨oc, od, .func (PySem.W.fnOf x x (C8.fnArgs st) (C8.fnBody st) (C8.fnScope st) .none kV doc pm an cdv ct), osl⟩) (c : PySem.W.codeIn K cdv x = true) (k : PySem.W.keepIn K (.ref f) = true)
    (b : ∀ (kV doc pm : Value) (an : Option Addr) (cdv ct : Value) (us : List Value), us.length = ps.length → bindArgs (PySem.W.fnOf x x (C8.fnArgs st) (C8.fnBody st) (C8.fnScope st) .none kV doc pm an cdv ct) ⟨us, []⟩ = pure (ps.zip us)) : Dd K mg x st ps :=
  ⟨f, _, ⟨⟨_, _, _, _, _, _, _, _, _, _, rfl, l, c⟩, PySem.W.mg_of X G a, k⟩, .all (b kV doc pm an cdv ct), rfl⟩
theorem cal_of {P : Program} {w : World} {K : PySem.W.Frag} {mg : Str → Option Value} {base : Heap} {x : Str} {st : Stmt} {N ps : List Str} {k : Nat} {sp : Sp} (d : Dd K mg x st ps) (S : FnScope N ps (C8.fnScope st)) (len : ∀ vs H Q E, sp vs H Q E → vs.length = ps.length)
    (hbody : ∀ (f : Addr) (cdv : Value) (A : Around) (outer : List Env) (s : Shared) (H : Hp) (vs : List V) (Q : VK) (E : XK), Room k (A.deeper (envOfC x (C8.fnScope st) s.heap.objs.size f cdv)) → sp vs H Q E →
      ∃ t, PSs (cxOf CX0 P w K mg base N x (C8.fnScope st) f cdv A outer s H E).nox (C8.fnBody st) t ∧ t { nx := fun _ H' => Q .non H', rt := Q } (start N vs) H) : C8.Cal P w K mg base (k + 1) x sp [] := by
  obtain ⟨f, fd, F, b, _⟩ := d.ex
  exact C8.cal0 F b .nil S len (hbody f)
/-! ### ints in sequences -/
theorem idx_before : ∀ (ns : List Int) (x y : Int) (m : Nat), m < ns.idxOf x → ns[m]? = some y → y ≠ x
  | [], _, _, _, h, _ => by simp at h
  | z :: r, x, y, 0, h, e => by
    simp at e
    subst e
    intro e2
    subst e2
    simp at h
  | z :: r, x, y, m + 1, h, e => by
    rw [List.idxOf_cons] at h
    by_cases hz : z = x
    · subst hz; simp at h
    · have : (z == x) = false := by simp [hz]
      rw [this] at h
      simp at h e
      exact idx_before r x y m h e
theorem flat_ints (ns : List Int) : (ns.map V.int).all flatV = true := by simp [List.all_eq_true, flatV]
theorem in_ints (x : Int) (ns : List Int) : inV (.int x) (ns.map V.int) = decide (x ∈ ns) := by
  unfold inV
  induction ns with
  | nil => rfl
  | cons y r ih =>
    rw [List.map_cons, List.any_cons, ih]
    show ((y == x) || decide (x ∈ r)) = decide (x ∈ y :: r)
    by_cases h : y = x
    · subst h; simp
    · have h' : ¬ x = y := fun e => h e.symm
      simp [h, h']
section
variable {K : PySem.W.Frag} {σ : L2.St} {H : Hp} {Q : VK} {QT : Bool → Hp → Prop} {D : Ends} {t u tb : TS} {te : TE} {x : Int} {p : Addr} {ns : List Int} {g : TG} {A B : Prop} {v : V}
theorem inL (hp : SqL K H p (ns.map V.int)) (h : Q (.bl (decide (x ∈ ns))) H) : rIn K false (.int x) (.ref p) H Q := ⟨p, _, rfl, .inl hp, rfl, flat_ints ns, by rw [in_ints]; exact h⟩
theorem niL (hp : SqL K H p (ns.map V.int)) (h : Q (.bl (!decide (x ∈ ns))) H) : rIn K true (.int x) (.ref p) H Q := ⟨p, _, rfl, .inl hp, rfl, flat_ints ns, by rw [in_ints]; exact h⟩
theorem inT (hp : SqT K H p (ns.map V.int)) (h : Q (.bl (decide (x ∈ ns))) H) : rIn K false (.int x) (.ref p) H Q := ⟨p, _, rfl, .inr hp, rfl, flat_ints ns, by rw [in_ints]; exact h⟩
theorem niT (hp : SqT K H p (ns.map V.int)) (h : Q (.bl (!decide (x ∈ ns))) H) : rIn K true (.int x) (.ref p) H Q := ⟨p, _, rfl, .inr hp, rfl, flat_ints ns, by rw [in_ints]; exact h⟩
theorem idxL (hp : SqL K H p (ns.map V.int)) (hx : x ∈ ns) (h : Q (.int ((ns.idxOf x : Nat) : Int)) H) : rIndex K (.ref p) [.int x] H Q := by
  have hi := List.idxOf_lt_length_of_mem hx
  refine ⟨p, _, .int x, ns.idxOf x, .int x, rfl, rfl, hp, rfl, flat_ints ns, ?_, ?_, fun m z hm hz => ?_, h⟩
  · rw [List.getElem?_map, List.getElem?_eq_getElem hi, List.getElem_idxOf]; rfl
  · show (x == x) = true
    simp
  · rw [List.getElem?_map] at hz
    cases e : ns[m]? with
    | none => rw [e] at hz; cases hz
    | some y =>
      rw [e] at hz
      cases hz
      show (y == x) = false
      obtain ⟨hl, ey⟩ := List.getElem?_eq_some_iff.mp e
      have := idx_before ns x y m hm e
      simpa using this
theorem cut_take {xs : List V} {k : Nat} (h : k ≤ xs.length) : cutV xs none (some (k : Int)) = xs.take k := by
  unfold cutV
  rw [HT.sIx_nat, HT.sIx_none, Nat.min_eq_left h]
  simp
theorem cut_drop {xs : List V} {k : Nat} (h : k ≤ xs.length) : cutV xs (some (k : Int)) none = xs.drop k := by
  unfold cutV
  rw [HT.sIx_nat, HT.sIx_none, Nat.min_eq_left h]
  exact List.take_of_length_le (by rw [List.length_drop]; omega)
theorem itND {c : Prop} [Decidable c] (h1 : ¬ c → A) (h2 : c → B) : if (!decide c) = true then A else B := by
  by_cases h : c
  · rw [if_neg (by rw [decide_eq_true h]; decide)]; exact h2 h
  · rw [if_pos (by rw [decide_eq_false h]; rfl)]; exact h1 h
theorem len_map {f : Int → V} : ((ns.map f).length : Int) = (ns.length : Int) := by rw [List.length_map]
theorem at_ints {j : Int} {y : Int} (h0 : 0 ≤ j) (h : ns[j.toNat]? = some y) : atI (ns.map V.int) j = some (.int y) := at_of (j := j.toNat) (by omega) (by rw [List.getElem?_map, h]; rfl)
theorem at_any {xs : List V} {j : Int} {y : V} (h0 : 0 ≤ j) (h : xs[j.toNat]? = some y) : atI xs j = some y := at_of (j := j.toNat) (by omega) h
/-! ### for -/
def ForW (J : It) (g : TG) (tb : TS) (D : Ends) (σ : L2.St) (H : Hp) : Prop := ∃ W : Nat → Nat → L2.St → Hp → Prop, (∃ m, W 0 m σ H) ∧ ∀ i m σ H, W i m σ H →
  (J.stop i H ∧ D.nx σ H) ∨ (J.go i H ∧ ∃ N : L2.St → Hp → Prop, (∀ σ' H', N σ' H' → ∃ m', m' < m ∧ W (i + 1) m' σ' H') ∧ ∀ x H', J.yld i H x H' → g x σ H' fun σ2 H2 => tb { D with nx := N, ct := N, bk := D.nx } σ2 H2)
def kRng1 (g : TG) (tb : TS) (D : Ends) (σ : L2.St) : List V → Hp → Prop := fun vs H1 => ∃ j : Int, vs = [.int j] ∧ -(2 ^ 62) ≤ j ∧ j < 2 ^ 62 ∧ ForW (Itr 0 j.toNat) g tb D σ H1
def kRng2 (g : TG) (tb : TS) (D : Ends) (σ : L2.St) : List V → Hp → Prop := fun vs H1 => ∃ i j : Int, vs = [.int i, .int j] ∧ (-(2 ^ 62) ≤ i ∧ i < 2 ^ 62 ∧ -(2 ^ 62) ≤ j ∧ j < 2 ^ 62) ∧ ForW (Itr i (j - i).toNat) g tb D σ H1
def kLst (K : PySem.W.Frag) (g : TG) (tb : TS) (D : Ends) (σ : L2.St) : VK := fun x H1 => ∃ a, x = .ref a ∧ (∃ xs, SqL K H1 a xs) ∧ ForW (Itl K a) g tb D σ H1
def kTpl (K : PySem.W.Frag) (g : TG) (tb : TS) (D : Ends) (σ : L2.St) : VK := fun x H1 => ∃ a, x = .ref a ∧ (∃ xs, SqT K H1 a xs) ∧ ForW (Itt K a) g tb D σ H1
theorem f_rng1 {ta : TA} (h : ta σ H (kRng1 g tb D σ)) : tFor (iRng1 ta) g tb D σ H := h
theorem f_rng2 {ta : TA} (h : ta σ H (kRng2 g tb D σ)) : tFor (iRng2 ta) g tb D σ H := h
theorem f_lst (h : te σ H (kLst K g tb D σ)) : tFor (iList K te) g tb D σ H := h
theorem f_tup (h : te σ H (kTpl K g tb D σ)) : tFor (iTup K te) g tb D σ H := h
theorem fs_rng1 {ta : TA} (h : ta σ H (kRng1 g tb { D with nx := u D } σ)) : tSeq (tFor (iRng1 ta) g tb) u D σ H := h
theorem fs_rng2 {ta : TA} (h : ta σ H (kRng2 g tb { D with nx := u D } σ)) : tSeq (tFor (iRng2 ta) g tb) u D σ H := h
theorem fs_lst (h : te σ H (kLst K g tb { D with nx := u D } σ)) : tSeq (tFor (iList K te) g tb) u D σ H := h
theorem fs_tup (h : te σ H (kTpl K g tb { D with nx := u D } σ)) : tSeq (tFor (iTup K te) g tb) u D σ H := h
/-- for i in range(n): Pv by the turn; N: the next turn, B: behind the loop -/
theorem k_rng1 {j : Int} (Pv : Nat → L2.St → Hp → Prop) (b1 : -(2 ^ 62) ≤ j) (b2 : j < 2 ^ 62) (h0 : Pv 0 σ H)
    (hs : ∀ (i : Nat) σ H, (i : Int) < j → Pv i σ H → ∀ N B : L2.St → Hp → Prop, (∀ σ H, Pv (i + 1) σ H → N σ H) → (∀ σ H, D.nx σ H → B σ H) → g (.int (i : Int)) σ H fun σ2 H2 => tb ⟨N, D.rt, B, N⟩ σ2 H2)
    (hd : ∀ σ H, Pv j.toNat σ H → D.nx σ H) : kRng1 g tb D σ [.int j] H := by
  refine ⟨j, rfl, b1, b2, for_range (lo := 0) (n := j.toNat) Pv h0 (fun i σ H hi hp => ?_) hd⟩
  have e : (0 : Int) + (i : Int) = (i : Int) := Int.zero_add _
  rw [e]
  exact hs i σ H (by omega) hp _ _ (fun _ _ q => q) (fun _ _ q => q)
theorem k_rng2 {lo j : Int} (Pv : Nat → L2.St → Hp → Prop) (b : -(2 ^ 62) ≤ lo ∧ lo < 2 ^ 62 ∧ -(2 ^ 62) ≤ j ∧ j < 2 ^ 62) (h0 : Pv 0 σ H)
    (hs : ∀ (i : Nat) σ H, lo + (i : Int) < j → Pv i σ H → ∀ N B : L2.St → Hp → Prop, (∀ σ H, Pv (i + 1) σ H → N σ H) → (∀ σ H, D.nx σ H → B σ H) → g (.int (lo + (i : Int))) σ H fun σ2 H2 => tb ⟨N, D.rt, B, N⟩ σ2 H2)
    (hd : ∀ σ H, Pv (j - lo).toNat σ H → D.nx σ H) : kRng2 g tb D σ [.int lo, .int j] H := by
  refine ⟨lo, j, rfl, b, for_range (lo := lo) (n := (j - lo).toNat) Pv h0 (fun i σ H hi hp => ?_) hd⟩
  exact hs i σ H (by omega) hp _ _ (fun _ _ q => q) (fun _ _ q => q)
theorem k_lst {a : Addr} {xs : List V} (Pv : Nat → L2.St → Hp → Prop) (h0 : Pv 0 σ H) (hl : ∀ i σ H, Pv i σ H → SqL K H a xs)
    (hs : ∀ (i : Nat) x σ H, xs[i]? = some x → Pv i σ H → ∀ N B : L2.St → Hp → Prop, (∀ σ H, Pv (i + 1) σ H → N σ H) → (∀ σ H, D.nx σ H → B σ H) → g x σ H fun σ2 H2 => tb ⟨N, D.rt, B, N⟩ σ2 H2)
    (hd : ∀ σ H, Pv xs.length σ H → D.nx σ H) : kLst K g tb D σ (.ref a) H :=
  ⟨a, rfl, ⟨xs, hl 0 σ H h0⟩, for_list (K := K) (a := a) (xs := xs) Pv h0 (fun i σ H _ h => hl i σ H h) (fun i x σ H hx hp => hs i x σ H hx hp _ _ (fun _ _ q => q) (fun _ _ q => q)) hd⟩
theorem k_tpl {a : Addr} {xs : List V} (Pv : Nat → L2.St → Hp → Prop) (h0 : Pv 0 σ H) (hl : ∀ i σ H, Pv i σ H → SqT K H a xs)
    (hs : ∀ (i : Nat) x σ H, xs[i]? = some x → Pv i σ H → ∀ N B : L2.St → Hp → Prop, (∀ σ H, Pv (i + 1) σ H → N σ H) → (∀ σ H, D.nx σ H → B σ H) → g x σ H fun σ2 H2 => tb ⟨N, D.rt, B, N⟩ σ2 H2)
    (hd : ∀ σ H, Pv xs.length σ H → D.nx σ H) : kTpl K g tb D σ (.ref a) H :=
  ⟨a, rfl, ⟨xs, hl 0 σ H h0⟩, for_tup (K := K) (a := a) (xs := xs) Pv h0 (fun i σ H _ h => hl i σ H h) (fun i x σ H hx hp => hs i x σ H hx hp _ _ (fun _ _ q => q) (fun _ _ q => q)) hd⟩
/-! a list or a tuple -/
def iSeq (K : PySem.W.Frag) (tl : TE) : TI := fun σ H R => iList K tl σ H R ∨ iTup K tl σ H R
theorem pi_seq {X : Cx} {tg e : Expr} {tl : TE} (h : PE X e tl) : PI X tg e (iSeq X.K tl) := ⟨fun pins s σ H R I q => q.elim (fun q => (pi_list h).run pins s σ H R I q) fun q => (pi_tup h).run pins s σ H R I q⟩
theorem f_seq {a : Addr} {xs : List V} {i : Nat} (he : σ[i]? = some (some (.ref a))) (Pv : Nat → L2.St → Hp → Prop) (h0 : Pv 0 σ H) (hl : (∀ i σ H, Pv i σ H → SqL K H a xs) ∨ (∀ i σ H, Pv i σ H → SqT K H a xs))
    (hs : ∀ (i : Nat) x σ H, xs[i]? = some x → Pv i σ H → ∀ N B : L2.St → Hp → Prop, (∀ σ H, Pv (i + 1) σ H → N σ H) → (∀ σ H, D.nx σ H → B σ H) → g x σ H fun σ2 H2 => tb ⟨N, D.rt, B, N⟩ σ2 H2)
    (hd : ∀ σ H, Pv xs.length σ H → D.nx σ H) : tFor (iSeq K (tVar i)) g tb D σ H := by
  rcases hl with hl | hl
  · exact .inl ⟨_, he, k_lst (K := K) Pv h0 hl hs hd⟩
  · exact .inr ⟨_, he, k_tpl (K := K) Pv h0 hl hs hd⟩
/-! ### while -/
theorem k_while {c : TT} (Pv : L2.St → Hp → Prop) (μ : L2.St → Hp → Nat) (h0 : Pv σ H)
    (hs : ∀ σ H, Pv σ H → ∀ (Y : Hp → Prop) (Z : Hp → Prop), (∀ H1, (∀ N B : L2.St → Hp → Prop, (∀ σ' H', Pv σ' H' → μ σ' H' < μ σ H → N σ' H') → (∀ σ' H', D.nx σ' H' → B σ' H') → tb ⟨N, D.rt, B, N⟩ σ H1) → Y H1) → (∀ H1, D.nx σ H1 → Z H1) → c σ H fun b H1 => if b = true then Y H1 else Z H1)
    (mono : ∀ σ H Q Q', (∀ b H1, Q b H1 → Q' b H1) → c σ H Q → c σ H Q') : tWhile c tb D σ H := by
  refine while_by Pv μ h0 (fun σ H p => ?_) mono
  exact hs σ H p _ _ (fun H1 q => q _ _ (fun σ' H' p' l => ⟨p', l⟩) (fun _ _ q => q)) (fun H1 q => q)
/-! ### comprehensions -/
def LcW (J : It) (g : TG) (tt : TT) (te : TE) (vs : List Nat) (σ : L2.St) (H1 : Hp) (Q : VK) : Prop := ∀ D, H1 D = none → ∃ W : Nat → Nat → Hp → Prop, (∃ m, W 0 m (upd H1 D (.lst []))) ∧ ∀ i m H, W i m H →
  (J.stop i H ∧ Q (.ref D) H) ∨ (J.go i H ∧ ∃ Nx : Hp → Prop, (∀ H', Nx H' → ∃ m', m' < m ∧ W (i + 1) m' H') ∧ ∀ x H', J.yld i H x H' → g x (wipe σ vs) H' fun σ2 H2 => wipe σ2 vs = wipe σ vs ∧ tt σ2 H2 fun b H3 =>
    if b = true then te σ2 H3 fun y H4 => ∃ acc, H4 D = some (.lst acc) ∧ acc.length < sizeLine ∧ Nx (upd H4 D (.lst (acc ++ [y]))) else Nx H3)
def kcRng1 (g : TG) (tt : TT) (te : TE) (vs : List Nat) (σ : L2.St) (Q : VK) : List V → Hp → Prop := fun xs H1 => ∃ j : Int, xs = [.int j] ∧ -(2 ^ 62) ≤ j ∧ j < 2 ^ 62 ∧ LcW (Itr 0 j.toNat) g tt te vs σ H1 Q
def kcLst (K : PySem.W.Frag) (g : TG) (tt : TT) (te : TE) (vs : List Nat) (σ : L2.St) (Q : VK) : VK := fun x H1 => ∃ a, x = .ref a ∧ (∃ xs, SqL K H1 a xs) ∧ LcW (Itl K a) g tt te vs σ H1 Q
def kcTpl (K : PySem.W.Frag) (g : TG) (tt : TT) (te : TE) (vs : List Nat) (σ : L2.St) (Q : VK) : VK := fun x H1 => ∃ a, x = .ref a ∧ (∃ xs, SqT K H1 a xs) ∧ LcW (Itt K a) g tt te vs σ H1 Q
variable {tt : TT} {vs : List Nat} {tl : TE}
theorem c_rng1 {ta : TA} (h : ta σ H (kcRng1 g tt te vs σ Q)) : tLc (iRng1 ta) g tt te vs σ H Q := h
theorem c_lstL (h : tl σ H (kcLst K g tt te vs σ Q)) : tLc (iList K tl) g tt te vs σ H Q := h
theorem c_tupL (h : tl σ H (kcTpl K g tt te vs σ Q)) : tLc (iTup K tl) g tt te vs σ H Q := h
/-- over any iterator whose i-th item is xs[i] while G stands -/
theorem lcw {J : It} {xs : List V} (hsz : xs.length < sizeLine) (Pv : Addr → Nat → Hp → List V → Prop) (h0 : ∀ D, H D = none → Pv D 0 (upd H D (.lst [])) [])
    (hgo : ∀ D i H' acc, i < xs.length → Pv D i H' acc → J.go i H' ∧ ∀ x H2, J.yld i H' x H2 → H2 = H' ∧ xs[i]? = some x) (hst : ∀ D H' acc, Pv D xs.length H' acc → J.stop xs.length H')
    (hl : ∀ D i H' acc, Pv D i H' acc → H' D = some (.lst acc) ∧ acc.length ≤ i)
    (hs : ∀ D (i : Nat) x H' acc, xs[i]? = some x → Pv D i H' acc → ∀ (N : VK) (N0 : Hp → Prop), (∀ y H4, H4 D = some (.lst acc) → Pv D (i + 1) (upd H4 D (.lst (acc ++ [y]))) (acc ++ [y]) → N y H4) → (∀ H3, Pv D (i + 1) H3 acc → N0 H3) →
      g x (wipe σ vs) H' fun σ2 H2 => wipe σ2 vs = wipe σ vs ∧ tt σ2 H2 fun b H3 => if b = true then te σ2 H3 N else N0 H3)
    (hd : ∀ D H' acc, H D = none → Pv D xs.length H' acc → Q (.ref D) H') : LcW J g tt te vs σ H Q := by
  intro D hD
  refine ⟨fun i m H' => m = xs.length - i ∧ i ≤ xs.length ∧ ∃ acc, Pv D i H' acc, ⟨xs.length, by simp, Nat.zero_le _, [], h0 D hD⟩, ?_⟩
  rintro i m H' ⟨rfl, hi, acc, p⟩
  by_cases hlt : i < xs.length
  · obtain ⟨g1, g2⟩ := hgo D i H' acc hlt p
    refine .inr ⟨g1, fun H2 => ∃ acc, Pv D (i + 1) H2 acc, fun H2 p' => ⟨xs.length - (i + 1), by omega, rfl, hlt, p'⟩, fun x H2 y => ?_⟩
    obtain ⟨e, ex⟩ := g2 x H2 y
    subst e
    refine hs D i x _ acc ex p _ _ (fun y H4 e4 p4 => ⟨acc, e4, Nat.lt_of_le_of_lt (Nat.le_trans (hl D i _ acc p).2 hi) hsz, _, p4⟩) (fun H3 p3 => ⟨acc, p3⟩)
  · have e : i = xs.length := by omega
    subst e
    exact .inl ⟨hst D H' acc p, hd D H' acc hD p⟩
/-- the element and the test read what stood: f says what comes of an item -/
theorem lcp {J : It} {xs : List V} (hsz : xs.length < sizeLine) (f : V → Option V)
    (hgo : ∀ (i : Nat) H', i < xs.length → Same H H' → J.go i H' ∧ ∀ x H2, J.yld i H' x H2 → H2 = H' ∧ xs[i]? = some x) (hst : ∀ H', Same H H' → J.stop xs.length H')
    (hs : ∀ x H', x ∈ xs → Same H H' → ∀ (N : VK) (N0 : Hp → Prop), (∀ y, f x = some y → N y H') → (f x = none → N0 H') →
      g x (wipe σ vs) H' fun σ2 H2 => wipe σ2 vs = wipe σ vs ∧ tt σ2 H2 fun b H3 => if b = true then te σ2 H3 N else N0 H3)
    (hd : ∀ D H', H D = none → Same H H' → H' D = some (.lst (xs.filterMap f)) → Q (.ref D) H') : LcW J g tt te vs σ H Q := by
  refine lcw hsz (fun D i H' acc => H D = none ∧ Same H H' ∧ H' D = some (.lst acc) ∧ acc = (xs.take i).filterMap f) (fun D hD => ⟨hD, same_new hD, upd_same, by simp⟩)
    (fun D i H' acc hi p => hgo i H' hi p.2.1) (fun D H' acc p => hst H' p.2.1) (fun D i H' acc p => ⟨p.2.2.1, ?_⟩) (fun D i x H' acc hx p N N0 h1 h2 => ?_) (fun D H' acc hD p => ?_)
  · rw [p.2.2.2]
    exact Nat.le_trans (List.length_filterMap_le _ _) (by rw [List.length_take]; omega)
  · obtain ⟨hD, sm, hl, ha⟩ := p
    have ex : (xs.take (i + 1)).filterMap f = (xs.take i).filterMap f ++ (match f x with | some y => [y] | none => []) := by
      rw [List.take_add_one, hx, List.filterMap_append]
      cases hf : f x <;> simp [hf]
    refine hs x H' (List.mem_of_getElem? hx) sm N N0 (fun y hf => h1 y H' hl ⟨hD, same_mut sm hD, upd_same, ?_⟩) (fun hf => h2 H' ⟨hD, sm, hl, ?_⟩)
    · rw [ex, hf, ha]
    · rw [ex, hf, ha]; simp
  · obtain ⟨_, sm, hl, ha⟩ := p
    rw [ha, List.take_length] at hl
    exact hd D H' hD sm hl
/-- the same by places: R i the list behind i turns -/
theorem lcR {J : It} {xs : List V} (hsz : xs.length < sizeLine) (R : Nat → List V) (r0 : R 0 = [])
    (hgo : ∀ (i : Nat) H', i < xs.length → Same H H' → J.go i H' ∧ ∀ x H2, J.yld i H' x H2 → H2 = H' ∧ xs[i]? = some x) (hst : ∀ H', Same H H' → J.stop xs.length H')
    (hs : ∀ (i : Nat) x H', xs[i]? = some x → Same H H' → ∀ (N : VK) (N0 : Hp → Prop), (∀ y, R (i + 1) = R i ++ [y] → N y H') → (R (i + 1) = R i → N0 H') →
      g x (wipe σ vs) H' fun σ2 H2 => wipe σ2 vs = wipe σ vs ∧ tt σ2 H2 fun b H3 => if b = true then te σ2 H3 N else N0 H3)
    (hd : ∀ D H', H D = none → Same H H' → H' D = some (.lst (R xs.length)) → Q (.ref D) H') : LcW J g tt te vs σ H Q := by
  refine lcw hsz (fun D i H' acc => H D = none ∧ Same H H' ∧ H' D = some (.lst acc) ∧ acc = R i ∧ acc.length ≤ i) (fun D hD => ⟨hD, same_new hD, upd_same, r0.symm, Nat.le_refl _⟩)
    (fun D i H' acc hi p => hgo i H' hi p.2.1) (fun D H' acc p => hst H' p.2.1) (fun D i H' acc p => ⟨p.2.2.1, p.2.2.2.2⟩) (fun D i x H' acc hx p N N0 h1 h2 => ?_) (fun D H' acc hD p => ?_)
  · obtain ⟨hD, sm, hl, ha, hn⟩ := p
    refine hs i x H' hx sm N N0 (fun y hf => h1 y H' hl ⟨hD, same_mut sm hD, upd_same, by rw [hf, ha], by simp; omega⟩) (fun hf => h2 H' ⟨hD, sm, hl, by rw [hf, ha], by omega⟩)
  · obtain ⟨_, sm, hl, ha, _⟩ := p
    rw [ha] at hl
    exact hd D H' hD sm hl
/-- by places, new things may be made on the way -/
theorem lcRS {J : It} {xs : List V} (hsz : xs.length < sizeLine) (R : Nat → List V) (r0 : R 0 = [])
    (hgo : ∀ (i : Nat) H', i < xs.length → Same H H' → J.go i H' ∧ ∀ x H2, J.yld i H' x H2 → H2 = H' ∧ xs[i]? = some x) (hst : ∀ H', Same H H' → J.stop xs.length H')
    (hs : ∀ (i : Nat) x H', xs[i]? = some x → Same H H' → ∀ (N : VK) (N0 : Hp → Prop), (∀ y H4, Same H' H4 → R (i + 1) = R i ++ [y] → N y H4) → (∀ H3, Same H' H3 → R (i + 1) = R i → N0 H3) →
      g x (wipe σ vs) H' fun σ2 H2 => wipe σ2 vs = wipe σ vs ∧ tt σ2 H2 fun b H3 => if b = true then te σ2 H3 N else N0 H3)
    (hd : ∀ D H', H D = none → Same H H' → H' D = some (.lst (R xs.length)) → Q (.ref D) H') : LcW J g tt te vs σ H Q := by
  refine lcw hsz (fun D i H' acc => H D = none ∧ Same H H' ∧ H' D = some (.lst acc) ∧ acc = R i ∧ acc.length ≤ i) (fun D hD => ⟨hD, same_new hD, upd_same, r0.symm, Nat.le_refl _⟩)
    (fun D i H' acc hi p => hgo i H' hi p.2.1) (fun D H' acc p => hst H' p.2.1) (fun D i H' acc p => ⟨p.2.2.1, p.2.2.2.2⟩) (fun D i x H' acc hx p N N0 h1 h2 => ?_) (fun D H' acc hD p => ?_)
  · obtain ⟨hD, sm, hl, ha, hn⟩ := p
    refine hs i x H' hx sm N N0 (fun y H4 s4 hf => h1 y H4 (s4 _ _ hl) ⟨hD, same_mut (sm.trans s4) hD, upd_same, by rw [hf, ha], by simp; omega⟩) (fun H3 s3 hf => h2 H3 ⟨hD, sm.trans s3, s3 _ _ hl, by rw [hf, ha], by omega⟩)
  · obtain ⟨_, sm, hl, ha, _⟩ := p
    rw [ha] at hl
    exact hd D H' hD sm hl
theorem lst_go {a : Addr} {xs : List V} (hp : SqL K H a xs) : (∀ (i : Nat) H', i < xs.length → Same H H' → (Itl K a).go i H' ∧ ∀ x H2, (Itl K a).yld i H' x H2 → H2 = H' ∧ xs[i]? = some x) ∧ ∀ H', Same H H' → (Itl K a).stop xs.length H' :=
  ⟨fun i H' hi sm => ⟨⟨xs, xs[i], sm.seq hp, by simp [hi]⟩, fun x H2 y => ⟨y.1, y.2 xs (sm.seq hp)⟩⟩, fun H' sm => ⟨xs, sm.seq hp, Nat.le_refl _⟩⟩
theorem tup_go {a : Addr} {xs : List V} (hp : SqT K H a xs) : (∀ (i : Nat) H', i < xs.length → Same H H' → (Itt K a).go i H' ∧ ∀ x H2, (Itt K a).yld i H' x H2 → H2 = H' ∧ xs[i]? = some x) ∧ ∀ H', Same H H' → (Itt K a).stop xs.length H' :=
  ⟨fun i H' hi sm => ⟨⟨xs, xs[i], same_t sm hp, by simp [hi]⟩, fun x H2 y => ⟨y.1, y.2 xs (same_t sm hp)⟩⟩, fun H' sm => ⟨xs, same_t sm hp, Nat.le_refl _⟩⟩
def rngV (n : Nat) : List V := (List.range n).map fun i : Nat => V.int (i : Int)
theorem rng_go {n : Nat} : (∀ (i : Nat) H', i < (rngV n).length → Same H H' → (Itr 0 n).go i H' ∧ ∀ x H2, (Itr 0 n).yld i H' x H2 → H2 = H' ∧ (rngV n)[i]? = some x) ∧ ∀ H', Same H H' → (Itr 0 n).stop (rngV n).length H' := by
  have hl : (rngV n).length = n := by simp [rngV]
  refine ⟨fun i H' hi sm => ⟨by rw [hl] at hi; exact hi, fun x H2 y => ⟨y.1, ?_⟩⟩, fun H' sm => by rw [hl]; exact Nat.le_refl _⟩
  rw [y.2]
  rw [hl] at hi
  simp [rngV, hi]
theorem kc_lst {a : Addr} {xs : List V} (hp : SqL K H a xs) (hsz : xs.length < sizeLine) (f : V → Option V)
    (hs : ∀ x H', x ∈ xs → Same H H' → ∀ (N : VK) (N0 : Hp → Prop), (∀ y, f x = some y → N y H') → (f x = none → N0 H') → g x (wipe σ vs) H' fun σ2 H2 => wipe σ2 vs = wipe σ vs ∧ tt σ2 H2 fun b H3 => if b = true then te σ2 H3 N else N0 H3)
    (hd : ∀ D H', H D = none → Same H H' → H' D = some (.lst (xs.filterMap f)) → Q (.ref D) H') : kcLst K g tt te vs σ Q (.ref a) H :=
  ⟨a, rfl, ⟨xs, hp⟩, lcp hsz f (lst_go hp).1 (lst_go hp).2 hs hd⟩
theorem kc_tup {a : Addr} {xs : List V} (hp : SqT K H a xs) (hsz : xs.length < sizeLine) (f : V → Option V)
    (hs : ∀ x H', x ∈ xs → Same H H' → ∀ (N : VK) (N0 : Hp → Prop), (∀ y, f x = some y → N y H') → (f x = none → N0 H') → g x (wipe σ vs) H' fun σ2 H2 => wipe σ2 vs = wipe σ vs ∧ tt σ2 H2 fun b H3 => if b = true then te σ2 H3 N else N0 H3)
    (hd : ∀ D H', H D = none → Same H H' → H' D = some (.lst (xs.filterMap f)) → Q (.ref D) H') : kcTpl K g tt te vs σ Q (.ref a) H :=
  ⟨a, rfl, ⟨xs, hp⟩, lcp hsz f (tup_go hp).1 (tup_go hp).2 hs hd⟩
theorem kc_lstR {a : Addr} {xs : List V} (hp : SqL K H a xs) (hsz : xs.length < sizeLine) (R : Nat → List V) (r0 : R 0 = [])
    (hs : ∀ (i : Nat) x H', xs[i]? = some x → Same H H' → ∀ (N : VK) (N0 : Hp → Prop), (∀ y, R (i + 1) = R i ++ [y] → N y H') → (R (i + 1) = R i → N0 H') → g x (wipe σ vs) H' fun σ2 H2 => wipe σ2 vs = wipe σ vs ∧ tt σ2 H2 fun b H3 => if b = true then te σ2 H3 N else N0 H3)
    (hd : ∀ D H', H D = none → Same H H' → H' D = some (.lst (R xs.length)) → Q (.ref D) H') : kcLst K g tt te vs σ Q (.ref a) H :=
  ⟨a, rfl, ⟨xs, hp⟩, lcR hsz R r0 (lst_go hp).1 (lst_go hp).2 hs hd⟩
theorem kc_lstRS {a : Addr} {xs : List V} (hp : SqL K H a xs) (hsz : xs.length < sizeLine) (R : Nat → List V) (r0 : R 0 = [])
    (hs : ∀ (i : Nat) x H', xs[i]? = some x → Same H H' → ∀ (N : VK) (N0 : Hp → Prop), (∀ y H4, Same H' H4 → R (i + 1) = R i ++ [y] → N y H4) → (∀ H3, Same H' H3 → R (i + 1) = R i → N0 H3) → g x (wipe σ vs) H' fun σ2 H2 => wipe σ2 vs = wipe σ vs ∧ tt σ2 H2 fun b H3 => if b = true then te σ2 H3 N else N0 H3)
    (hd : ∀ D H', H D = none → Same H H' → H' D = some (.lst (R xs.length)) → Q (.ref D) H') : kcLst K g tt te vs σ Q (.ref a) H :=
  ⟨a, rfl, ⟨xs, hp⟩, lcRS hsz R r0 (lst_go hp).1 (lst_go hp).2 hs hd⟩
theorem kc_tupR {a : Addr} {xs : List V} (hp : SqT K H a xs) (hsz : xs.length < sizeLine) (R : Nat → List V) (r0 : R 0 = [])
    (hs : ∀ (i : Nat) x H', xs[i]? = some x → Same H H' → ∀ (N : VK) (N0 : Hp → Prop), (∀ y, R (i + 1) = R i ++ [y] → N y H') → (R (i + 1) = R i → N0 H') → g x (wipe σ vs) H' fun σ2 H2 => wipe σ2 vs = wipe σ vs ∧ tt σ2 H2 fun b H3 => if b = true then te σ2 H3 N else N0 H3)
    (hd : ∀ D H', H D = none → Same H H' → H' D = some (.lst (R xs.length)) → Q (.ref D) H') : kcTpl K g tt te vs σ Q (.ref a) H :=
  ⟨a, rfl, ⟨xs, hp⟩, lcR hsz R r0 (tup_go hp).1 (tup_go hp).2 hs hd⟩
theorem kc_rngR {j : Int} (b1 : 0 ≤ j) (b2 : j < 16777216) (R : Nat → List V) (r0 : R 0 = [])
    (hs : ∀ (i : Nat) H', (i : Int) < j → Same H H' → ∀ (N : VK) (N0 : Hp → Prop), (∀ y, R (i + 1) = R i ++ [y] → N y H') → (R (i + 1) = R i → N0 H') → g (.int (i : Int)) (wipe σ vs) H' fun σ2 H2 => wipe σ2 vs = wipe σ vs ∧ tt σ2 H2 fun b H3 => if b = true then te σ2 H3 N else N0 H3)
    (hd : ∀ D H', H D = none → Same H H' → H' D = some (.lst (R j.toNat)) → Q (.ref D) H') : kcRng1 g tt te vs σ Q [.int j] H := by
  have hl : (rngV j.toNat).length = j.toNat := by simp [rngV]
  refine ⟨j, rfl, by omega, by omega, lcR (xs := rngV j.toNat) (by rw [hl]; show j.toNat < 2 ^ 24; omega) R r0 rng_go.1 rng_go.2 (fun i x H' hx sm N N0 h1 h2 => ?_) (by rw [hl]; exact hd)⟩
  have hi : i < j.toNat := by rw [← hl]; exact (List.getElem?_eq_some_iff.mp hx).1
  have e : x = .int (i : Int) := by
    simp [rngV, hi] at hx
    exact hx.symm
  subst e
  exact hs i H' (by omega) sm N N0 h1 h2
theorem kc_rng {j : Int} (b1 : -(2 ^ 62) ≤ j) (b2 : j < 16777216) (f : V → Option V)
    (hs : ∀ (i : Nat) H', (i : Int) < j → Same H H' → ∀ (N : VK) (N0 : Hp → Prop), (∀ y, f (.int (i : Int)) = some y → N y H') → (f (.int (i : Int)) = none → N0 H') → g (.int (i : Int)) (wipe σ vs) H' fun σ2 H2 => wipe σ2 vs = wipe σ vs ∧ tt σ2 H2 fun b H3 => if b = true then te σ2 H3 N else N0 H3)
    (hd : ∀ D H', H D = none → Same H H' → H' D = some (.lst ((rngV j.toNat).filterMap f)) → Q (.ref D) H') : kcRng1 g tt te vs σ Q [.int j] H := by
  have hl : (rngV j.toNat).length = j.toNat := by simp [rngV]
  refine ⟨j, rfl, b1, by omega, lcp (xs := rngV j.toNat) (by rw [hl]; show j.toNat < 2 ^ 24; omega) f rng_go.1 rng_go.2 (fun x H' hx sm N N0 h1 h2 => ?_) hd⟩
  obtain ⟨i, hi, rfl⟩ := List.mem_map.mp hx
  exact hs i H' (by have := List.mem_range.mp hi; omega) sm N N0 h1 h2
theorem yes (h : QT true H) : tYes σ H QT := h
end
/-! ### data -/
mutual
theorem Dp.mono {K : PySem.W.Frag} {H H' : Hp} (s : Same H H') : ∀ {v : V} {d : PyData}, Dp K H v d → Dp K H' v d
  | _, _, .non => .non
  | _, _, .bl b => .bl b
  | _, _, .int i => .int i
  | _, _, .str x => .str x
  | _, _, .lst h a => .lst (s.seq h) (Dp.monoAll s a)
  | _, _, .tup h a => .tup (same_t s h) (Dp.monoAll s a)
theorem Dp.monoAll {K : PySem.W.Frag} {H H' : Hp} (s : Same H H') : ∀ {vs : List V} {ds : List PyData}, DpAll K H vs ds → DpAll K H' vs ds
  | _, _, .nil => .nil
  | _, _, .cons h t => .cons (Dp.mono s h) (Dp.monoAll s t)
end
theorem dp_ints {K : PySem.W.Frag} {H : Hp} : ∀ ns : List Int, DpAll K H (ns.map V.int) (ns.map PyData.int)
  | [] => .nil
  | n :: r => .cons (.int n) (dp_ints r)
theorem dp_app {K : PySem.W.Frag} {H : Hp} : ∀ {vs : List V} {ds : List PyData} {v : V} {d : PyData}, DpAll K H vs ds → Dp K H v d → DpAll K H (vs ++ [v]) (ds ++ [d])
  | _, _, _, _, .nil, h => .cons h .nil
  | _, _, _, _, .cons a b, h => .cons a (dp_app b h)
theorem dp_len {K : PySem.W.Frag} {H : Hp} : ∀ {vs : List V} {ds : List PyData}, DpAll K H vs ds → vs.length = ds.length
  | _, _, .nil => rfl
  | _, _, .cons _ b => by simp [dp_len b]
theorem dp_get {K : PySem.W.Frag} {H : Hp} : ∀ {vs : List V} {ds : List PyData} {i : Nat} {d : PyData}, DpAll K H vs ds → ds[i]? = some d → ∃ v, vs[i]? = some v ∧ Dp K H v d
  | _, _, _, _, .nil, h => by simp at h
  | _, _, 0, _, .cons a b, h => by simp at h; subst h; exact ⟨_, rfl, a⟩
  | _, _, i + 1, _, .cons a b, h => by simp at h; simpa using dp_get b h
theorem same_upd2 {G H : Hp} {t : Addr} {o : HO} (s : Same G H) : Same (upd G t o) (upd H t o) := fun b u e => by
  by_cases h : b = t
  · subst h; rw [upd_same] at e ⊢; exact e
  · rw [upd_ne h] at e ⊢; exact s b u e
/-! ### a dict of numbers by their order -/
def numsFrom : Nat → List Int → List (Key × V)
  | _, [] => []
  | n, v :: r => (.inl v, .int n) :: numsFrom (n + 1) r
theorem numsFrom_len : ∀ (s : List Int) (n : Nat), (numsFrom n s).length = s.length
  | [], _ => rfl
  | _ :: r, n => by simp [numsFrom, numsFrom_len r]
theorem numsFrom_val : ∀ (s : List Int) (n : Nat) (v : Int), valV (numsFrom n s) (.inl v) = if v ∈ s then some (.int ((n + s.idxOf v : Nat) : Int)) else none
  | [], _, _ => rfl
  | y :: r, n, v => by
    have ih := numsFrom_val r (n + 1) v
    unfold valV at ih ⊢
    rw [show numsFrom n (y :: r) = (Sum.inl y, V.int (n : Int)) :: numsFrom (n + 1) r from rfl, List.find?_cons]
    by_cases h : y = v
    · subst h
      simp
    · have h' : ¬ v = y := fun e => h e.symm
      have e1 : decide ((Sum.inl y : Key) = Sum.inl v) = false := decide_eq_false (fun e => h (Sum.inl.inj e))
      have e2 : (y == v) = false := by simp [h]
      simp only [e1, ih, List.idxOf_cons, e2, List.mem_cons, h', false_or]
      split <;> simp <;> omega
theorem numsFrom_snoc : ∀ (s : List Int) (n : Nat) (v : Int), numsFrom n (s ++ [v]) = numsFrom n s ++ [(.inl v, .int ((n + s.length : Nat) : Int))]
  | [], _, _ => rfl
  | y :: r, n, v => by
    show (_, _) :: numsFrom (n + 1) (r ++ [v]) = (_, _) :: (numsFrom (n + 1) r ++ _)
    rw [numsFrom_snoc r (n + 1) v]
    simp
    omega
/-! ### data: what == says -/
mutual
def plainD : PyData → Bool
  | .none => true
  | .int _ => true
  | .str _ => true
  | .list xs => plainDAll xs
  | .tuple xs => plainDAll xs
  | _ => false
def plainDAll : List PyData → Bool
  | [] => true
  | x :: xs => plainD x && plainDAll xs
end
mutual
theorem eqv_plain : ∀ (d e : PyData), plainD d = true → plainD e = true → (PyData.eqv d e = true ↔ d = e)
  | .none, e, _, h => by cases e <;> simp_all [PyData.eqv, plainD]
  | .int i, e, _, h => by cases e <;> simp_all [PyData.eqv, plainD]
  | .str x, e, _, h => by cases e <;> simp_all [PyData.eqv, plainD]
  | .list xs, e, hd, h => by
    cases e with
    | list ys =>
      have := eqv_plainAll xs ys (by simpa [plainD] using hd) (by simpa [plainD] using h)
      simp only [PyData.eqv, this, PyData.list.injEq]
    | _ => simp_all [PyData.eqv, plainD]
  | .tuple xs, e, hd, h => by
    cases e with
    | tuple ys =>
      have := eqv_plainAll xs ys (by simpa [plainD] using hd) (by simpa [plainD] using h)
      simp only [PyData.eqv, this, PyData.tuple.injEq]
    | _ => simp_all [PyData.eqv, plainD]
  | .bool _, _, h, _ => by simp [plainD] at h
  | .dict _, _, h, _ => by simp [plainD] at h
theorem eqv_plainAll : ∀ (ds es : List PyData), plainDAll ds = true → plainDAll es = true → (PyData.eqvAll ds es = true ↔ ds = es)
  | [], [], _, _ => by simp [PyData.eqvAll]
  | [], _ :: _, _, _ => by simp [PyData.eqvAll]
  | _ :: _, [], _, _ => by simp [PyData.eqvAll]
  | d :: ds, e :: es, h1, h2 => by
    simp only [plainDAll, Bool.and_eq_true] at h1 h2
    have a := eqv_plain d e h1.1 h2.1
    have b := eqv_plainAll ds es h1.2 h2.2
    simp only [PyData.eqvAll, Bool.and_eq_true, a, b, List.cons.injEq]
end
theorem eqv_dec {d e : PyData} [Decidable (d = e)] (h1 : plainD d = true) (h2 : plainD e = true) : PyData.eqv d e = decide (d = e) := by
  have := eqv_plain d e h1 h2
  by_cases h : d = e
  · rw [decide_eq_true h]; exact this.mpr h
  · rw [decide_eq_false h]
    cases hq : PyData.eqv d e with
    | true => exact absurd (this.mp hq) h
    | false => rfl
theorem plainAll_of : ∀ {ds : List PyData}, (∀ d ∈ ds, plainD d = true) → plainDAll ds = true
  | [], _ => rfl
  | d :: ds, h => by
    simp only [plainDAll, Bool.and_eq_true]
    exact ⟨h d List.mem_cons_self, plainAll_of fun x hx => h x (List.mem_cons_of_mem _ hx)⟩
theorem lay_of : ∀ {ds : List PyData}, (∀ d ∈ ds, PyData.canLay0 d = true) → PyData.canLayAll0 ds = true
  | [], _ => rfl
  | d :: ds, h => by
    simp only [PyData.canLayAll0, Bool.and_eq_true]
    exact ⟨h d List.mem_cons_self, lay_of fun x hx => h x (List.mem_cons_of_mem _ hx)⟩
theorem depth_of {n : Nat} : ∀ {ds : List PyData}, (∀ d ∈ ds, d.depth ≤ n) → PyData.depthAll ds ≤ n
  | [], _ => by simp [PyData.depthAll]
  | d :: ds, h => by
    simp only [PyData.depthAll]
    have h1 := h d List.mem_cons_self
    have h2 := depth_of fun x hx => h x (List.mem_cons_of_mem _ hx)
    omega
theorem shaped_t {ds : List PyData} (h : ∀ d ∈ ds, PyData.canLay0 d = true ∧ d.depth ≤ 63) : SeqAt.shaped (.tuple ds) = true := by
  unfold SeqAt.shaped
  rw [Bool.and_eq_true]
  refine ⟨by simp only [PyData.canLay0]; exact lay_of fun d hd => (h d hd).1, decide_eq_true ?_⟩
  simp only [PyData.depth]
  have := depth_of fun d hd => (h d hd).2
  omega
theorem shaped_l {ds : List PyData} (h : ∀ d ∈ ds, PyData.canLay0 d = true ∧ d.depth ≤ 63) : SeqAt.shaped (.list ds) = true := by
  unfold SeqAt.shaped
  rw [Bool.and_eq_true]
  refine ⟨by simp only [PyData.canLay0]; exact lay_of fun d hd => (h d hd).1, decide_eq_true ?_⟩
  simp only [PyData.depth]
  have := depth_of fun d hd => (h d hd).2
  omega
theorem shaped_ints_l (ns : List Int) : SeqAt.shaped (.list (ns.map PyData.int)) = true := shaped_l fun d hd => by
  obtain ⟨i, _, rfl⟩ := List.mem_map.mp hd
  exact ⟨rfl, by simp [PyData.depth]⟩
theorem shaped_ints_t (ns : List Int) : SeqAt.shaped (.tuple (ns.map PyData.int)) = true := shaped_t fun d hd => by
  obtain ⟨i, _, rfl⟩ := List.mem_map.mp hd
  exact ⟨rfl, by simp [PyData.depth]⟩
/-! ### isinstance -/
theorem isi {K : PySem.W.Frag} {H : Hp} {Q : VK} {x : V} {T C : String} {b : Bool} (ht : TyX K H x (.type T)) (hk : kitB T C = some b) (h : Q (.bl b) H) : rIsi K [x, .ty C] H Q := ⟨x, .ty C, .type T, .type C, b, rfl, .ty C, ht, kit_ty hk, h⟩
theorem ty_of_t {K : PySem.W.Frag} {H : Hp} {a : Addr} {xs : List V} (h : H a = some (.tup xs)) : TyX K H (.ref a) (.type "tuple") := .base (.tup h)
theorem ty_of_l {K : PySem.W.Frag} {H : Hp} {a : Addr} {xs : List V} (h : H a = some (.lst xs)) : TyX K H (.ref a) (.type "list") := .base (.lst h)
theorem ty_i {K : PySem.W.Frag} {H : Hp} {i : Int} : TyX K H (.int i) (.type "int") := .base (.int i)
theorem eqd {K : PySem.W.Frag} {H : Hp} {Q : VK} {x y : V} {d e : PyData} (h1 : Dp K H x d) (h2 : Dp K H y e) (s1 : SeqAt.shaped d = true) (s2 : SeqAt.shaped e = true) (h : Q (.bl (PyData.eqv d e)) H) : rEqD K x y H Q := ⟨d, e, h1, h2, s1, s2, h⟩
theorem ned {K : PySem.W.Frag} {H : Hp} {Q : VK} {x y : V} {d e : PyData} (h1 : Dp K H x d) (h2 : Dp K H y e) (s1 : SeqAt.shaped d = true) (s2 : SeqAt.shaped e = true) (h : Q (.bl (!PyData.eqv d e)) H) : rNeD K x y H Q := ⟨d, e, h1, h2, s1, s2, h⟩
/-! ### the laws' pool of draws -/
/-- the pool at p over the script at a -/
def Pool (K : PySem.W.Frag) (H : Hp) (p a : Addr) (ns : List Int) : Prop := SqL K (wo H p) a (ns.map V.int) ∧ ∃ i c s : Int, 0 ≤ i ∧ H p = some (.lst [.ref a, .int i, .int c, .int s])
def spDraw (K : PySem.W.Frag) : Sp := fun vs H Q _ => ∃ (p a : Addr) (ns : List Int) (m : Int), vs = [.ref p, .int m] ∧ 0 < m ∧ m < 2 ^ 60 ∧ Pool K H p a ns ∧ ∀ (r : Int) (H' : Hp), 0 ≤ r → r < m → Fr p H H' → Pool K H' p a ns → Q (.int r) H'
def spPick (K : PySem.W.Frag) : Sp := fun vs H Q _ => ∃ (p a l : Addr) (ns xs : List Int), vs = [.ref p, .ref l] ∧ Pool K H p a ns ∧ l ≠ p ∧ SqL K H l (xs.map V.int) ∧ 0 < xs.length ∧ xs.length < 1000 ∧ ∀ (x : Int) (H' : Hp), x ∈ xs → Fr p H H' → Pool K H' p a ns → Q (.int x) H'
def spNumber (K : PySem.W.Frag) : Sp := fun vs H Q _ => ∃ (p a : Addr) (ns : List Int), vs = [.ref p] ∧ Pool K H p a ns ∧ ∀ (x : Int) (H' : Hp), -1000000000 < x → x < 1000000000 → Fr p H H' → Pool K H' p a ns → Q (.int x) H'
def spKept (K : PySem.W.Frag) (m : Nat) : Sp := fun vs H Q _ => ∃ (p a : Addr) (ns : List Int), vs = [.ref p] ∧ Pool K H p a ns ∧ ∀ (l : Addr) (ks : List Int) (H' : Hp), H l = none → ks.Nodup → ks.length ≤ m → Fr p H H' → Pool K H' p a ns → H' l = some (.lst (ks.map V.int)) → Q (.ref l) H'
def spValues (K : PySem.W.Frag) : Sp := fun vs H Q _ => ∃ (p a l : Addr) (ns ks : List Int) (n : Nat), vs = [.ref p, .int n, .ref l] ∧ Pool K H p a ns ∧ l ≠ p ∧ SqL K H l (ks.map V.int) ∧ ks.length < 1000 ∧ n < 1000 ∧ ∀ (r : Addr) (xs : List Int) (H' : Hp), H r = none → xs.length = n → Fr p H H' → Pool K H' p a ns → H' r = some (.lst (xs.map V.int)) → Q (.ref r) H'
def spTaken (K : PySem.W.Frag) : Sp := fun vs H Q _ => ∃ (p a v l : Addr) (ns ks ws : List Int), vs = [.ref p, .ref v, .ref l] ∧ Pool K H p a ns ∧ l ≠ p ∧ v ≠ p ∧ SqL K H l (ks.map V.int) ∧ SqL K H v (ws.map V.int) ∧ ws.length < 1000 ∧ ∀ (r : Addr) (xs : List Int) (H' : Hp), H r = none → xs.length = ws.length → Fr p H H' → Pool K H' p a ns → H' r = some (.lst (xs.map V.int)) → Q (.ref r) H'
theorem wo_new {H : Hp} {p l : Addr} {o : HO} (hl : H l = none) : Same (wo H p) (wo (upd H l o) p) := (Fr.of (same_new hl)).wo
theorem Pool.fr {K : PySem.W.Frag} {H H' : Hp} {p a : Addr} {ns : List Int} {i c s : Int} (h : Pool K H p a ns) (f : Fr p H H') (hi : 0 ≤ i) (hp : H' p = some (.lst [.ref a, .int i, .int c, .int s])) : Pool K H' p a ns := ⟨f.wo.seq h.1, i, c, s, hi, hp⟩
theorem Pool.sq {K : PySem.W.Frag} {H : Hp} {p a : Addr} {ns : List Int} (h : Pool K H p a ns) : SqL K H a (ns.map V.int) := wo_same.seq h.1
theorem pool_mk {K : PySem.W.Frag} {H : Hp} {p a : Addr} {ns : List Int} {i c s : Int} (hS : SqL K H a (ns.map V.int)) (hp : H p = none) (hi : 0 ≤ i) : Pool K (upd H p (.lst [.ref a, .int i, .int c, .int s])) p a ns := by
  refine ⟨?_, i, c, s, hi, upd_same⟩
  rcases hS with (h | ⟨o, h⟩) | h
  · exact .inl (.inl (by rw [wo_ne (ne_of_none h hp), upd_ne (ne_of_none h hp)]; exact h))
  · exact .inl (.inr ⟨o, by rw [wo_ne (ne_of_none h hp), upd_ne (ne_of_none h hp)]; exact h⟩)
  · exact .inr h
/-- a new object, and then all but p as it was -/
theorem pool_new {K : PySem.W.Frag} {H : Hp} {p a l : Addr} {ns : List Int} {o : HO} (h : Pool K H p a ns) (hl : H l = none) : Pool K (upd H l o) p a ns := by
  obtain ⟨hS, i, c, s, h0, hp⟩ := h
  exact ⟨(wo_new hl).seq hS, i, c, s, h0, by rw [upd_ne (ne_of_none hp hl)]; exact hp⟩
/-- l is no part of the pool: it was new when the pool stood -/
theorem pool_mut {K : PySem.W.Frag} {H0 H : Hp} {p a l : Addr} {ns : List Int} {o : HO} (h0 : Pool K H0 p a ns) (hl : H0 l = none) (h : Pool K H p a ns) : Pool K (upd H l o) p a ns := by
  obtain ⟨hS, i, c, s, hi, hp⟩ := h
  obtain ⟨hS0, _, _, _, _, hp0⟩ := h0
  have np : p ≠ l := ne_of_none hp0 hl
  refine ⟨?_, i, c, s, hi, by rw [upd_ne np]; exact hp⟩
  have key : a = l → K.lookup a = K.lookup a ∧ SqL K (fun _ => Option.none) a (ns.map V.int) := fun e => by
    subst e
    have hw : wo H0 p a = Option.none := by rw [wo_ne np.symm]; exact hl
    refine ⟨rfl, ?_⟩
    rcases hS0 with (h' | ⟨o, h'⟩) | h'
    · rw [hw] at h'; cases h'
    · rw [hw] at h'; cases h'
    · exact .inr h'
  by_cases e : a = l
  · rcases (key e).2 with (h' | ⟨o, h'⟩) | h'
    · cases h'
    · cases h'
    · exact .inr h'
  · have eq : wo (upd H l o) p a = wo H p a := by
      unfold wo
      split
      · rfl
      · rw [upd_ne e]
    rcases hS with (h | ⟨o', h⟩) | h
    · exact .inl (.inl (by rw [eq]; exact h))
    · exact .inl (.inr ⟨o', by rw [eq]; exact h⟩)
    · exact .inr h
theorem pool_ne {K : PySem.W.Frag} {H : Hp} {p a l : Addr} {ns : List Int} (h : Pool K H p a ns) (hl : H l = none) : l ≠ p := by
  obtain ⟨_, _, _, _, _, hp⟩ := h
  exact (ne_of_none hp hl).symm
theorem Fr.mut {p l : Addr} {H H' : Hp} {o : HO} (f : Fr p H H') (h : H l = Option.none) : Fr p H (L2.upd H' l o) := fun b u n e => by rw [upd_ne (ne_of_none e h)]; exact f b u n e
theorem Fr.nne {p l : Addr} {H H' : Hp} (f : Fr p H H') (n : l ≠ p) (h : H' l = Option.none) : H l = Option.none := by
  cases e : H l with
  | none => rfl
  | some o => rw [f l o n e] at h; cases h
end QB

set_option Elab.async false
set_option linter.all false
set_option maxRecDepth 100000
set_option maxHeartbeats 4000000
/-! Own rule: a set comprehension whose elements are ints, and len of such a set. -/
namespace QS
open PySem PySem.Spec PyProof.Rows L2 PpSet
section
variable {X : Cx}
/-- the empty set of ints -/
abbrev zero (w : World) (d : Addr) : HO := SetO w d (fun _ => false) 0
/-- one int more -/
abbrev more (w : World) (d : Addr) (S : Int → Bool) (n : Nat) (c : Int) : HO := SetO w d (fun j => S j || decide (j = c)) (if S c = true then n else n + 1)
/-- what a turn asks of its element -/
def elK (w : World) (d : Addr) (N : Hp → Prop) : VK := fun y H4 => ∃ (c : Int) (S : Int → Bool) (n : Nat), y = .int c ∧ H4 d = some (SetO w d S n) ∧ n + 1 < scanBound ∧ N (upd H4 d (more w d S n c))
def turnK (w : World) (d : Addr) (g : TG) (tt : TT) (te : TE) (vs : List Nat) (σ : L2.St) (N : Hp → Prop) (x : V) (H' : Hp) : Prop :=
  g x (wipe σ vs) H' fun σ2 H2 => wipe σ2 vs = wipe σ vs ∧ tt σ2 H2 fun b H3 => if b = true then te σ2 H3 (elK w d N) else N H3
def tSi (w : World) (wi : TI) (g : TG) (tt : TT) (te : TE) (vs : List Nat) : TE := fun σ H Q => wi σ H fun J H1 => ∀ d, H1 d = none →
  ∃ W : Nat → Nat → Hp → Prop, (∃ m, W 0 m (upd H1 d (zero w d))) ∧ ∀ i m H, W i m H →
    (J.stop i H ∧ Q (.ref d) H) ∨ (J.go i H ∧ ∃ N : Hp → Prop, (∀ H', N H' → ∃ m', m' < m ∧ W (i + 1) m' H') ∧ ∀ x H', J.yld i H x H' → turnK w d g tt te vs σ N x H')
theorem pe_si {el tg it : Expr} {ifs : List Expr} {scp : Scope} {own : List (PySem.Str × Nat)} {pos : Pos} {wi : TI} {g : TG} {tt : TT} {te : TE} (calm : X.calm = true) (nodup : X.N.Nodup) (walked : PI X tg it wi) (blk : BlkOk X.N X.env.scope scp own)
    (pgs : ∀ (s : Shared) (H : Hp) (C : Addr) (cl : List (PySem.Str × Addr)) (fp : List Addr), PG (X.blk s H scp (compEnvC scp cl C X.env) fp) tg g)
    (pts : ∀ (s : Shared) (H : Hp) (C : Addr) (cl : List (PySem.Str × Addr)) (fp : List Addr), PTs (X.blk s H scp (compEnvC scp cl C X.env) fp) ifs tt)
    (pes : ∀ (s : Shared) (H : Hp) (C : Addr) (cl : List (PySem.Str × Addr)) (fp : List Addr), PE (X.blk s H scp (compEnvC scp cl C X.env) fp) el te)
    (fold : ∀ x, foldedSetIterable it X.env x = pure x := by intro _; rfl) :
    PE X (.SetComp el [⟨tg, it, ifs, 0⟩] scp pos) (tSi X.w wi g tt te (own.map (·.2))) := by
  constructor
  intro pins s σ H Q I reading
  rw [eval_SetComp]
  have caught : ∀ y ∈ scp.names, y.2 = .free → ∃ c, X.env.cells.lookup y.1 = some c := by
    intro y hy e
    rcases blk.free y hy e with k | k
    · exact I.ok.has _ (.inl k)
    · exact I.ok.has _ (.inr k)
  refine wpAny_comprehension_free (use := none) rfl fold (closure_ok caught) blk.kind (fun y hy e => by rw [blk.uniq y hy, e]) ?_
  refine thn (walked.run pins s σ H _ I reading) fun xv sA hA => thn hA fun itv sB hB => ?_
  obtain ⟨ita, fp, tn, J, HB, rfl, IB, T, tnB, fpB, ask⟩ := hB
  refine newSet_ok (newEnv_comp ?_)
  -- the new set at d
  obtain ⟨d, hd⟩ : ∃ d, d = sB.heap.objs.size := ⟨_, rfl⟩
  obtain ⟨W, ⟨m0, w0⟩, turn⟩ := ask d (IB.hok.fresh (Nat.le_of_eq hd.symm))
  rw [← hd]
  generalize eC : ({ sB with heap := sB.heap.push { cls := .type "set", dict := none, data := .set #[] 0 (.fresh 0 0 (!X.w.params.followText "set-order")) } } : Shared) = sC
  have heapC : sC.heap = sB.heap.push { cls := .type "set", dict := none, data := .set #[] 0 (.fresh 0 0 (!X.w.params.followText "set-order")) } := by rw [← eC]
  have IC : Inv X pins σ (upd HB d (zero X.w d)) sC := by
    rw [← eC]
    refine IB.laid (t' := sB.toks) (fun b o e => Heap.get?_push_of_some _ e) (Nat.le_of_eq hd.symm) (setO_new ?_)
    rw [hd]
    exact setR_fresh X.w
  have small : ∀ b ∈ fp, b < sB.heap.objs.size := by
    intro b hb
    obtain ⟨o, e, _⟩ := T.obj _ _ tnB b hb
    exact Heap.lt_size e
  have fpC : ∀ b ∈ fp, FpOk X pins (upd HB d (zero X.w d)) b ∧ b < sC.heap.objs.size := by
    intro b hb
    have lt := small b hb
    constructor
    · refine ⟨?_, (fpB b hb).2⟩
      rw [upd_ne (by rw [hd]; exact Nat.ne_of_lt lt)]
      exact (fpB b hb).1
    · rw [heapC, Heap.size_push]
      exact Nat.lt_succ_of_lt lt
  have tnC : tn 0 sC.heap := T.keep _ _ _ tnB fun b _ o e => by
    rw [heapC]
    exact Heap.get?_push_of_some _ e
  -- the block
  have ID := block_start IC blk nodup fpC
  generalize eH : upd HB d (zero X.w d) = HC at IC fpC ID w0
  generalize eCl : cellsFrom (sC.heap.objs.size + 1) scp.names (cloFrom X.env.cells scp.names []) = cl at ID
  have rg := pgs sC HC sC.heap.objs.size cl fp
  have rt := pts sC HC sC.heap.objs.size cl fp
  have re := pes sC HC sC.heap.objs.size cl fp
  show codeAny _ _ (.compStart (.SetComp el [⟨tg, it, ifs, 0⟩] scp pos) 0 (.ref ita) (.ref d) (compEnvC scp cl sC.heap.objs.size X.env)) (compPost (model X.prog X.w) X.A X.xe none (EP X pins σ Q) (.ref d) sC.heap.objs.size) { sC with heap := pushCells (sC.heap.push { cls := .type "dict", data := .dict #[] }) scp.names }
  generalize eE : compEnvC scp cl sC.heap.objs.size X.env = env at ID rg rt re ⊢
  have locs : env.locals = sC.heap.objs.size := by rw [← eE]; rfl
  generalize eD : ({ sC with heap := pushCells (sC.heap.push { cls := .type "dict", data := .dict #[] }) scp.names } : Shared) = sD at ID ⊢
  have tnD : tn 0 sD.heap := T.keep _ _ _ tnC fun b _ o e => by
    rw [← eD]
    exact pushCells_keeps _ _ _ _ (Heap.get?_push_of_some _ e)
  have free0 : ∀ b ∈ fp, HC b = none := fun b hb => (fpC b hb).1.1
  -- the iterator's own objects, in the block
  have own' : ∀ {σ1 : L2.St} {H1 : Hp} {s1 : Shared}, Inv (X.blk sC HC scp env fp) [] σ1 H1 s1 → (∀ b ∈ fp, H1 b = none) → ∀ b ∈ fp, FpOk (X.blk sC HC scp env fp) [] H1 b := by
    intro σ1 H1 s1 I1 no b hb
    refine ⟨no b hb, (I1.ok.exf b hb).1, I1.ok.exfs b hb, .inl hb, fun x c e => (I1.ok.exf b hb).2 x c e, fun q hq => ?_⟩
    have hq' : q ∈ ([] : List (Addr × Obj)) ++ [] := hq
    simp at hq'
  let Loop : Nat → Shared → Prop := fun n s1 => ∃ (i : Nat) (H1 : Hp), Inv (X.blk sC HC scp env fp) [] (wipe σ (own.map (·.2))) H1 s1 ∧ tn i s1.heap ∧ (∀ b ∈ fp, H1 b = none) ∧ W i n H1
  have start : Loop m0 sD := ⟨0, HC, ID, tnD, free0, w0⟩
  have run : codeAny (model X.prog X.w) X.A (.compLoop (.SetComp el [⟨tg, it, ifs, 0⟩] scp pos) 0 (.ref ita) (.ref d) env) (compPost (model X.prog X.w) X.A X.xe none (EP X pins σ Q) (.ref d) sC.heap.objs.size) sD := by
    refine compLoopS_any Loop (fun n s1 here => ?_) m0 start
    obtain ⟨i, H1, I1, tn1, no1, w1⟩ := here
    rcases turn i n H1 w1 with ⟨stop, last⟩ | ⟨go, N, hN, item⟩
    · -- no item is left
      refine thnF (T.done (X.blk sC HC scp env fp) rfl rfl rfl calm i [] s1 _ H1 (fun _ _ => False) I1 (own' I1 no1) tn1 stop) fun r s2 hr => ?_
      obtain ⟨rfl, I2⟩ := hr
      have back : Inv X pins σ H1 s2 := IC.call' (ch := fp) I2.os I2.base I2.hok I2.bare (fun b hb => by
        obtain ⟨_, f1, _, f3, f4, f5⟩ := (fpC b hb).1
        exact ⟨f3, f1, f4, f5⟩)
      have noL : H1 sC.heap.objs.size = none := by
        have := I2.free
        rw [← locs]
        exact this
      obtain ⟨m, ns, _⟩ := I2.loc
      have ns' : s2.heap.Ns sC.heap.objs.size m := by rw [← locs]; exact ns
      obtain ⟨f0, f1, f2, f3, f4, f5⟩ := IC.fpOk (Nat.le_refl _) noL
      exact ⟨m, ns', fun h2 sb => ⟨.ref d, H1, back.turned (t' := s2.toks) (fun b o hb e => (sb.2 b hb).trans e) f0 f1 f3 f4 f5, rfl, last⟩⟩
    · -- one more
      refine thnF (T.item (X.blk sC HC scp env fp) rfl rfl rfl calm i [] s1 _ H1 (fun _ _ => False) I1 (own' I1 no1) tn1 go) fun r s2 hr => ?_
      obtain ⟨u, rfl, h2⟩ := hr
      refine thnF h2 fun _ s3 h3 => ?_
      obtain ⟨x, H3, I3, rx, y3, tn3, no3⟩ := h3
      have I3p := I3.pinned (own' I3 no3) (T.obj _ _ tn3)
      refine thnF (rg.run _ s3 _ H3 x u _ I3p rx (item x H3 y3)) fun _ s4 h4 => ?_
      obtain ⟨σ4, H4, I4, wp4, q4⟩ := h4
      refine thnF (rt.run _ s4 σ4 H4 _ I4 q4) fun b s5 h5 => ?_
      obtain ⟨H5, I5, q5⟩ := h5
      have close : ∀ {s6 : Shared} {H6 : Hp}, Inv (X.blk sC HC scp env fp) ([] ++ pinsAt fp s3.heap) σ4 H6 s6 → N H6 → ∃ m, m < n ∧ Loop m s6 := by
        intro s6 H6 I6 nx
        obtain ⟨m, lt, w6⟩ := hN H6 nx
        have pinned : ∀ b ∈ fp, ∀ o, s3.heap.get? b = some o → s6.heap.get? b = some o ∧ H6 b = none := by
          intro b hb o e
          have z := I6.pin (b, o) (List.mem_append_right _ (List.mem_append_right _ (mem_pinsAt hb e)))
          exact ⟨z.1, z.2.1⟩
        have len : (wipe σ (own.map (·.2))).length = σ4.length := by rw [← wp4, wipe_length]
        refine ⟨m, lt, i + 1, H6, (I6.unpinned (pins := [])).weak len (fun j v e => ?_), T.keep _ _ _ tn3 (fun b hb o e => (pinned b hb o e).1), fun b hb => ?_, w6⟩
        · rw [← wp4] at e
          exact (wipe_some e).1
        · obtain ⟨o, e, _⟩ := T.obj _ _ tn3 b hb
          exact (pinned b hb o e).2
      cases b with
      | false =>
        simp only [Bool.false_eq_true, if_false] at q5 ⊢
        exact close I5 q5
      | true =>
        simp only [if_true] at q5 ⊢
        refine thnF (re.run _ s5 σ4 H5 _ I5 q5) fun z s6 h6 => ?_
        obtain ⟨y, H6, I6, ry, c, S, k, rfl, hS, room, nx⟩ := h6
        obtain ⟨tk, rfl⟩ := ry
        refine wpAny_mono (mt_sadd (X := X.blk sC HC scp env fp) _ s6 σ4 H6 (.ref d) [.int c] (.ref d) [.int c tk] (fun _ H7 => N H7) I6 rfl (.cons ⟨tk, rfl⟩ .nil) ⟨d, c, S, k, rfl, rfl, hS, room, nx⟩) (fun _ s7 h7 => ?_) fun _ _ f => f.elim
        obtain ⟨_, H7, I7, _, n7⟩ := h7
        exact close I7 n7
  exact codeAny_compStart_set run (T.self X.A 0 _ _ _ tnD run)
/-! over a tuple that stands still: R i the members behind i turns -/
def kcSi (K : PySem.W.Frag) (w : World) (g : TG) (tt : TT) (te : TE) (vs : List Nat) (σ : L2.St) (Q : VK) : VK := fun x H1 => ∃ a, x = .ref a ∧ (∃ xs, SqT K H1 a xs) ∧ ∀ d, H1 d = none →
  ∃ W : Nat → Nat → Hp → Prop, (∃ m, W 0 m (upd H1 d (zero w d))) ∧ ∀ i m H, W i m H →
    ((Itt K a).stop i H ∧ Q (.ref d) H) ∨ ((Itt K a).go i H ∧ ∃ N : Hp → Prop, (∀ H', N H' → ∃ m', m' < m ∧ W (i + 1) m' H') ∧ ∀ x H', (Itt K a).yld i H x H' → turnK w d g tt te vs σ N x H')
theorem c_si {K : PySem.W.Frag} {w : World} {tl : TE} {g : TG} {tt : TT} {te : TE} {vs : List Nat} {σ : L2.St} {H : Hp} {Q : VK} (h : tl σ H (kcSi K w g tt te vs σ Q)) : tSi w (iTup K tl) g tt te vs σ H Q := h
def put (s : List Int) (c : Int) : List Int := if c ∈ s then s else s ++ [c]
theorem kc_si {K : PySem.W.Frag} {w : World} {g : TG} {tt : TT} {te : TE} {vs : List Nat} {σ : L2.St} {H : Hp} {Q : VK} {a : Addr} {xs : List V} (hp : SqT K H a xs) (hsz : xs.length < 1000) (R : Nat → List Int) (r0 : R 0 = [])
    (hs : ∀ (i : Nat) x H', xs[i]? = some x → Same H H' → ∀ (N : VK) (N0 : Hp → Prop), (∀ c : Int, R (i + 1) = put (R i) c → N (.int c) H') → (R (i + 1) = R i → N0 H') → g x (wipe σ vs) H' fun σ2 H2 => wipe σ2 vs = wipe σ vs ∧ tt σ2 H2 fun b H3 => if b = true then te σ2 H3 N else N0 H3)
    (hd : ∀ D H', H D = none → Same H H' → H' D = some (SetO w D (fun j => decide (j ∈ R xs.length)) (R xs.length).length) → Q (.ref D) H') : kcSi K w g tt te vs σ Q (.ref a) H := by
  refine ⟨a, rfl, ⟨xs, hp⟩, fun d hD => ?_⟩
  refine ⟨fun i m H' => m = xs.length - i ∧ i ≤ xs.length ∧ Same H H' ∧ H' d = some (SetO w d (fun j => decide (j ∈ R i)) (R i).length) ∧ (R i).length ≤ i, ⟨xs.length, by simp, Nat.zero_le _, QB.same_new hD, ?_, ?_⟩, ?_⟩
  · rw [upd_same, r0]
    simp
  · rw [r0]; exact Nat.le_refl _
  · rintro i m H' ⟨rfl, hi, sm, hS, hl⟩
    by_cases lt : i < xs.length
    · obtain ⟨g1, g2⟩ := (QB.tup_go hp).1 i H' lt sm
      refine .inr ⟨g1, fun H2 => Same H H2 ∧ H2 d = some (SetO w d (fun j => decide (j ∈ R (i + 1))) (R (i + 1)).length) ∧ (R (i + 1)).length ≤ i + 1, fun H2 n2 => ⟨xs.length - (i + 1), by omega, rfl, lt, n2⟩, fun x H2 y => ?_⟩
      obtain ⟨rfl, ex⟩ := g2 x H2 y
      refine hs i x _ ex sm _ _ (fun c hc => ⟨c, _, _, rfl, hS, ?_, ?_⟩) (fun hc => ?_)
      · have : (1000 : Nat) + 1 < scanBound := by decide
        omega
      · refine ⟨QB.same_mut sm hD, ?_, ?_⟩
        · rw [upd_same, hc]
          unfold more put
          by_cases h : c ∈ R i
          · simp only [h, decide_true, if_true]
            congr 2
            funext j
            by_cases e : j = c
            · subst e; simp [h]
            · simp [e]
          · simp only [h, decide_false, Bool.false_eq_true, if_false]
            congr 2
            · funext j
              simp
            · simp
        · rw [hc]
          unfold put
          split
          · omega
          · simp; omega
      · exact ⟨sm, by rw [hc]; exact hS, by rw [hc]; omega⟩
    · have e : i = xs.length := by omega
      subst e
      exact .inl ⟨(QB.tup_go hp).2 H' sm, hd d H' hD sm hS⟩
/-- len of a set of ints -/
def rLenI (w : World) : List V → Hp → VK → Prop := fun xs H Q => ∃ (a : Addr) (S : Int → Bool) (n : Nat), xs = [.ref a] ∧ H a = some (SetO w a S n) ∧ Q (.int (n : Int)) H
theorem c_lenI : CallR X (.builtin "len") (rLenI X.w) := by
  intro pins s σ H xs us Q I r h
  obtain ⟨a, S, n, rfl, ha, q⟩ := h
  cases r with
  | cons r0 rr =>
    cases rr
    cases r0
    obtain ⟨o, es, ep, t, ho, ex, da, _, _, _, lt, fits, sz, _⟩ := setO_get I ha
    have big : (es.size : Int) < 2 ^ 63 := by
      have hs : scanBound ≤ 2 ^ 30 := by decide
      omega
    exact call_len_set ho ex da fits big ⟨.int (n : Int), H, I.tok _, ⟨_, by rw [sz]⟩, q⟩
end
end QS

namespace Pat
abbrev Ent := Bool × Int
def add (s : List Int) (v : Int) : List Int := if v ∈ s then s else s ++ [v]
def pat (ks : List Int) : List Int → List Int → List Ent
  | _, [] => []
  | s, v :: r => if v ∈ ks then (true, v) :: pat ks s r else (false, ((add s v).idxOf v : Int)) :: pat ks (add s v) r
theorem pat_cons (ks s : List Int) (v : Int) (r : List Int) : pat ks s (v :: r) = if v ∈ ks then (true, v) :: pat ks s r else (false, ((add s v).idxOf v : Int)) :: pat ks (add s v) r := rfl
theorem mem_add {s : List Int} {v x : Int} : x ∈ add s v ↔ x ∈ s ∨ x = v := by
  unfold add
  split
  · rename_i h
    constructor
    · intro hx; exact .inl hx
    · rintro (hx | rfl)
      · exact hx
      · exact h
  · simp
theorem add_nodup {s : List Int} {v : Int} (h : s.Nodup) : (add s v).Nodup := by
  unfold add
  split
  · exact h
  · rename_i hv
    rw [List.nodup_append]
    refine ⟨h, by simp, ?_⟩
    intro a ha b hb
    simp at hb
    subst hb
    intro e; subst e; exact hv ha
theorem idx_add_lt {s : List Int} {v : Int} : (add s v).idxOf v < (add s v).length := List.idxOf_lt_length_of_mem (mem_add.mpr (.inr rfl))
theorem add_len {s : List Int} {v : Int} : (add s v).length ≤ s.length + 1 := by
  unfold add; split
  · omega
  · simp
theorem add_len' {s : List Int} {v : Int} : s.length ≤ (add s v).length := by
  unfold add; split
  · omega
  · simp
theorem idx_old {s : List Int} {v : Int} (h : v ∈ s) : (add s v).idxOf v = s.idxOf v := by unfold add; rw [if_pos h]
theorem idx_new {s : List Int} {v : Int} (h : v ∉ s) : (add s v).idxOf v = s.length := by
  unfold add
  rw [if_neg h, List.idxOf_append, if_neg h]
  simp
theorem pat_length (ks : List Int) : ∀ (vs s : List Int), (pat ks s vs).length = vs.length
  | [], _ => rfl
  | v :: r, s => by
    unfold pat
    split
    · simp [pat_length ks r]
    · simp [pat_length ks r]
/-- the numbers lie below the number of values -/
theorem pat_num (ks : List Int) : ∀ (vs s : List Int) (e : Ent), e ∈ pat ks s vs → e.1 = false → 0 ≤ e.2 ∧ e.2 < (s.length + vs.length : Nat)
  | [], _, e, he, _ => by simp [pat] at he
  | v :: r, s, e, he, hf => by
    unfold pat at he
    split at he
    · rcases List.mem_cons.mp he with rfl | he
      · cases hf
      · have := pat_num ks r s e he hf
        simp only [List.length_cons]
        omega
    · rcases List.mem_cons.mp he with rfl | he
      · have h1 := idx_add_lt (s := s) (v := v)
        have h2 := add_len (s := s) (v := v)
        simp only [List.length_cons]
        omega
      · have := pat_num ks r (add s v) e he hf
        have h2 := add_len (s := s) (v := v)
        simp only [List.length_cons]
        omega
theorem pat_kept (ks : List Int) : ∀ (vs s : List Int) (e : Ent), e ∈ pat ks s vs → e.1 = true → e.2 ∈ ks
  | [], _, e, he, _ => by simp [pat] at he
  | v :: r, s, e, he, hf => by
    unfold pat at he
    split at he
    · rename_i hv
      rcases List.mem_cons.mp he with rfl | he
      · exact hv
      · exact pat_kept ks r s e he hf
    · rcases List.mem_cons.mp he with rfl | he
      · cases hf
      · exact pat_kept ks r _ e he hf
theorem pat_congr {ks ls : List Int} (h : ∀ x, x ∈ ks ↔ x ∈ ls) : ∀ (vs s : List Int), pat ks s vs = pat ls s vs
  | [], _ => rfl
  | v :: r, s => by
    unfold pat
    by_cases hv : v ∈ ks
    · rw [if_pos hv, if_pos ((h v).mp hv), pat_congr h r]
    · rw [if_neg hv, if_neg (fun q => hv ((h v).mpr q)), pat_congr h r]
/-! ### alike -/
def AL (ks : List Int) : List Int → List Int → Prop
  | v :: r, w :: t => ((v ∈ ks ∨ w ∈ ks) → v = w) ∧ (∀ p ∈ r.zip t, (p.1 = v ↔ p.2 = w)) ∧ AL ks r t
  | _, _ => True
def Cross (s1 s2 a b : List Int) : Prop := ∀ q ∈ s1.zip s2, ∀ p ∈ a.zip b, (p.1 = q.1 ↔ p.2 = q.2)
theorem zip_get {s1 s2 : List Int} {i : Nat} (h1 : i < s1.length) (h2 : i < s2.length) : (s1[i], s2[i]) ∈ s1.zip s2 := by
  have : (s1.zip s2)[i]'(by simp; omega) = (s1[i], s2[i]) := by simp
  rw [← this]
  exact List.getElem_mem _
theorem zip_mem {s1 s2 : List Int} {q : Int × Int} (h : q ∈ s1.zip s2) : ∃ (i : Nat) (h1 : i < s1.length) (h2 : i < s2.length), q = (s1[i], s2[i]) := by
  obtain ⟨i, hi, e⟩ := List.mem_iff_getElem.mp h
  simp at hi
  refine ⟨i, by omega, by omega, ?_⟩
  rw [← e]; simp
theorem idx_nodup {s : List Int} (nd : s.Nodup) {i : Nat} (h : i < s.length) {v : Int} (e : s[i] = v) : s.idxOf v = i := by
  subst e
  exact List.Nodup.idxOf_getElem nd i h
theorem get_idx {s : List Int} {v : Int} (h : v ∈ s) : s[s.idxOf v]'(List.idxOf_lt_length_of_mem h) = v := List.getElem_idxOf _
/-- from the crossing, the numbers agree -/
theorem cross_idx {s1 s2 : List Int} {v w : Int} (hl : s1.length = s2.length) (n1 : s1.Nodup) (n2 : s2.Nodup) (hc : ∀ q ∈ s1.zip s2, (v = q.1 ↔ w = q.2)) :
    (v ∈ s1 ↔ w ∈ s2) ∧ (add s1 v).idxOf v = (add s2 w).idxOf w ∧ (add s1 v).length = (add s2 w).length := by
  by_cases hv : v ∈ s1
  · have hi := List.idxOf_lt_length_of_mem hv
    have e := (hc _ (zip_get hi (by omega))).mp (get_idx hv).symm
    have hw : w ∈ s2 := by rw [e]; exact List.getElem_mem _
    refine ⟨⟨fun _ => hw, fun _ => hv⟩, ?_, ?_⟩
    · rw [idx_old hv, idx_old hw]
      exact (idx_nodup n2 (by omega) e.symm).symm
    · unfold add; rw [if_pos hv, if_pos hw]; exact hl
  · have hw : w ∉ s2 := fun hw => by
      have hi := List.idxOf_lt_length_of_mem hw
      have e := (hc _ (zip_get (i := s2.idxOf w) (by omega) hi)).mpr (get_idx hw).symm
      exact hv (by rw [e]; exact List.getElem_mem _)
    refine ⟨⟨fun h => absurd h hv, fun h => absurd h hw⟩, ?_, ?_⟩
    · rw [idx_new hv, idx_new hw]; omega
    · unfold add; rw [if_neg hv, if_neg hw]; simp; omega
theorem idx_cross {s1 s2 : List Int} {v w : Int} (hl : s1.length = s2.length) (n1 : s1.Nodup) (n2 : s2.Nodup) (he : (add s1 v).idxOf v = (add s2 w).idxOf w) :
    (v ∈ s1 ↔ w ∈ s2) ∧ (add s1 v).length = (add s2 w).length ∧ ∀ q ∈ s1.zip s2, (v = q.1 ↔ w = q.2) := by
  by_cases hv : v ∈ s1
  · have hi := List.idxOf_lt_length_of_mem hv
    rw [idx_old hv] at he
    have hw : w ∈ s2 := Decidable.byContradiction fun hw => by
      rw [idx_new hw] at he; omega
    have hj := List.idxOf_lt_length_of_mem hw
    rw [idx_old hw] at he
    refine ⟨⟨fun _ => hw, fun _ => hv⟩, by unfold add; rw [if_pos hv, if_pos hw]; exact hl, fun q hq => ?_⟩
    obtain ⟨i, h1, h2, rfl⟩ := zip_mem hq
    constructor
    · intro e
      have := idx_nodup n1 h1 e.symm
      have e2 := get_idx hw
      simp only [← he, this] at e2
      exact e2.symm
    · intro e
      have := idx_nodup n2 h2 e.symm
      have e2 := get_idx hv
      simp only [he, this] at e2
      exact e2.symm
  · rw [idx_new hv] at he
    have hw : w ∉ s2 := fun hw => by
      have hj := List.idxOf_lt_length_of_mem hw
      rw [idx_old hw] at he; omega
    refine ⟨⟨fun h => absurd h hv, fun h => absurd h hw⟩, by unfold add; rw [if_neg hv, if_neg hw]; simp; omega, fun q hq => ?_⟩
    obtain ⟨i, h1, h2, rfl⟩ := zip_mem hq
    constructor
    · intro e; exact absurd (by rw [e]; exact List.getElem_mem _) hv
    · intro e; exact absurd (by rw [e]; exact List.getElem_mem _) hw
theorem add_get {s : List Int} {v : Int} {i : Nat} (h : i < (add s v).length) : (∃ h' : i < s.length, (add s v)[i] = s[i]) ∨ (i = s.length ∧ v ∉ s ∧ (add s v)[i] = v) := by
  by_cases hv : v ∈ s
  · left
    have e : add s v = s := by unfold add; rw [if_pos hv]
    refine ⟨by rw [e] at h; exact h, ?_⟩
    simp only [e]
  · have e : add s v = s ++ [v] := by unfold add; rw [if_neg hv]
    simp only [e] at h ⊢
    by_cases hi : i < s.length
    · left; exact ⟨hi, by rw [List.getElem_append_left hi]⟩
    · right
      simp at h
      have : i = s.length := by omega
      subst this
      exact ⟨rfl, hv, by simp⟩
theorem kept_pair (ks : List Int) : ∀ (r t : List Int) (v : Int), v ∈ ks → AL ks r t → ∀ (i : Nat) (h1 : i < r.length) (h2 : i < t.length), (r[i] = v ↔ t[i] = v)
  | [], _, _, _, _, i, h1, _ => by simp at h1
  | _ :: _, [], _, _, _, i, _, h2 => by simp at h2
  | x :: r, y :: t, v, hv, ⟨h, _, ha⟩, 0, _, _ => by
    simp only [List.getElem_cons_zero]
    constructor
    · intro e; subst e; exact (h (.inl hv)).symm
    · intro e; subst e; exact h (.inr hv)
  | x :: r, y :: t, v, hv, ⟨_, _, ha⟩, i + 1, h1, h2 => by
    simp only [List.getElem_cons_succ]
    exact kept_pair ks r t v hv ha i (by simpa using h1) (by simpa using h2)
/-- two patterns are equal exactly if the values are alike -/
theorem pat_iff (ks : List Int) : ∀ (a b s1 s2 : List Int), a.length = b.length → s1.length = s2.length → s1.Nodup → s2.Nodup → (∀ x ∈ s1, x ∉ ks) → (∀ x ∈ s2, x ∉ ks) →
    (pat ks s1 a = pat ks s2 b ↔ AL ks a b ∧ Cross s1 s2 a b)
  | [], [], s1, s2, _, _, _, _, _, _ => by simp [pat, AL, Cross]
  | [], _ :: _, _, _, h, _, _, _, _, _ => by simp at h
  | _ :: _, [], _, _, h, _, _, _, _, _ => by simp at h
  | v :: r, w :: t, s1, s2, hl, hs, n1, n2, d1, d2 => by
    have hl' : r.length = t.length := by simpa using hl
    unfold pat
    have crossTail : ∀ {x y : Int}, (Cross s1 s2 (x :: r) (y :: t) ↔ (∀ q ∈ s1.zip s2, (x = q.1 ↔ y = q.2)) ∧ Cross s1 s2 r t) := by
      intro x y
      constructor
      · intro h
        refine ⟨fun q hq => h q hq (x, y) (by simp), fun q hq p hp => h q hq p (by simp [hp])⟩
      · rintro ⟨h1, h2⟩ q hq p hp
        rcases List.mem_cons.mp (show p ∈ (x, y) :: r.zip t from hp) with rfl | hp
        · exact h1 q hq
        · exact h2 q hq p hp
    rw [crossTail]
    by_cases hv : v ∈ ks
    · rw [if_pos hv]
      by_cases hw : w ∈ ks
      · rw [if_pos hw]
        have ih := pat_iff ks r t s1 s2 hl' hs n1 n2 d1 d2
        constructor
        · intro h
          injection h with h1 h2
          injection h1 with _ h1
          subst h1
          obtain ⟨ha, hc⟩ := ih.mp h2
          refine ⟨⟨fun _ => rfl, fun p hp => ?_, ha⟩, fun q hq => ?_, hc⟩
          · -- a later value that is kept
            obtain ⟨i, h1, h2', rfl⟩ := zip_mem hp
            exact kept_pair ks r t v hv ha i h1 h2'
          · obtain ⟨i, h1, h2', rfl⟩ := zip_mem hq
            constructor
            · intro e; exact absurd hv (by rw [e]; exact d1 _ (List.getElem_mem _))
            · intro e; exact absurd hv (by rw [e]; exact d2 _ (List.getElem_mem _))
        · rintro ⟨⟨h1, h2, h3⟩, _, hc⟩
          have e := h1 (.inl hv)
          rw [e, ih.mpr ⟨h3, hc⟩]
      · rw [if_neg hw]
        constructor
        · intro h
          injection h with h1 _
          injection h1 with h1 _
          cases h1
        · rintro ⟨⟨h1, _⟩, _⟩
          exact absurd (h1 (.inl hv) ▸ hv) hw
    · rw [if_neg hv]
      by_cases hw : w ∈ ks
      · rw [if_pos hw]
        constructor
        · intro h
          injection h with h1 _
          injection h1 with h1 _
          cases h1
        · rintro ⟨⟨h1, _⟩, _⟩
          exact absurd (h1 (.inr hw) ▸ hw) hv
      · rw [if_neg hw]
        have dA : ∀ x ∈ add s1 v, x ∉ ks := fun x hx => by
          rcases mem_add.mp hx with hx | rfl
          · exact d1 x hx
          · exact hv
        have dB : ∀ x ∈ add s2 w, x ∉ ks := fun x hx => by
          rcases mem_add.mp hx with hx | rfl
          · exact d2 x hx
          · exact hw
        constructor
        · intro h
          injection h with h1 h2
          injection h1 with _ h1
          have h1' : (add s1 v).idxOf v = (add s2 w).idxOf w := by exact_mod_cast h1
          obtain ⟨hm, hla, hc0⟩ := idx_cross hs n1 n2 h1'
          obtain ⟨ha, hc⟩ := (pat_iff ks r t (add s1 v) (add s2 w) hl' hla (add_nodup n1) (add_nodup n2) dA dB).mp h2
          have hz := zip_get (s1 := add s1 v) (s2 := add s2 w) (i := (add s1 v).idxOf v) idx_add_lt (by rw [← hla]; exact idx_add_lt)
          have e1 : (add s1 v)[(add s1 v).idxOf v]'idx_add_lt = v := get_idx (mem_add.mpr (.inr rfl))
          have e2 : (add s2 w)[(add s1 v).idxOf v]'(by rw [← hla]; exact idx_add_lt) = w := by
            have := get_idx (s := add s2 w) (v := w) (mem_add.mpr (.inr rfl))
            simp only [← h1'] at this
            exact this
          rw [e1, e2] at hz
          refine ⟨⟨fun h => ?_, fun p hp => hc _ hz p hp, ha⟩, hc0, fun q hq p hp => ?_⟩
          · rcases h with h | h
            · exact absurd h hv
            · exact absurd h hw
          · obtain ⟨i, i1, i2, rfl⟩ := zip_mem hq
            have hb1 : i < (add s1 v).length := Nat.lt_of_lt_of_le i1 add_len'
            have hb2 : i < (add s2 w).length := Nat.lt_of_lt_of_le i2 add_len'
            have g := hc _ (zip_get hb1 hb2) p hp
            rcases add_get hb1 with ⟨_, ea⟩ | ⟨ea, _⟩
            · rcases add_get hb2 with ⟨_, eb⟩ | ⟨eb, _⟩
              · rw [ea, eb] at g; exact g
              · omega
            · omega
        · rintro ⟨⟨h1, h2, h3⟩, hc0, hc⟩
          obtain ⟨hm, hi, hla⟩ := cross_idx hs n1 n2 hc0
          rw [hi]
          congr 1
          refine (pat_iff ks r t (add s1 v) (add s2 w) hl' hla (add_nodup n1) (add_nodup n2) dA dB).mpr ⟨h3, fun q hq p hp => ?_⟩
          obtain ⟨i, i1, i2, rfl⟩ := zip_mem hq
          rcases add_get i1 with ⟨j1, ea⟩ | ⟨j1, k1, ea⟩
          · rcases add_get i2 with ⟨j2, eb⟩ | ⟨j2, k2, eb⟩
            · rw [ea, eb]; exact hc _ (zip_get j1 j2) p hp
            · omega
          · rcases add_get i2 with ⟨j2, eb⟩ | ⟨j2, k2, eb⟩
            · omega
            · rw [ea, eb]; exact h2 p hp
theorem pat_alike {ks a b : List Int} (h : a.length = b.length) : pat ks [] a = pat ks [] b ↔ AL ks a b := by
  rw [pat_iff ks a b [] [] h rfl List.nodup_nil List.nodup_nil (by simp) (by simp)]
  simp [Cross]
/-! ### the same by places -/
theorem al_iff (ks : List Int) : ∀ (a b : List Int), a.length = b.length → (AL ks a b ↔ ∀ (k : Nat) (x y : Int), a[k]? = some x → b[k]? = some y → ((x ∈ ks ∨ y ∈ ks) → x = y) ∧ ∀ (j : Nat) (u v : Int), j < k → a[j]? = some u → b[j]? = some v → (x = u ↔ y = v))
  | [], [], _ => by simp [AL]
  | [], _ :: _, h => by simp at h
  | _ :: _, [], h => by simp at h
  | v :: r, w :: t, h => by
    have h' : r.length = t.length := by simpa using h
    have ih := al_iff ks r t h'
    constructor
    · rintro ⟨h1, h2, h3⟩ k x y hx hy
      cases k with
      | zero =>
        simp at hx hy; subst hx hy
        exact ⟨h1, fun j u v' hj => by omega⟩
      | succ k =>
        simp only [List.getElem?_cons_succ] at hx hy
        obtain ⟨g1, g2⟩ := ih.mp h3 k x y hx hy
        refine ⟨g1, fun j u v' hj hu hv' => ?_⟩
        cases j with
        | zero =>
          simp at hu hv'; subst hu hv'
          obtain ⟨hk1, e1⟩ := List.getElem?_eq_some_iff.mp hx
          obtain ⟨hk2, e2⟩ := List.getElem?_eq_some_iff.mp hy
          have := h2 _ (zip_get hk1 hk2)
          rw [e1, e2] at this
          exact this
        | succ j =>
          simp only [List.getElem?_cons_succ] at hu hv'
          exact g2 j u v' (by omega) hu hv'
    · intro hall
      refine ⟨(hall 0 v w rfl rfl).1, fun p hp => ?_, ih.mpr fun k x y hx hy => ?_⟩
      · obtain ⟨i, h1, h2, rfl⟩ := zip_mem hp
        exact (hall (i + 1) _ _ (by simp [h1]) (by simp [h2])).2 0 v w (by omega) rfl rfl
      · obtain ⟨g1, g2⟩ := hall (k + 1) x y (by simpa using hx) (by simpa using hy)
        exact ⟨g1, fun j u v' hj hu hv' => g2 (j + 1) u v' (by omega) (by simpa using hu) (by simpa using hv')⟩
/-! ### the free numbers -/
def freesTo (ks : List Int) (c : Nat) : List Int := ((List.range c).map (fun n : Nat => (n : Int))).filter (fun n => decide (n ∉ ks))
theorem freesTo_succ (ks : List Int) (c : Nat) : freesTo ks (c + 1) = if ((c : Nat) : Int) ∈ ks then freesTo ks c else freesTo ks c ++ [(c : Int)] := by
  unfold freesTo
  rw [List.range_succ, List.map_append, List.filter_append]
  by_cases h : ((c : Nat) : Int) ∈ ks
  · simp [h]
  · simp [h]
theorem mem_freesTo {ks : List Int} {c : Nat} {x : Int} : x ∈ freesTo ks c ↔ 0 ≤ x ∧ x < c ∧ x ∉ ks := by
  unfold freesTo
  simp only [List.mem_filter, List.mem_map, List.mem_range, decide_eq_true_eq]
  constructor
  · rintro ⟨⟨n, hn, rfl⟩, h⟩
    exact ⟨by omega, by omega, h⟩
  · rintro ⟨h0, h1, h2⟩
    exact ⟨⟨x.toNat, by omega, by omega⟩, h2⟩
theorem freesTo_nodup (ks : List Int) : ∀ c : Nat, (freesTo ks c).Nodup
  | 0 => by simp [freesTo]
  | c + 1 => by
    rw [freesTo_succ]
    split
    · exact freesTo_nodup ks c
    · rw [List.nodup_append]
      refine ⟨freesTo_nodup ks c, by simp, ?_⟩
      intro a ha b hb
      simp at hb
      subst hb
      have := (mem_freesTo.mp ha).2.1
      omega
/-- not more of them lack than stand in ks -/
theorem freesTo_len (ks : List Int) : ∀ c : Nat, c ≤ (freesTo ks c).length + ks.length := by
  induction ks with
  | nil =>
    intro c
    have : (freesTo [] c).length = c := by
      unfold freesTo
      rw [List.filter_eq_self.mpr (by simp)]
      simp
    omega
  | cons k ks ih =>
    intro c
    have h := ih c
    have : (freesTo ks c).length ≤ (freesTo (k :: ks) c).length + 1 := by
      have e : freesTo (k :: ks) c = (freesTo ks c).filter (fun n => decide (n ≠ k)) := by
        unfold freesTo
        rw [List.filter_filter]
        congr 1
        funext n
        by_cases h1 : n = k <;> simp [h1]
      rw [e]
      have nd := freesTo_nodup ks c
      generalize freesTo ks c = l at nd
      induction l with
      | nil => simp
      | cons x l ihl =>
        have nd' := (List.nodup_cons.mp nd)
        by_cases hx : x = k
        · subst hx
          have hl : l.filter (fun n => decide (n ≠ x)) = l := by
            rw [List.filter_eq_self]
            intro a ha
            simp
            intro e; subst e; exact nd'.1 ha
          rw [List.filter_cons_of_neg (by simp), hl]
          simp
        · rw [List.filter_cons_of_pos (by simp [hx])]
          simp only [List.length_cons]
          have := ihl nd'.2
          omega
    simp only [List.length_cons]
    omega
/-- F: the first n of them -/
def Frees (ks : List Int) (n : Nat) (F : List Int) : Prop := ∃ c : Nat, F = freesTo ks c ∧ F.length = n
theorem Frees.nodup {ks : List Int} {n : Nat} {F : List Int} (h : Frees ks n F) : F.Nodup := by
  obtain ⟨c, rfl, _⟩ := h
  exact freesTo_nodup ks c
theorem Frees.out {ks : List Int} {n : Nat} {F : List Int} (h : Frees ks n F) : ∀ x ∈ F, x ∉ ks ∧ 0 ≤ x := by
  obtain ⟨c, rfl, _⟩ := h
  exact fun x hx => ⟨(mem_freesTo.mp hx).2.2, (mem_freesTo.mp hx).1⟩
/-- below the i-th of them stand i of them -/
theorem freesTo_at (ks : List Int) : ∀ (c i : Nat) (x : Int), (freesTo ks c)[i]? = some x → (freesTo ks x.toNat).length = i ∧ 0 ≤ x
  | 0, i, x, h => by simp [freesTo] at h
  | c + 1, i, x, h => by
    rw [freesTo_succ] at h
    split at h
    · exact freesTo_at ks c i x h
    · by_cases hi : i < (freesTo ks c).length
      · rw [List.getElem?_append_left hi] at h
        exact freesTo_at ks c i x h
      · rw [List.getElem?_append_right (by omega)] at h
        have : i - (freesTo ks c).length = 0 := by
          cases hz : i - (freesTo ks c).length with
          | zero => rfl
          | succ m => rw [hz] at h; simp at h
        rw [this] at h
        simp at h
        subst h
        constructor
        · simp; omega
        · omega
theorem Frees.at {ks : List Int} {n : Nat} {F : List Int} (h : Frees ks n F) {i : Nat} {x : Int} (e : F[i]? = some x) : (freesTo ks x.toNat).length = i ∧ 0 ≤ x := by
  obtain ⟨c, rfl, _⟩ := h
  exact freesTo_at ks c i x e
theorem Frees.le {ks : List Int} {n : Nat} {F : List Int} (h : Frees ks n F) {i : Nat} {x : Int} (e : F[i]? = some x) : x ≤ (i + ks.length : Nat) := by
  obtain ⟨h1, h2⟩ := h.at e
  have := freesTo_len ks x.toNat
  omega
/-! ### made real -/
def real (F : List Int) (e : Ent) : Int := if e.1 then e.2 else F.getD e.2.toNat 0
theorem pat_real (ks F : List Int) (nd : F.Nodup) (out : ∀ x ∈ F, x ∉ ks) : ∀ (vs s : List Int), s.length + vs.length ≤ F.length → pat ks (F.take s.length) ((pat ks s vs).map (real F)) = pat ks s vs
  | [], _, _ => rfl
  | v :: r, s, h => by
    simp only [List.length_cons] at h
    by_cases hv : v ∈ ks
    · rw [pat_cons ks s, if_pos hv, List.map_cons]
      have e : real F (true, v) = v := rfl
      rw [e, pat_cons, if_pos hv, pat_real ks F nd out r s (by omega)]
    · rw [pat_cons ks s, if_neg hv, List.map_cons]
      have hi := idx_add_lt (s := s) (v := v)
      have hl := add_len (s := s) (v := v)
      have hn : (add s v).idxOf v < F.length := by omega
      have e : real F (false, ((add s v).idxOf v : Int)) = F[(add s v).idxOf v] := by
        unfold real
        simp [List.getD_eq_getElem?_getD, hn]
      rw [e, pat_cons, if_neg (out _ (List.getElem_mem _))]
      have key : add (F.take s.length) F[(add s v).idxOf v] = F.take (add s v).length ∧ (F.take (add s v).length).idxOf F[(add s v).idxOf v] = (add s v).idxOf v := by
        have hin : ∀ (m : Nat), (add s v).idxOf v < m → m ≤ F.length → (F.take m).idxOf F[(add s v).idxOf v] = (add s v).idxOf v := fun m hm hmF => by
          have nt : (F.take m).Nodup := List.Sublist.nodup (List.take_sublist _ _) nd
          refine idx_nodup nt (by rw [List.length_take]; omega) ?_
          rw [List.getElem_take]
        refine ⟨?_, hin _ hi (by omega)⟩
        by_cases hs : v ∈ s
        · have ea : add s v = s := by unfold add; rw [if_pos hs]
          have hi' := hi
          rw [ea] at hi'
          have hm : F[s.idxOf v]'(by omega) ∈ F.take s.length := by
            rw [List.mem_iff_getElem]
            exact ⟨s.idxOf v, by rw [List.length_take]; omega, by rw [List.getElem_take]⟩
          simp only [ea]
          unfold add
          rw [if_pos hm]
        · have ei := idx_new hs
          have ea : (add s v).length = s.length + 1 := by unfold add; rw [if_neg hs]; simp
          rw [ea]
          simp only [ei]
          have hm : F[s.length]'(by omega) ∉ F.take s.length := fun hm => by
            obtain ⟨j, hj, e⟩ := List.mem_iff_getElem.mp hm
            rw [List.length_take] at hj
            rw [List.getElem_take] at e
            have := (List.getElem_inj nd).mp e
            omega
          unfold add
          rw [if_neg hm, List.take_add_one, List.getElem?_eq_getElem (by omega)]
          rfl
      rw [key.1, key.2, pat_real ks F nd out r (add s v) (by omega)]
/-! ### step by step -/
def seenF (ks : List Int) (s a : List Int) : List Int := a.foldl (fun s v => if v ∈ ks then s else add s v) s
theorem pat_append (ks : List Int) : ∀ (a b s : List Int), pat ks s (a ++ b) = pat ks s a ++ pat ks (seenF ks s a) b
  | [], _, _ => rfl
  | v :: a, b, s => by
    rw [List.cons_append, pat_cons, pat_cons]
    by_cases h : v ∈ ks
    · rw [if_pos h, if_pos h, pat_append ks a b s, List.cons_append]
      show _ = (true, v) :: (pat ks s a ++ pat ks (List.foldl _ (if v ∈ ks then s else add s v) a) b)
      rw [if_pos h]; rfl
    · rw [if_neg h, if_neg h, pat_append ks a b (add s v), List.cons_append]
      show _ = (false, _) :: (pat ks (add s v) a ++ pat ks (List.foldl _ (if v ∈ ks then s else add s v) a) b)
      rw [if_neg h]; rfl
theorem seenF_snoc (ks s a : List Int) (v : Int) : seenF ks s (a ++ [v]) = if v ∈ ks then seenF ks s a else add (seenF ks s a) v := by
  unfold seenF
  rw [List.foldl_append]
  rfl
theorem pat_snoc (ks a : List Int) (v : Int) : pat ks [] (a ++ [v]) = pat ks [] a ++ [if v ∈ ks then (true, v) else (false, ((add (seenF ks [] a) v).idxOf v : Int))] := by
  rw [pat_append, pat_cons]
  split <;> rfl
theorem seenF_len (ks : List Int) : ∀ (a s : List Int), (seenF ks s a).length ≤ s.length + a.length
  | [], s => by simp [seenF]
  | v :: a, s => by
    show (seenF ks (if v ∈ ks then s else add s v) a).length ≤ _
    have := seenF_len ks a (if v ∈ ks then s else add s v)
    have h2 : (if v ∈ ks then s else add s v).length ≤ s.length + 1 := by
      split
      · omega
      · exact add_len
    simp only [List.length_cons]
    omega
theorem take_snoc {xs : List Int} {i : Nat} {x : Int} (h : xs[i]? = some x) : xs.take (i + 1) = xs.take i ++ [x] := by
  rw [List.take_add_one, h]
  rfl
theorem freesTo_congr {ks ls : List Int} (h : ∀ x, x ∈ ks ↔ x ∈ ls) (c : Nat) : freesTo ks c = freesTo ls c := by
  unfold freesTo
  congr 1
  funext n
  simp [h n]
theorem Frees.congr {ks ls : List Int} {n : Nat} {F : List Int} (h : ∀ x, x ∈ ks ↔ x ∈ ls) (f : Frees ks n F) : Frees ls n F := by
  obtain ⟨c, e, l⟩ := f
  exact ⟨c, by rw [e, freesTo_congr h], l⟩
theorem freesTo_take (ks : List Int) : ∀ (c i : Nat), i ≤ c → ∃ m, (freesTo ks c).take m = freesTo ks i ∧ m ≤ i
  | 0, i, h => ⟨0, by
    have : i = 0 := by omega
    subst this
    simp [freesTo], by omega⟩
  | c + 1, i, h => by
    by_cases e : i = c + 1
    · subst e
      refine ⟨c + 1, List.take_of_length_le ?_, Nat.le_refl _⟩
      unfold freesTo
      exact Nat.le_trans (List.length_filter_le _ _) (by simp)
    · obtain ⟨m, h1, h2⟩ := freesTo_take ks c i (by omega)
      have hm : (freesTo ks i).length ≤ (freesTo ks c).length := by rw [← h1, List.length_take]; omega
      rw [freesTo_succ]
      split
      · exact ⟨m, h1, h2⟩
      · refine ⟨min m (freesTo ks c).length, ?_, by omega⟩
        rw [List.take_append_of_le_length (by omega)]
        rw [← h1]
        by_cases hq : m ≤ (freesTo ks c).length
        · rw [Nat.min_eq_left hq]
        · rw [Nat.min_eq_right (by omega), List.take_of_length_le (Nat.le_refl _), List.take_of_length_le (by omega)]
theorem freesTo_range (ks : List Int) (n : Nat) : ∀ i : Nat, freesTo ks (i + 1) = freesTo ks i ++ [((i : Nat) : Int)] ∨ freesTo ks (i + 1) = freesTo ks i := fun i => by
  rw [freesTo_succ]
  split
  · exact .inr rfl
  · exact .inl rfl
end Pat
namespace Pat
/-! ### further: other integers in the place of the values -/
theorem pat_map {ks zs : List Int} {φ : Int → Int} (hk : ∀ z ∈ zs, z ∈ ks → φ z = z) (hn : ∀ z ∈ zs, z ∉ ks → φ z ∉ ks) (inj : ∀ x ∈ zs, ∀ y ∈ zs, φ x = φ y → x = y) : pat ks [] (zs.map φ) = pat ks [] zs := by
  symm
  rw [pat_alike (by simp), al_iff ks _ _ (by simp)]
  intro k x y hx hy
  rw [List.getElem?_map, hx] at hy
  cases hy
  have mx := List.mem_of_getElem? hx
  refine ⟨fun h => ?_, fun j u v hj hu hv => ?_⟩
  · by_cases hxk : x ∈ ks
    · exact (hk x mx hxk).symm
    · rcases h with h | h
      · exact absurd h hxk
      · exact absurd h (hn x mx hxk)
  · rw [List.getElem?_map, hu] at hv
    cases hv
    have mu := List.mem_of_getElem? hu
    exact ⟨fun e => by rw [e], fun e => inj x mx u mu e⟩
/-- the values that are not kept, each once -/
theorem mem_seenF (ks : List Int) : ∀ (a s : List Int) (x : Int), x ∈ seenF ks s a ↔ x ∈ s ∨ (x ∈ a ∧ x ∉ ks)
  | [], s, x => by simp [seenF]
  | v :: a, s, x => by
    show x ∈ seenF ks (if v ∈ ks then s else add s v) a ↔ _
    rw [mem_seenF ks a]
    by_cases hv : v ∈ ks
    · rw [if_pos hv]
      constructor
      · rintro (h | ⟨h1, h2⟩)
        · exact .inl h
        · exact .inr ⟨List.mem_cons_of_mem _ h1, h2⟩
      · rintro (h | ⟨h1, h2⟩)
        · exact .inl h
        · rcases List.mem_cons.mp h1 with rfl | h1
          · exact absurd hv h2
          · exact .inr ⟨h1, h2⟩
    · rw [if_neg hv, mem_add]
      constructor
      · rintro ((h | rfl) | ⟨h1, h2⟩)
        · exact .inl h
        · exact .inr ⟨List.mem_cons_self, hv⟩
        · exact .inr ⟨List.mem_cons_of_mem _ h1, h2⟩
      · rintro (h | ⟨h1, h2⟩)
        · exact .inl (.inl h)
        · rcases List.mem_cons.mp h1 with rfl | h1
          · exact .inl (.inr rfl)
          · exact .inr ⟨h1, h2⟩
theorem seenF_nodup (ks : List Int) : ∀ (a s : List Int), s.Nodup → (seenF ks s a).Nodup
  | [], s, h => h
  | v :: a, s, h => by
    show (seenF ks (if v ∈ ks then s else add s v) a).Nodup
    refine seenF_nodup ks a _ ?_
    split
    · exact h
    · exact add_nodup h
theorem add_pre (s : List Int) (v : Int) : s <+: add s v := by
  unfold add
  split
  · exact List.prefix_rfl
  · exact List.prefix_append _ _
theorem seenF_pre (ks : List Int) : ∀ (a s : List Int), s <+: seenF ks s a
  | [], s => List.prefix_rfl
  | v :: a, s => by
    show s <+: seenF ks (if v ∈ ks then s else add s v) a
    refine List.IsPrefix.trans ?_ (seenF_pre ks a _)
    split
    · exact List.prefix_rfl
    · exact add_pre s v
theorem idx_pre {s t : List Int} {v : Int} (h : s <+: t) (hv : v ∈ s) : t.idxOf v = s.idxOf v := by
  obtain ⟨r, rfl⟩ := h
  rw [List.idxOf_append, if_pos hv]
/-- a pattern by the last list of seen values -/
theorem pat_eq_map (ks : List Int) : ∀ (a s : List Int), pat ks s a = a.map fun v => if v ∈ ks then (true, v) else (false, ((seenF ks s a).idxOf v : Int))
  | [], _ => rfl
  | v :: a, s => by
    rw [pat_cons, List.map_cons]
    have e : seenF ks s (v :: a) = seenF ks (if v ∈ ks then s else add s v) a := rfl
    by_cases hv : v ∈ ks
    · rw [if_pos hv, if_pos hv, e, if_pos hv, pat_eq_map ks a s]
    · rw [if_neg hv, if_neg hv, e, if_neg hv, pat_eq_map ks a (add s v), idx_pre (seenF_pre ks a (add s v)) (mem_add.mpr (.inr rfl))]
/-! ### the choices -/
def addAll (s a : List Int) : List Int := a.foldl add s
theorem addAll_snoc (s a : List Int) (v : Int) : addAll s (a ++ [v]) = add (addAll s a) v := by
  unfold addAll
  rw [List.foldl_append]
  rfl
theorem addAll_eq (ks : List Int) (srt : List Int) (hs : ∀ x, x ∈ srt ↔ x ∈ ks) : ∀ (a s : List Int), addAll (srt ++ s) a = srt ++ seenF ks s a
  | [], s => rfl
  | v :: a, s => by
    show addAll (add (srt ++ s) v) a = srt ++ seenF ks (if v ∈ ks then s else add s v) a
    by_cases hv : v ∈ ks
    · have e : add (srt ++ s) v = srt ++ s := by
        unfold add
        rw [if_pos (List.mem_append_left _ ((hs v).mpr hv))]
      rw [e, if_pos hv, addAll_eq ks srt hs a s]
    · have e : add (srt ++ s) v = srt ++ add s v := by
        unfold add
        by_cases h2 : v ∈ s
        · rw [if_pos h2, if_pos (List.mem_append_right _ h2)]
        · rw [if_neg h2, if_neg (by
            intro h
            rcases List.mem_append.mp h with h | h
            · exact hv ((hs v).mp h)
            · exact h2 h), List.append_assoc]
      rw [e, if_neg hv, addAll_eq ks srt hs a (add s v)]
theorem addAll_len : ∀ (a s : List Int), (addAll s a).length ≤ s.length + a.length
  | [], s => by simp [addAll]
  | v :: a, s => by
    show (addAll (add s v) a).length ≤ _
    have := addAll_len a (add s v)
    have h2 := add_len (s := s) (v := v)
    simp only [List.length_cons]
    omega
/-- what a value is as an entry behind the values a -/
def entOf (ks a : List Int) (v : Int) : Ent := if v ∈ ks then (true, v) else (false, ((add (seenF ks [] a) v).idxOf v : Int))
theorem pat_behind (ks a : List Int) (v : Int) : pat ks [] (a ++ [v]) = pat ks [] a ++ [entOf ks a v] := pat_snoc ks a v
theorem entOf_inj {ks a : List Int} {x y : Int} (h : entOf ks a x = entOf ks a y) : x = y ∨ (x ∉ ks ∧ x ∉ seenF ks [] a ∧ y ∉ ks ∧ y ∉ seenF ks [] a) := by
  unfold entOf at h
  by_cases hx : x ∈ ks
  · rw [if_pos hx] at h
    by_cases hy : y ∈ ks
    · rw [if_pos hy] at h
      injection h with _ h
      exact .inl h
    · rw [if_neg hy] at h
      injection h with h _
      cases h
  · rw [if_neg hx] at h
    by_cases hy : y ∈ ks
    · rw [if_pos hy] at h
      injection h with h _
      cases h
    · rw [if_neg hy] at h
      injection h with _ h
      have h' : (add (seenF ks [] a) x).idxOf x = (add (seenF ks [] a) y).idxOf y := by exact_mod_cast h
      have nd := seenF_nodup ks a [] List.nodup_nil
      generalize seenF ks [] a = s at h' nd ⊢
      by_cases sx : x ∈ s
      · rw [idx_old sx] at h'
        have lx := List.idxOf_lt_length_of_mem sx
        by_cases sy : y ∈ s
        · rw [idx_old sy] at h'
          left
          have e1 := get_idx sx
          have e2 := get_idx sy
          simp only [h'] at e1
          exact e1.symm.trans e2
        · rw [idx_new sy] at h'
          omega
      · rw [idx_new sx] at h'
        by_cases sy : y ∈ s
        · rw [idx_old sy] at h'
          have ly := List.idxOf_lt_length_of_mem sy
          omega
        · exact .inr ⟨hx, sx, hy, sy⟩
theorem entOf_new {ks a : List Int} {x y : Int} (hx : x ∉ ks) (sx : x ∉ seenF ks [] a) (hy : y ∉ ks) (sy : y ∉ seenF ks [] a) : entOf ks a x = entOf ks a y := by
  unfold entOf
  rw [if_neg hx, if_neg hy, idx_new sx, idx_new sy]
/-- the due choices: all kept ones, the seen ones, a free one -/
structure Due (ks a srt : List Int) (f : Int) : Prop where
  sm : ∀ x, x ∈ srt ↔ x ∈ ks
  nd : srt.Nodup
  fk : f ∉ ks
  fs : f ∉ seenF ks [] a
def due (ks a srt : List Int) (f : Int) : List Int := srt ++ seenF ks [] a ++ [f]
theorem Due.nodup {ks a srt : List Int} {f : Int} (d : Due ks a srt f) : (due ks a srt f).Nodup := by
  unfold due
  rw [List.nodup_append, List.nodup_append]
  refine ⟨⟨d.nd, seenF_nodup ks a [] List.nodup_nil, ?_⟩, by simp, ?_⟩
  · intro x hx y hy e
    subst e
    have := (mem_seenF ks a [] x).mp hy
    simp at this
    exact this.2 ((d.sm x).mp hx)
  · intro x hx y hy e
    simp at hy
    subst hy
    subst e
    rcases List.mem_append.mp hx with h | h
    · exact d.fk ((d.sm x).mp h)
    · exact d.fs h
theorem Due.mem {ks a srt : List Int} {f x : Int} (d : Due ks a srt f) : x ∈ due ks a srt f ↔ x ∈ ks ∨ x ∈ seenF ks [] a ∨ x = f := by
  unfold due
  simp [d.sm x]
theorem filter_one : ∀ {l : List Int} {p : Int → Bool} {c : Int}, l.Nodup → c ∈ l → p c = true → (∀ x ∈ l, p x = true → x = c) → (l.filter p).length = 1
  | [], _, _, _, h, _, _ => by simp at h
  | y :: l, p, c, nd, h, hp, hu => by
    have nd' := List.nodup_cons.mp nd
    by_cases e : y = c
    · subst e
      rw [List.filter_cons_of_pos hp]
      have : l.filter p = [] := by
        rw [List.filter_eq_nil_iff]
        intro x hx hpx
        have := hu x (List.mem_cons_of_mem _ hx) hpx
        subst this
        exact nd'.1 hx
      rw [this]; rfl
    · have hy : ¬ p y = true := fun h => e (hu y List.mem_cons_self h)
      rw [List.filter_cons_of_neg hy]
      refine filter_one nd'.2 ?_ hp (fun x hx => hu x (List.mem_cons_of_mem _ hx))
      rcases List.mem_cons.mp h with rfl | h
      · exact absurd rfl e
      · exact h
/-- exactly one choice looks like x behind the values -/
theorem Due.one {ks a srt : List Int} {f : Int} (d : Due ks a srt f) (x : Int) : ((due ks a srt f).filter fun c => decide (pat ks [] (a ++ [c]) = pat ks [] (a ++ [x]))).length = 1 := by
  have key : ∀ c, (pat ks [] (a ++ [c]) = pat ks [] (a ++ [x])) ↔ entOf ks a c = entOf ks a x := fun c => by
    rw [pat_behind, pat_behind]
    simp
  by_cases h : x ∈ ks ∨ x ∈ seenF ks [] a
  · refine filter_one (c := x) d.nodup (d.mem.mpr (by rcases h with h | h <;> simp [h])) (by simp) (fun c _ hc => ?_)
    rcases entOf_inj ((key c).mp (of_decide_eq_true hc)) with e | ⟨_, _, h1, h2⟩
    · exact e
    · rcases h with h | h
      · exact absurd h h1
      · exact absurd h h2
  · have h1 : x ∉ ks := fun q => h (.inl q)
    have h2 : x ∉ seenF ks [] a := fun q => h (.inr q)
    refine filter_one (c := f) d.nodup (d.mem.mpr (by simp)) (decide_eq_true ((key f).mpr (entOf_new d.fk d.fs h1 h2))) (fun c hm hc => ?_)
    rcases entOf_inj ((key c).mp (of_decide_eq_true hc)) with e | ⟨h3, h4, _, _⟩
    · subst e
      rcases d.mem.mp hm with q | q | q
      · exact absurd q h1
      · exact absurd q h2
      · exact q
    · rcases d.mem.mp hm with q | q | q
      · exact absurd q h3
      · exact absurd q h4
      · exact q
/-! ### the free numbers, one list a part of another -/
theorem freesTo_pre (ks : List Int) : ∀ (c i : Nat), i ≤ c → freesTo ks i <+: freesTo ks c
  | 0, i, h => by
    have : i = 0 := by omega
    subst this
    exact List.prefix_rfl
  | c + 1, i, h => by
    by_cases e : i = c + 1
    · subst e; exact List.prefix_rfl
    · have := freesTo_pre ks c i (by omega)
      rw [freesTo_succ]
      split
      · exact this
      · exact this.trans (List.prefix_append _ _)
theorem pre_get {s t : List Int} {i : Nat} {x : Int} (h : s <+: t) (e : s[i]? = some x) : t[i]? = some x := by
  obtain ⟨r, rfl⟩ := h
  have := (List.getElem?_eq_some_iff.mp e).1
  rw [List.getElem?_append_left this]
  exact e
theorem Frees.same {ks F G : List Int} {n m i : Nat} {x y : Int} (hF : Frees ks n F) (hG : Frees ks m G) (e1 : F[i]? = some x) (e2 : G[i]? = some y) : x = y := by
  obtain ⟨c, rfl, _⟩ := hF
  obtain ⟨d, rfl, _⟩ := hG
  rcases Nat.le_total c d with h | h
  · have := pre_get (freesTo_pre ks d c h) e1
    rw [this] at e2
    exact Option.some.inj e2
  · have := pre_get (freesTo_pre ks c d h) e2
    rw [this] at e1
    exact (Option.some.inj e1).symm
/-- φ: kept ones stay, the i-th of s goes to the i-th of G -/
def phi (ks s G : List Int) (z : Int) : Int := if z ∈ ks then z else G.getD (s.idxOf z) 0
theorem getD_of {G : List Int} {i : Nat} (h : i < G.length) : G.getD i 0 = G[i] := by simp [List.getD_eq_getElem?_getD, h]
/-- realised, the values go through φ -/
theorem real_phi {ks a F : List Int} (hl : a.length ≤ F.length) : (pat ks [] a).map (real F) = a.map (phi ks (seenF ks [] a) F) := by
  rw [pat_eq_map, List.map_map]
  refine List.map_congr_left fun v hv => ?_
  show real F (if v ∈ ks then (true, v) else (false, ((seenF ks [] a).idxOf v : Int))) = phi ks (seenF ks [] a) F v
  unfold phi
  by_cases h : v ∈ ks
  · rw [if_pos h, if_pos h]; rfl
  · rw [if_neg h, if_neg h]
    unfold real
    simp
theorem seenF_map {ks U : List Int} {φ : Int → Int} (hk : ∀ z ∈ U, (φ z ∈ ks ↔ z ∈ ks)) (inj : ∀ x ∈ U, ∀ y ∈ U, φ x = φ y → x = y) : ∀ (a s : List Int), (∀ z ∈ a, z ∈ U) → (∀ z ∈ s, z ∈ U) → seenF ks (s.map φ) (a.map φ) = (seenF ks s a).map φ
  | [], s, _, _ => rfl
  | v :: a, s, ha, hs => by
    have hv := ha v List.mem_cons_self
    show seenF ks (if φ v ∈ ks then s.map φ else add (s.map φ) (φ v)) (a.map φ) = (seenF ks (if v ∈ ks then s else add s v) a).map φ
    by_cases h : v ∈ ks
    · rw [if_pos h, if_pos ((hk v hv).mpr h)]
      exact seenF_map hk inj a s (fun z hz => ha z (List.mem_cons_of_mem _ hz)) hs
    · rw [if_neg h, if_neg (fun q => h ((hk v hv).mp q))]
      have e : add (s.map φ) (φ v) = (add s v).map φ := by
        unfold add
        by_cases h2 : v ∈ s
        · rw [if_pos h2, if_pos (List.mem_map.mpr ⟨v, h2, rfl⟩)]
        · rw [if_neg h2, if_neg (by
            intro q
            obtain ⟨w, hw, e⟩ := List.mem_map.mp q
            exact h2 (inj w (hs w hw) v hv e ▸ hw)), List.map_append]
          rfl
      rw [e]
      refine seenF_map hk inj a (add s v) (fun z hz => ha z (List.mem_cons_of_mem _ hz)) (fun z hz => ?_)
      rcases mem_add.mp hz with hz | rfl
      · exact hs z hz
      · exact hv
/-- the facts of φ over the values and one more -/
structure Phi (ks U : List Int) (φ : Int → Int) : Prop where
  kept : ∀ z ∈ U, z ∈ ks → φ z = z
  new : ∀ z ∈ U, z ∉ ks → φ z ∉ ks
  inj : ∀ x ∈ U, ∀ y ∈ U, φ x = φ y → x = y
theorem Phi.iff {ks U : List Int} {φ : Int → Int} (h : Phi ks U φ) : ∀ z ∈ U, (φ z ∈ ks ↔ z ∈ ks) := fun z hz => by
  constructor
  · intro q
    exact Decidable.byContradiction fun hn => h.new z hz hn q
  · intro q
    rw [h.kept z hz q]
    exact q
theorem Phi.seen {ks U a : List Int} {φ : Int → Int} (h : Phi ks U φ) (ha : ∀ z ∈ a, z ∈ U) : seenF ks [] (a.map φ) = (seenF ks [] a).map φ := seenF_map h.iff h.inj a [] ha (by simp)
theorem Phi.pat {ks U a : List Int} {φ : Int → Int} (h : Phi ks U φ) (ha : ∀ z ∈ a, z ∈ U) : pat ks [] (a.map φ) = Pat.pat ks [] a :=
  pat_map (fun z hz => h.kept z (ha z hz)) (fun z hz => h.new z (ha z hz)) (fun x hx y hy => h.inj x (ha x hx) y (ha y hy))
theorem phi_facts {ks s G : List Int} (hG : G.Nodup) (out : ∀ x ∈ G, x ∉ ks) (hl : s.length ≤ G.length) (U : List Int) (hU : ∀ z ∈ U, z ∉ ks → z ∈ s) : Phi ks U (phi ks s G) := by
  have at' : ∀ z ∈ U, z ∉ ks → ∃ h : s.idxOf z < G.length, phi ks s G z = G[s.idxOf z] := fun z hz' hk => by
    have := List.idxOf_lt_length_of_mem (hU z hz' hk)
    refine ⟨by omega, ?_⟩
    unfold phi
    rw [if_neg hk, getD_of]
  refine ⟨fun z _ hk => by unfold phi; rw [if_pos hk], fun z hz' hk => ?_, fun x hx y hy e => ?_⟩
  · obtain ⟨h, e⟩ := at' z hz' hk
    rw [e]
    exact out _ (List.getElem_mem _)
  · by_cases kx : x ∈ ks
    · have ex : phi ks s G x = x := by unfold phi; rw [if_pos kx]
      by_cases ky : y ∈ ks
      · have ey : phi ks s G y = y := by unfold phi; rw [if_pos ky]
        rw [ex, ey] at e
        exact e
      · obtain ⟨h, ey⟩ := at' y hy ky
        rw [ex, ey] at e
        exact absurd kx (by rw [e]; exact out _ (List.getElem_mem _))
    · obtain ⟨h, ex⟩ := at' x hx kx
      by_cases ky : y ∈ ks
      · have ey : phi ks s G y = y := by unfold phi; rw [if_pos ky]
        rw [ex, ey] at e
        exact absurd ky (by rw [← e]; exact out _ (List.getElem_mem _))
      · obtain ⟨h', ey⟩ := at' y hy ky
        rw [ex, ey] at e
        have ei := (List.getElem_inj hG).mp e
        have e1 := get_idx (hU x hx kx)
        have e2 := get_idx (hU y hy ky)
        simp only [ei] at e1
        exact e1.symm.trans e2
/-- the k-th choices of the values and of the realised ones look alike -/
theorem due_alike {ks a srt F : List Int} {f f' : Int} (hF : Frees ks a.length F) (d : Due ks a srt f) (d' : Due ks (a.map (phi ks (seenF ks [] a) F)) srt f') {k : Nat} {x y : Int}
    (hx : (due ks a srt f)[k]? = some x) (hy : (due ks (a.map (phi ks (seenF ks [] a) F)) srt f')[k]? = some y) :
    pat ks [] (a.map (phi ks (seenF ks [] a) F) ++ [y]) = pat ks [] (a ++ [x]) := by
  have hFl : F.length = a.length := by obtain ⟨_, _, h⟩ := hF; exact h
  have hsl := seenF_len ks a []
  simp only [List.length_nil, Nat.zero_add] at hsl
  have P := phi_facts (ks := ks) (s := seenF ks [] a) hF.nodup (fun x hx => (hF.out x hx).1) (by omega) a (fun z hz hk => (mem_seenF ks a [] z).mpr (.inr ⟨hz, hk⟩))
  have hp := P.pat (a := a) (fun z hz => hz)
  have hse := P.seen (a := a) (fun z hz => hz)
  rw [pat_behind, pat_behind, hp]
  congr 2
  unfold due at hx hy
  by_cases h1 : k < srt.length
  · rw [List.append_assoc, List.getElem?_append_left h1] at hx hy
    rw [hx] at hy
    cases hy
    have : x ∈ ks := (d.sm x).mp (List.mem_of_getElem? hx)
    unfold entOf
    rw [if_pos this, if_pos this]
  · rw [List.append_assoc, List.getElem?_append_right (by omega)] at hx hy
    rw [hse] at hy
    by_cases h2 : k - srt.length < (seenF ks [] a).length
    · rw [List.getElem?_append_left h2] at hx
      rw [List.getElem?_append_left (by rw [List.length_map]; exact h2), List.getElem?_map, hx] at hy
      cases hy
      have hxs := List.mem_of_getElem? hx
      have hxk : x ∉ ks := by
        have := (mem_seenF ks a [] x).mp hxs
        simp at this
        exact this.2
      have hxa : x ∈ a := by
        have := (mem_seenF ks a [] x).mp hxs
        simp at this
        exact this.1
      have hyk := P.new x hxa hxk
      have hys : phi ks (seenF ks [] a) F x ∈ (seenF ks [] a).map (phi ks (seenF ks [] a) F) := List.mem_map.mpr ⟨x, hxs, rfl⟩
      unfold entOf
      rw [if_neg hxk, if_neg hyk, hse, idx_old hxs, idx_old hys]
      congr 2
      have nd := seenF_nodup ks a [] List.nodup_nil
      have nd2 : ((seenF ks [] a).map (phi ks (seenF ks [] a) F)).Nodup := by
        rw [← hse]
        exact seenF_nodup ks _ [] List.nodup_nil
      have i1 := List.idxOf_lt_length_of_mem hxs
      have g : ((seenF ks [] a).map (phi ks (seenF ks [] a) F))[(seenF ks [] a).idxOf x]'(by rw [List.length_map]; exact i1) = phi ks (seenF ks [] a) F x := by
        rw [List.getElem_map, get_idx hxs]
      exact idx_nodup nd2 _ g
    · rw [List.getElem?_append_right (by omega)] at hx
      rw [List.getElem?_append_right (by rw [List.length_map]; omega), List.length_map] at hy
      cases hz : k - srt.length - (seenF ks [] a).length with
      | zero =>
        rw [hz] at hx hy
        simp at hx hy
        subst hx hy
        unfold entOf
        rw [if_neg d.fk, if_neg d'.fk, idx_new d.fs, idx_new d'.fs, hse, List.length_map]
      | succ m => rw [hz] at hx; simp at hx
/-- one value changed to a choice: the moved pattern -/
theorem move_pat {ks a srt F G : List Int} {f c : Int} {i : Nat} (hF : Frees ks a.length F) (hG : Frees ks ((seenF ks [] a).length + 1) G) (d : Due ks a srt f) (hi : i < a.length) (hc : c ∈ due ks a srt f) :
    pat ks [] (((pat ks [] a).map (real F)).set i (if c ∈ ks then c else G.getD ((due ks a srt f).idxOf c - srt.length) 0)) = pat ks [] (a.set i c) := by
  have hGl : G.length = (seenF ks [] a).length + 1 := by obtain ⟨_, _, h⟩ := hG; exact h
  have hFl : F.length = a.length := by obtain ⟨_, _, h⟩ := hF; exact h
  have hsl := seenF_len ks a []
  simp only [List.length_nil, Nat.zero_add] at hsl
  rw [real_phi (by omega)]
  -- φ over the seen ones and f
  have nds := seenF_nodup ks a [] List.nodup_nil
  have P := phi_facts (ks := ks) (s := seenF ks [] a ++ [f]) (G := G) hG.nodup (fun x hx => (hG.out x hx).1) (by simp; omega) (a.set i c) (fun z hz hk => by
    rcases List.mem_or_eq_of_mem_set hz with h | h
    · exact List.mem_append_left _ ((mem_seenF ks a [] z).mpr (.inr ⟨h, hk⟩))
    · subst h
      rcases d.mem.mp hc with q | q | q
      · exact absurd q hk
      · exact List.mem_append_left _ q
      · subst q; simp)
  have same : ∀ z ∈ a, phi ks (seenF ks [] a) F z = phi ks (seenF ks [] a ++ [f]) G z := fun z hz => by
    unfold phi
    by_cases hk : z ∈ ks
    · rw [if_pos hk, if_pos hk]
    · have hs : z ∈ seenF ks [] a := (mem_seenF ks a [] z).mpr (.inr ⟨hz, hk⟩)
      have il := List.idxOf_lt_length_of_mem hs
      rw [if_neg hk, if_neg hk, List.idxOf_append, if_pos hs, getD_of (by omega), getD_of (by omega)]
      exact hF.same hG (List.getElem?_eq_getElem _) (List.getElem?_eq_getElem _)
  have atc : (if c ∈ ks then c else G.getD ((due ks a srt f).idxOf c - srt.length) 0) = phi ks (seenF ks [] a ++ [f]) G c := by
    unfold phi
    by_cases hk : c ∈ ks
    · rw [if_pos hk, if_pos hk]
    · rw [if_neg hk, if_neg hk]
      unfold due
      rw [List.append_assoc, List.idxOf_append, if_neg (fun q => hk ((d.sm c).mp q)), Nat.add_sub_cancel]
  rw [atc, List.map_congr_left same, ← List.map_set]
  exact P.pat (fun z hz => hz)
/-! ### the least free one -/
def Least (L : List Int) (f : Int) : Prop := 0 ≤ f ∧ f ∉ L ∧ ∀ j : Int, 0 ≤ j → j < f → j ∈ L
theorem Least.uniq {L : List Int} {f g : Int} (h : Least L f) (k : Least L g) : f = g := by
  rcases Int.lt_trichotomy f g with e | e | e
  · exact absurd (k.2.2 f h.1 e) h.2.1
  · exact e
  · exact absurd (h.2.2 g k.1 e) k.2.1
theorem frees_one {L F : List Int} (h : Frees L 1 F) : ∃ f, F = [f] ∧ Least L f := by
  have hl : F.length = 1 := by obtain ⟨_, _, q⟩ := h; exact q
  obtain ⟨f, rfl⟩ : ∃ f, F = [f] := by
    cases F with
    | nil => simp at hl
    | cons f r =>
      cases r with
      | nil => exact ⟨f, rfl⟩
      | cons => simp at hl
  obtain ⟨h1, h0⟩ := h.at (i := 0) (x := f) rfl
  refine ⟨f, rfl, h0, (h.out f (by simp)).1, fun j j0 j1 => Decidable.byContradiction fun hn => ?_⟩
  have : j ∈ freesTo L f.toNat := mem_freesTo.mpr ⟨j0, by omega, hn⟩
  rw [List.length_eq_zero_iff.mp h1] at this
  simp at this
/-- all below c stand in L: c is not above its length -/
theorem below_len {L : List Int} {c : Nat} (h : ∀ j : Nat, j < c → ((j : Nat) : Int) ∈ L) : c ≤ L.length := by
  have := freesTo_len L c
  have e : freesTo L c = [] := by
    rw [List.eq_nil_iff_forall_not_mem]
    intro x hx
    obtain ⟨h0, h1, h2⟩ := mem_freesTo.mp hx
    have := h x.toNat (by omega)
    rw [Int.toNat_of_nonneg h0] at this
    exact h2 this
  rw [e] at this
  simpa using this
structure DueR (ks a srt : List Int) (f : Int) : Prop where
  perm : srt.Perm ks
  ord : srt.Pairwise (· ≤ ·)
  least : Least (srt ++ seenF ks [] a) f
theorem DueR.due {ks a srt : List Int} {f : Int} (h : DueR ks a srt f) (nd : ks.Nodup) : Due ks a srt f := by
  refine ⟨fun x => h.perm.mem_iff, h.perm.nodup_iff.mpr nd, fun q => ?_, fun q => ?_⟩
  · exact h.least.2.1 (List.mem_append_left _ (h.perm.mem_iff.mpr q))
  · exact h.least.2.1 (List.mem_append_right _ q)
theorem DueR.uniq {ks a srt srt' : List Int} {f f' : Int} (h : DueR ks a srt f) (k : DueR ks a srt' f') : srt = srt' ∧ f = f' := by
  have e : srt = srt' := List.Perm.eq_of_pairwise (fun x y _ _ h1 h2 => Int.le_antisymm h1 h2) h.ord k.ord (h.perm.trans k.perm.symm)
  subst e
  exact ⟨rfl, h.least.uniq k.least⟩
theorem due_len {ks a srt : List Int} {f : Int} (h : srt.Perm ks) : (due ks a srt f).length = ks.length + (seenF ks [] a).length + 1 := by
  unfold due
  simp [h.length_eq]; omega
/-- the numbers of the new entries, each once, are 0, 1, .. -/
def numsR (n : Nat) : List Int := (List.range n).map fun i : Nat => (i : Int)
theorem mem_numsR {n : Nat} {x : Int} : x ∈ numsR n ↔ 0 ≤ x ∧ x < n := by
  unfold numsR
  simp only [List.mem_map, List.mem_range]
  constructor
  · rintro ⟨i, hi, rfl⟩; omega
  · rintro ⟨h0, h1⟩; exact ⟨x.toNat, by omega, by omega⟩
theorem numsR_succ (n : Nat) : numsR (n + 1) = numsR n ++ [(n : Int)] := by
  unfold numsR
  rw [List.range_succ, List.map_append]
  rfl
end Pat

namespace L27
open PySem PySem.Spec PyProof.Rows L2 QB
def topS (i : Nat) : Stmt := PySem.Challenge.pw_quietedition_k27_choices_stand_for_all.main.body.getD i (.Pass ⟨0, 0, 0, 0⟩)
abbrev s_pattern : Stmt := topS 1
theorem sc_pattern : FnScope ["values", "kept", "numbers", "entries", "value"] ["values", "kept"] (C8.fnScope s_pattern) := C8.fnScope_by (by decide +kernel)
-- pattern: slots 0 values, 1 kept, 2 numbers, 3 entries, 4 value
abbrev s_free_integers : Stmt := topS 2
theorem sc_free_integers : FnScope ["count", "kept", "found", "candidate"] ["count", "kept"] (C8.fnScope s_free_integers) := C8.fnScope_by (by decide +kernel)
-- free_integers: slots 0 count, 1 kept, 2 found, 3 candidate
abbrev s_realise : Stmt := topS 3
theorem sc_realise : FnScope ["entries", "kept", "free", "entry"] ["entries", "kept"] (C8.fnScope s_realise) := C8.fnScope_by (by decide +kernel)
-- realise: slots 0 entries, 1 kept, 2 free, 3 entry
abbrev s_choices : Stmt := topS 4
theorem sc_choices : FnScope ["values", "kept", "found", "value"] ["values", "kept"] (C8.fnScope s_choices) := C8.fnScope_by (by decide +kernel)
-- choices: slots 0 values, 1 kept, 2 found, 3 value
abbrev s_move_pattern : Stmt := topS 5
theorem sc_move_pattern : FnScope ["entries", "at", "entry", "kept", "classes", "one", "free", "values"] ["entries", "at", "entry", "kept"] (C8.fnScope s_move_pattern) := C8.fnScope_by (by decide +kernel)
-- move_pattern: slots 0 entries, 1 at, 2 entry, 3 kept, 4 classes, 5 one, 6 free, 7 values
abbrev s_draw : Stmt := topS 7
theorem sc_draw : FnScope ["_law_pool", "_law_many", "_law_cell", "_law_number_here"] ["_law_pool", "_law_many"] (C8.fnScope s_draw) := C8.fnScope_by (by decide +kernel)
-- _law_draw: slots 0 _law_pool, 1 _law_many, 2 _law_cell, 3 _law_number_here
abbrev s_pick : Stmt := topS 8
theorem sc_pick : FnScope ["_law_pool", "_law_things"] ["_law_pool", "_law_things"] (C8.fnScope s_pick) := C8.fnScope_by (by decide +kernel)
-- _law_pick: slots 0 _law_pool, 1 _law_things
abbrev s_number : Stmt := topS 9
theorem sc_number : FnScope ["_law_pool", "_law_kind"] ["_law_pool"] (C8.fnScope s_number) := C8.fnScope_by (by decide +kernel)
-- _law_number: slots 0 _law_pool, 1 _law_kind
abbrev s_kept : Stmt := topS 10
theorem sc_kept : FnScope ["_law_pool", "_law_kept_here", "_law_k", "_law_number_here"] ["_law_pool"] (C8.fnScope s_kept) := C8.fnScope_by (by decide +kernel)
-- _law_kept: slots 0 _law_pool, 1 _law_kept_here, 2 _law_k, 3 _law_number_here
abbrev s_values : Stmt := topS 11
theorem sc_values : FnScope ["_law_pool", "_law_size", "_law_kept_here", "_law_values_here", "_law_k", "_law_kind"] ["_law_pool", "_law_size", "_law_kept_here"] (C8.fnScope s_values) := C8.fnScope_by (by decide +kernel)
-- _law_values: slots 0 _law_pool, 1 _law_size, 2 _law_kept_here, 3 _law_values_here, 4 _law_k, 5 _law_kind
abbrev s_due : Stmt := topS 12
theorem sc_due : FnScope ["_law_values_here", "_law_kept_here", "_law_due_here", "_law_value", "_law_free"] ["_law_values_here", "_law_kept_here"] (C8.fnScope s_due) := C8.fnScope_by (by decide +kernel)
-- _law_due: slots 0 _law_values_here, 1 _law_kept_here, 2 _law_due_here, 3 _law_value, 4 _law_free
abbrev s_handed : Stmt := topS 13
theorem sc_handed : FnScope ["_law_pool", "_law_values_here", "_law_kept_here", "_law_kind"] ["_law_pool", "_law_values_here", "_law_kept_here"] (C8.fnScope s_handed) := C8.fnScope_by (by decide +kernel)
-- _law_handed: slots 0 _law_pool, 1 _law_values_here, 2 _law_kept_here, 3 _law_kind
abbrev s_entry : Stmt := topS 14
theorem sc_entry : FnScope ["_law_choice", "_law_due_here", "_law_kept_here"] ["_law_choice", "_law_due_here", "_law_kept_here"] (C8.fnScope s_entry) := C8.fnScope_by (by decide +kernel)
-- _law_entry: slots 0 _law_choice, 1 _law_due_here, 2 _law_kept_here
abbrev s_law : Stmt := topS 15
theorem sc_law : FnScope ["_law_script", "_law_pool", "_law_kept_here", "_law_values_here", "_law_told", "_law_due_here", "_law_number_here", "_law_wanted", "_law_same", "_law_choice", "_law_entries", "_law_other", "_law_others", "_law_k", "_law_at", "_law_changed", "_law_moved"] ["_law_script"] (C8.fnScope s_law) := C8.fnScope_by (by decide +kernel)
-- law: slots 0 _law_script, 1 _law_pool, 2 _law_kept_here, 3 _law_values_here, 4 _law_told, 5 _law_due_here, 6 _law_number_here, 7 _law_wanted, 8 _law_same, 9 _law_choice, 10 _law_entries, 11 _law_other, 12 _law_others, 13 _law_k, 14 _law_at, 15 _law_changed, 16 _law_moved
structure Top (K : PySem.W.Frag) (mg : Str → Option Value) : Prop where
  d_pattern : Dd K mg "pattern" s_pattern ["values", "kept"]
  d_free_integers : Dd K mg "free_integers" s_free_integers ["count", "kept"]
  d_realise : Dd K mg "realise" s_realise ["entries", "kept"]
  d_choices : Dd K mg "choices" s_choices ["values", "kept"]
  d_move_pattern : Dd K mg "move_pattern" s_move_pattern ["entries", "at", "entry", "kept"]
  d_draw : Dd K mg "_law_draw" s_draw ["_law_pool", "_law_many"]
  d_pick : Dd K mg "_law_pick" s_pick ["_law_pool", "_law_things"]
  d_number : Dd K mg "_law_number" s_number ["_law_pool"]
  d_kept : Dd K mg "_law_kept" s_kept ["_law_pool"]
  d_values : Dd K mg "_law_values" s_values ["_law_pool", "_law_size", "_law_kept_here"]
  d_due : Dd K mg "_law_due" s_due ["_law_values_here", "_law_kept_here"]
  d_handed : Dd K mg "_law_handed" s_handed ["_law_pool", "_law_values_here", "_law_kept_here"]
  d_entry : Dd K mg "_law_entry" s_entry ["_law_choice", "_law_due_here", "_law_kept_here"]
  d_law : Dd K mg "law" s_law ["_law_script"]
  z_len : mg "len" = none
  z_int : mg "int" = none
  z_tuple : mg "tuple" = none
  z_list : mg "list" = none
  z_range : mg "range" = none
  z_isinstance : mg "isinstance" = none
  z_sorted : mg "sorted" = none
local macro_rules | `(tactic| walk_at "fact") => `(tactic| first | assumption | exact SqL.of (by assumption) | exact SqT.of (by assumption) | exact upd_same | exact SqL.of upd_same | exact SqT.of upd_same)
local macro_rules | `(tactic| walk_at "step") => `(tactic| first
  | with_reducible refine' QB.seqA ?_
  | with_reducible refine' QB.seqD ?_
  | with_reducible refine' QB.seqU ?_
  | ((with_reducible refine' QB.augv ?he ?_); (case he => exact rfl))
  | with_reducible refine' QB.ipi ?_
  | with_reducible refine' QB.setv ?_
  | with_reducible refine' QB.ifs ?_
  | with_reducible refine' QB.ret ?_
  | with_reducible refine' QB.drop ?_
  | with_reducible refine' QB.sets ?_
  | with_reducible refine' QB.opr ?_
  | ((with_reducible refine' QB.var ?he ?_); (case he => exact rfl))
  | with_reducible refine' QB.cst ?_
  | with_reducible refine' QB.tst ?_
  | with_reducible refine' QB.tbb ?_
  | with_reducible refine' QB.exb ?_
  | with_reducible refine' QB.exi ?_
  | with_reducible refine' QB.tand ?_
  | with_reducible refine' QB.tor ?_
  | with_reducible refine' QB.tnot ?_
  | with_reducible refine' QB.tif ?_
  | with_reducible refine' QB.andv ?_
  | with_reducible refine' QB.orv ?_
  | with_reducible refine' QB.kand ?_
  | with_reducible refine' QB.kor ?_
  | with_reducible refine' QB.knot ?_
  | with_reducible refine' QB.tru ?_
  | with_reducible refine' QB.notv ?_
  | with_reducible refine' QB.tcb ?_
  | with_reducible refine' QB.tcall ?_
  | with_reducible refine' QB.tcons ?_
  | with_reducible refine' QB.tnil ?_
  | with_reducible refine' QB.ttup ?_
  | with_reducible refine' QB.tlst ?_
  | with_reducible refine' QB.tbm ?_
  | with_reducible refine' QB.tbm0 ?_
  | with_reducible refine' QB.tsl ?_
  | with_reducible refine' QB.prt ?_
  | with_reducible refine' QB.npr ?_
  | with_reducible refine' QB.unr ?_
  | with_reducible refine' QB.rU' ?_
  | with_reducible refine' QB.rI0' ?_
  | ((with_reducible refine' QB.rI' ?hc ?_); (case hc => first | assumption | decide | exact Or.inr (by decide) | exact Or.inl (by decide) | exact ⟨by decide, by decide, by decide⟩))
  | ((with_reducible refine' QB.req ?hs ?_); (case hs => rfl))
  | ((with_reducible refine' QB.rne ?hs ?_); (case hs => rfl))
  | ((with_reducible refine' QB.ixl ?hp ?ha ?_); (case hp => walk_at "fact"); (case ha => first | rfl | assumption))
  | ((with_reducible refine' QB.ixt ?hp ?ha ?_); (case hp => walk_at "fact"); (case ha => first | rfl | assumption))
  | ((with_reducible refine' QB.setl ?hp ?hj ?_); (case hp => walk_at "fact"); (case hj => rfl))
  | ((with_reducible refine' QB.tyl ?hp ?_); (case hp => walk_at "fact"))
  | ((with_reducible refine' QB.len_l ?hp ?_); (case hp => walk_at "fact"))
  | ((with_reducible refine' QB.len_t ?hp ?_); (case hp => walk_at "fact"))
  | ((with_reducible refine' QB.trl ?hp ?_); (case hp => walk_at "fact"))
  | ((with_reducible refine' QB.trt ?hp ?_); (case hp => walk_at "fact"))
  | with_reducible refine' QB.int_i ?_
  | with_reducible refine' QB.abs_i ?_
  | with_reducible refine' QB.max_i ?_
  | with_reducible refine' QB.min_i ?_
  | with_reducible refine' QB.gnm ?_
  | with_reducible refine' QB.gsb ?_
  | ((with_reducible show Ends.nx _ _ _); (with_reducible refine' QB.nxk ?_))
  | ((with_reducible show Ends.rt _ _ _); (with_reducible refine' QB.rtk ?_))
  | ((with_reducible show Ends.bk _ _ _); (with_reducible refine' QB.bkk ?_))
  | ((with_reducible show Ends.ct _ _ _); (with_reducible refine' QB.ctk ?_))
  | with_reducible refine' QB.itT ?_
  | with_reducible refine' QB.itF ?_
  | with_reducible refine' QB.itNT ?_
  | with_reducible refine' QB.itNF ?_
  | with_reducible refine' QB.yes ?_
  | ((with_reducible refine' QB.inL ?hp ?_); (case hp => walk_at "fact"))
  | ((with_reducible refine' QB.niL ?hp ?_); (case hp => walk_at "fact"))
  | ((with_reducible refine' QB.inT ?hp ?_); (case hp => walk_at "fact"))
  | ((with_reducible refine' QB.niT ?hp ?_); (case hp => walk_at "fact"))
  | with_reducible refine' QB.fs_rng1 ?_
  | with_reducible refine' QB.fs_rng2 ?_
  | with_reducible refine' QB.fs_lst ?_
  | with_reducible refine' QB.fs_tup ?_
  | with_reducible refine' QB.f_rng1 ?_
  | with_reducible refine' QB.f_rng2 ?_
  | with_reducible refine' QB.f_lst ?_
  | with_reducible refine' QB.f_tup ?_
  | with_reducible refine' QB.c_rng1 ?_
  | with_reducible refine' QB.c_lstL ?_
  | with_reducible refine' QB.c_tupL ?_
  | with_reducible refine' QB.nxt ?_)
local macro_rules | `(tactic| walk_at "go") => `(tactic| repeat (walk_at "step"))
section
variable {P : Program} {w : World} {K : PySem.W.Frag} {mg : Str → Option Value} {base : Heap}
theorem ok_draw (T : Top K mg) : C8.Cal P w K mg base 1 "_law_draw" (spDraw K) [] := by
  refine cal_of T.d_draw sc_draw (fun vs H Q E h => ?_) (fun f cdv A outer s H vs Q E hr h => ?_)
  · obtain ⟨p, a, ns, m, rfl, _⟩ := h
    rfl
  · obtain ⟨p, a, ns, m, rfl, m0, m1, hP, q⟩ := h
    have hS := hP.sq
    obtain ⟨_, i, c, sd, i0, hp⟩ := id hP
    refine ⟨_, (pss_cons (ps_if (pt_cmpR op_lt (pe_ix ix_list (pv 0) pe_int (fun _ _ => rfl)) pe_int (nomark _))
      (pss_cons (ps_set (i := 2) sc_draw.nd rfl (Or.inl rfl) pe_int)
      (pss_cons (ps_if (pt_cmpR op_lt (pe_ix ix_list (pv 0) pe_int (fun _ _ => rfl)) (pe_callB c_len (by rfl) T.z_len (by decide +kernel) (pa_cons (pe_ix ix_list (pv 0) pe_int (fun _ _ => rfl)) pa_nil)) (nomark _))
      (pss_one (ps_set (i := 2) sc_draw.nd rfl (Or.inl rfl) (pe_ix ix_list (pe_ix ix_list (pv 0) pe_int (fun _ _ => rfl)) (pe_ix ix_list (pv 0) pe_int (fun _ _ => rfl)) (fun _ _ => rfl))))
      pss_nil)
      (pss_cons (ps_asg (pe_op op_add (pe_ix ix_list (pv 0) pe_int (fun _ _ => rfl)) pe_int) (pg_sub (pv 0) pe_int set_list))
      (pss_cons (ps_if (pt_cmpR op_lt (pv 2) (pe_op op_pow pe_int pe_int) (nomark _))
      (pss_cons (ps_asg (pe_op op_mod (pe_callTy c_int (by rfl) T.z_int (by decide +kernel) (pa_cons (pe_op op_add (pe_op op_add (pe_op op_add (pe_op op_mul (pe_ix ix_list (pv 0) pe_int (fun _ _ => rfl)) pe_int) (pe_op op_mul (pv 2) pe_int)) (pe_op op_mul (pe_ix ix_list (pv 0) pe_int (fun _ _ => rfl)) pe_int)) pe_int) pa_nil)) pe_int) (pg_sub (pv 0) pe_int set_list))
      (pss_one (ps_ret (pe_op op_mod (pe_callTy c_int (by rfl) T.z_int (by decide +kernel) (pa_cons (pe_op op_fdivW (pe_ix ix_list (pv 0) pe_int (fun _ _ => rfl)) pe_int) pa_nil)) (pv 1)))))
      pss_nil)
      (pss_one (ps_asg (pe_callTy c_int (by rfl) T.z_int (by decide +kernel) (pa_cons (pv 2) pa_nil)) (pg_sub (pv 0) pe_int set_list)))))))
      pss_nil)
      (pss_cons (ps_set (i := 3) sc_draw.nd rfl (Or.inl rfl) (pe_op op_mod (pe_callTy c_int (by rfl) T.z_int (by decide +kernel) (pa_cons (pe_ix ix_list (pv 0) pe_int (fun _ _ => rfl)) pa_nil)) (pv 1)))
      (pss_cons (ps_asg (pe_op op_fdivW (pe_callTy c_int (by rfl) T.z_int (by decide +kernel) (pa_cons (pe_ix ix_list (pv 0) pe_int (fun _ _ => rfl)) pa_nil)) (pv 1)) (pg_sub (pv 0) pe_int set_list))
      (pss_one (ps_ret (pv 3)))))), ?_⟩
    try dsimp only [cxOf]
    have hm64 : m.natAbs < 2 ^ 64 := by omega
    refine seqR (P := fun σ H1 => ∃ (x2 : Option V) (c1 i1 s1 : Int), σ = [some (.ref p), some (.int m), x2, none] ∧ 0 ≤ i1 ∧ Fr p H H1 ∧ H1 p = some (.lst [.ref a, .int i1, .int c1, .int s1])) ?_ (fun U rest => ?_)
    · rintro σ H1 ⟨x2, c1, i1, s1, rfl, hi1, fr, hp1⟩
      walk_at "go"
      refine rI' (wide_div m0 hm64 (by decide) (by decide)) ?_
      walk_at "go"
      refine q _ _ (Int.emod_nonneg _ (by omega)) (Int.emod_lt_of_pos _ m0) fr.upd (hP.fr fr.upd hi1 upd_same)
    · walk_at "go"
      refine itD (fun hc => ?_) (fun hc => ?_)
      · walk_at "go"
        -- the cell
        refine seqR (P := fun σ H1 => ∃ x : Int, σ = [some (.ref p), some (.int m), some (.int x), none] ∧ H1 = H) ?_ (fun U2 rest2 => ?_)
        · rintro σ H1 ⟨x, rfl, rfl⟩
          walk_at "go"
          refine seqI ?_
          walk_at "go"
          refine itD (fun hx => ?_) (fun hx => ?_)
          · walk_at "go"
            refine rI' (wide_div (b := 4) (by decide) (by decide) (by decide) (by decide)) ?_
            walk_at "go"
            refine q _ _ (Int.emod_nonneg _ (by omega)) (Int.emod_lt_of_pos _ m0) (Fr.refl p _).upd.upd (hP.fr (i := i + 1) (Fr.refl p _).upd.upd (by omega) upd_same)
          · walk_at "go"
            exact rest _ _ ⟨_, _, i + 1, _, rfl, by omega, (Fr.refl p _).upd.upd, upd_same⟩
        · walk_at "go"
          refine itD (fun hi => ?_) (fun hi => ?_)
          · have hi2 : i.toNat < ns.length := by rw [List.length_map] at hi; omega
            have hat : atI (ns.map V.int) i = some (.int ns[i.toNat]) := at_of (j := i.toNat) (by omega) (by rw [List.getElem?_map, List.getElem?_eq_getElem hi2]; rfl)
            walk_at "go"
            exact rest2 _ _ ⟨_, rfl, rfl⟩
          · walk_at "go"
            exact rest2 _ _ ⟨_, rfl, rfl⟩
      · walk_at "go"
        exact rest _ _ ⟨_, _, i, _, rfl, i0, Fr.refl p H, hp⟩
end
section
variable {P : Program} {w : World} {K : PySem.W.Frag} {mg : Str → Option Value} {base : Heap}
theorem ok_pick (T : Top K mg) : C8.Cal P w K mg base 2 "_law_pick" (spPick K) [] := by
  have c_draw : C8.Cal P w K mg base 1 "_law_draw" (spDraw K) [] := ok_draw T
  refine cal_of T.d_pick sc_pick (fun vs H Q E h => ?_) (fun f cdv A outer s H vs Q E hr h => ?_)
  · obtain ⟨p, a, l, ns, xs, rfl, _⟩ := h
    rfl
  · obtain ⟨p, a, l, ns, xs, rfl, hP, nl, hl, x0, x1, q⟩ := h
    refine ⟨_, (pss_one (ps_ret (pe_ix ix_list (pv 1) (C8.pe_c c_draw hr (by decide) (by rfl) (pa_cons (pv 0) (pa_cons (pe_callB c_len (by rfl) T.z_len (by decide +kernel) (pa_cons (pv 1) pa_nil)) pa_nil))) (fun _ _ => rfl)))), ?_⟩
    try dsimp only [cxOf]
    walk_at "go"
    refine ⟨p, a, ns, _, rfl, by rw [List.length_map]; omega, by rw [List.length_map]; omega, hP, fun r H' r0 r1 fr hP' => ?_⟩
    rw [List.length_map] at r1
    have hb : r.toNat < xs.length := by omega
    have hl' := fr.l nl hl
    have hat : atI (xs.map V.int) r = some (.int xs[r.toNat]) := at_ints r0 (List.getElem?_eq_getElem hb)
    walk_at "go"
    exact q _ _ (List.getElem_mem _) fr hP'
theorem ok_number (T : Top K mg) : C8.Cal P w K mg base 2 "_law_number" (spNumber K) [] := by
  have c_draw : C8.Cal P w K mg base 1 "_law_draw" (spDraw K) [] := ok_draw T
  refine cal_of T.d_number sc_number (fun vs H Q E h => ?_) (fun f cdv A outer s H vs Q E hr h => ?_)
  · obtain ⟨p, a, ns, rfl, _⟩ := h
    rfl
  · obtain ⟨p, a, ns, rfl, hP, q⟩ := h
    refine ⟨_, (pss_cons (ps_set (i := 1) sc_number.nd rfl (Or.inl rfl) (C8.pe_c c_draw hr (by decide) (by rfl) (pa_cons (pv 0) (pa_cons pe_int pa_nil))))
      (pss_cons (ps_if (pt_cmpR op_eq (pv 1) pe_int (nomark _))
      (pss_one (ps_ret (pe_op op_sub (C8.pe_c c_draw hr (by decide) (by rfl) (pa_cons (pv 0) (pa_cons pe_int pa_nil))) pe_int)))
      pss_nil)
      (pss_cons (ps_if (pt_cmpR op_eq (pv 1) pe_int (nomark _))
      (pss_one (ps_ret (pe_op op_sub pe_int (C8.pe_c c_draw hr (by decide) (by rfl) (pa_cons (pv 0) (pa_cons pe_int pa_nil))))))
      pss_nil)
      (pss_cons (ps_if (pt_cmpR op_eq (pv 1) pe_int (nomark _))
      (pss_one (ps_ret (pe_op op_sub (C8.pe_c c_draw hr (by decide) (by rfl) (pa_cons (pv 0) (pa_cons pe_int pa_nil))) pe_int)))
      pss_nil)
      (pss_one (ps_ret (C8.pe_c c_draw hr (by decide) (by rfl) (pa_cons (pv 0) (pa_cons pe_int pa_nil))))))))), ?_⟩
    try dsimp only [cxOf]
    walk_at "go"
    refine ⟨p, a, ns, _, rfl, by decide, by decide, hP, fun k H1 _ _ fr hP1 => ?_⟩
    walk_at "go"
    refine seqI ?_
    walk_at "go"
    refine itD (fun _ => ?_) (fun _ => ?_)
    · walk_at "go"
      refine ⟨p, a, ns, _, rfl, by decide, by decide, hP1, fun r H2 r0 r1 fr2 hP2 => ?_⟩
      walk_at "go"
      exact q _ _ (by omega) (by omega) (fr.trans fr2) hP2
    · walk_at "go"
      refine seqI ?_
      walk_at "go"
      refine itD (fun _ => ?_) (fun _ => ?_)
      · walk_at "go"
        refine ⟨p, a, ns, _, rfl, by decide, by decide, hP1, fun r H2 r0 r1 fr2 hP2 => ?_⟩
        walk_at "go"
        exact q _ _ (by omega) (by omega) (fr.trans fr2) hP2
      · walk_at "go"
        refine seqI ?_
        walk_at "go"
        refine itD (fun _ => ?_) (fun _ => ?_)
        · walk_at "go"
          refine ⟨p, a, ns, _, rfl, by decide, by decide, hP1, fun r H2 r0 r1 fr2 hP2 => ?_⟩
          walk_at "go"
          exact q _ _ (by omega) (by omega) (fr.trans fr2) hP2
        · walk_at "go"
          refine ⟨p, a, ns, _, rfl, by decide, by decide, hP1, fun r H2 r0 r1 fr2 hP2 => ?_⟩
          exact q _ _ (by omega) (by omega) (fr.trans fr2) hP2
end
section
variable {P : Program} {w : World} {K : PySem.W.Frag} {mg : Str → Option Value} {base : Heap}
theorem ok_kept (T : Top K mg) : C8.Cal P w K mg base 3 "_law_kept" (spKept K 4) [] := by
  have c_draw : C8.Cal P w K mg base 1 "_law_draw" (spDraw K) [] := ok_draw T
  have c_number : C8.Cal P w K mg base 2 "_law_number" (spNumber K) [] := ok_number T
  refine cal_of T.d_kept sc_kept (fun vs H Q E h => ?_) (fun f cdv A outer s H vs Q E hr h => ?_)
  · obtain ⟨p, a, ns, rfl, _⟩ := h
    rfl
  · obtain ⟨p, a, ns, rfl, hP, q⟩ := h
    refine ⟨_, (pss_cons (ps_set (i := 1) sc_kept.nd rfl (Or.inl rfl) (pe_lst pa_nil))
      (pss_cons (ps_for PassesOwn.never rfl (pi_range1 (by rfl) T.z_range (pa_cons (C8.pe_c c_draw hr (by decide) (by rfl) (pa_cons (pv 0) (pa_cons pe_int pa_nil))) pa_nil)) (pg_name (i := 2) sc_kept.nd rfl (Or.inl rfl))
      (pss_cons (ps_set (i := 3) sc_kept.nd rfl (Or.inl rfl) (C8.pe_c c_number hr (by decide) (by rfl) (pa_cons (pv 0) pa_nil)))
      (pss_one (ps_if (pt_cmpR op_notIn_seq (pv 3) (pv 1) rfl)
      (pss_one (ps_expr (pe_bm PySem.F.plainAttrs_list PySem.F.slot_list_append PySem.F.type_list_append mt_append (pv 1) (pa_cons (pv 3) pa_nil))))
      pss_nil))))
      (pss_one (ps_ret (pv 1))))), ?_⟩
    try dsimp only [cxOf]
    walk_at "go"
    refine ⟨by decide, fun l hl => ?_⟩
    have nl : l ≠ p := pool_ne hP hl
    have fr0 : Fr p H (upd H l (.lst [])) := Fr.of (same_new hl)
    have hP0 := pool_new (o := .lst []) hP hl
    walk_at "go"
    refine ⟨p, a, ns, _, rfl, by decide, by decide, hP0, fun m H1 m0 m1 fr1 hP1 => ?_⟩
    walk_at "go"
    refine k_rng1 (Pv := fun i σ H' => ∃ (ks : List Int) (x y : Option V), σ = [some (.ref p), some (.ref l), x, y] ∧ ks.Nodup ∧ ks.length ≤ i ∧ Fr p H H' ∧ Pool K H' p a ns ∧ H' l = some (.lst (ks.map V.int))) (by omega) (by omega) ?_ ?_ ?_
    · exact ⟨[], none, none, rfl, List.nodup_nil, Nat.le_refl _, fr0.trans fr1, hP1, fr1 _ _ nl upd_same⟩
    · rintro i σ H2 hi ⟨ks, x, y, rfl, nd, hk, fr2, hP2, hl2⟩ N B hN hB
      walk_at "go"
      refine ⟨p, a, ns, rfl, hP2, fun z H3 z0 z1 fr3 hP3 => ?_⟩
      have hl3 : H3 l = some (.lst (ks.map V.int)) := fr3 _ _ nl hl2
      walk_at "go"
      refine itND (fun hz => ?_) (fun hz => ?_)
      · walk_at "go"
        refine app hl3 (by rw [List.length_map]; exact small1000 (by omega)) ?_
        walk_at "go"
        refine hN _ _ ⟨ks ++ [z], _, _, rfl, ?_, by simp; omega, (fr2.trans fr3).mut hl, pool_mut hP hl hP3, ?_⟩
        · rw [List.nodup_append]
          exact ⟨nd, by simp, fun u hu v hv => by simp at hv; subst hv; intro e; subst e; exact hz hu⟩
        · rw [upd_same, List.map_append]; rfl
      · walk_at "go"
        exact hN _ _ ⟨ks, _, _, rfl, nd, by omega, fr2.trans fr3, hP3, hl3⟩
    · rintro σ H2 ⟨ks, x, y, rfl, nd, hk, fr2, hP2, hl2⟩
      walk_at "go"
      exact q l ks _ hl nd (by omega) fr2 hP2 hl2
theorem ok_values (T : Top K mg) : C8.Cal P w K mg base 3 "_law_values" (spValues K) [] := by
  have c_draw : C8.Cal P w K mg base 1 "_law_draw" (spDraw K) [] := ok_draw T
  have c_number : C8.Cal P w K mg base 2 "_law_number" (spNumber K) [] := ok_number T
  have c_pick : C8.Cal P w K mg base 2 "_law_pick" (spPick K) [] := ok_pick T
  refine cal_of T.d_values sc_values (fun vs H Q E h => ?_) (fun f cdv A outer s H vs Q E hr h => ?_)
  · obtain ⟨p, a, l, ns, ks, n, rfl, _⟩ := h
    rfl
  · obtain ⟨p, a, l, ns, ks, n, rfl, hP, nl, hl, hk, hn, q⟩ := h
    refine ⟨_, (pss_cons (ps_set (i := 3) sc_values.nd rfl (Or.inl rfl) (pe_lst pa_nil))
      (pss_cons (ps_for PassesOwn.never rfl (pi_range1 (by rfl) T.z_range (pa_cons (pv 1) pa_nil)) (pg_name (i := 4) sc_values.nd rfl (Or.inl rfl))
      (pss_cons (ps_set (i := 5) sc_values.nd rfl (Or.inl rfl) (C8.pe_c c_draw hr (by decide) (by rfl) (pa_cons (pv 0) (pa_cons pe_int pa_nil))))
      (pss_one (ps_if (PW.pt (pw_and (pt_cmpR op_eq (pv 5) pe_int (nomark _)) (pw_and1 (pt_tru (pv 2) (by intro _; rfl)))))
      (pss_one (ps_expr (pe_bm PySem.F.plainAttrs_list PySem.F.slot_list_append PySem.F.type_list_append mt_append (pv 3) (pa_cons (C8.pe_c c_pick hr (by decide) (by rfl) (pa_cons (pv 0) (pa_cons (pv 2) pa_nil))) pa_nil))))
      (pss_one (ps_if (PW.pt (pw_and (pt_cmpR op_eq (pv 5) pe_int (nomark _)) (pw_and1 (pt_tru (pv 3) (by intro _; rfl)))))
      (pss_one (ps_expr (pe_bm PySem.F.plainAttrs_list PySem.F.slot_list_append PySem.F.type_list_append mt_append (pv 3) (pa_cons (C8.pe_c c_pick hr (by decide) (by rfl) (pa_cons (pv 0) (pa_cons (pv 3) pa_nil))) pa_nil))))
      (pss_one (ps_expr (pe_bm PySem.F.plainAttrs_list PySem.F.slot_list_append PySem.F.type_list_append mt_append (pv 3) (pa_cons (C8.pe_c c_number hr (by decide) (by rfl) (pa_cons (pv 0) pa_nil)) pa_nil))))))))))
      (pss_one (ps_ret (pv 3))))), ?_⟩
    try dsimp only [cxOf]
    walk_at "go"
    refine ⟨by decide, fun r hr0 => ?_⟩
    have nr : r ≠ p := pool_ne hP hr0
    have hP0 := pool_new (o := .lst []) hP hr0
    walk_at "go"
    refine k_rng1 (Pv := fun i σ H' => ∃ (xs : List Int) (x y : Option V), σ = [some (.ref p), some (.int n), some (.ref l), some (.ref r), x, y] ∧ xs.length = i ∧ Fr p H H' ∧ Pool K H' p a ns ∧ H' r = some (.lst (xs.map V.int))) (by omega) (by omega) ?_ ?_ ?_
    · exact ⟨[], none, none, rfl, rfl, Fr.of (same_new hr0), hP0, upd_same⟩
    · rintro i σ H2 hi ⟨xs, x, y, rfl, hx, fr2, hP2, hr2⟩ N B hN hB
      have fin : ∀ (z : Int) (H3 : Hp) (x y : Option V), Fr p H H3 → Pool K H3 p a ns → H3 r = some (.lst (xs.map V.int)) → N [some (.ref p), some (.int n), some (.ref l), some (.ref r), x, y] (upd H3 r (.lst (xs.map V.int ++ [.int z]))) := fun z H3 x y fr3 hP3 hr3 =>
        hN _ _ ⟨xs ++ [z], x, y, rfl, by simp [hx], fr3.mut hr0, pool_mut hP hr0 hP3, by rw [upd_same, List.map_append]; rfl⟩
      have sz : (xs.map V.int).length < sizeLine := by rw [List.length_map]; exact small1000 (by omega)
      walk_at "go"
      refine ⟨p, a, ns, _, rfl, by decide, by decide, hP2, fun k H3 _ _ fr3 hP3 => ?_⟩
      have hr3 : H3 r = some (.lst (xs.map V.int)) := fr3 _ _ nr hr2
      have hl3 : SqL K H3 l (ks.map V.int) := (fr2.trans fr3).l nl hl
      refine ifK fun Y Z hY hZ => ?_
      have hz : Z H3 := by
        refine hZ _ (ifK fun Y2 Z2 hY2 hZ2 => ?_)
        have hz2 : Z2 H3 := by
          refine hZ2 _ ?_
          walk_at "go"
          refine ⟨p, a, ns, rfl, hP3, fun z H4 _ _ fr4 hP4 => ?_⟩
          walk_at "go"
          exact app (fr4 _ _ nr hr3) sz (fin z _ _ _ ((fr2.trans fr3).trans fr4) hP4 (fr4 _ _ nr hr3))
        walk_at "go"
        refine itD (fun _ => ?_) (fun _ => hz2)
        walk_at "go"
        refine itN (fun e => hY2 _ ?_) (fun _ => hz2)
        walk_at "go"
        have e1 : 0 < xs.length := by
          cases xs with
          | nil => cases e
          | cons => simp
        refine ⟨p, a, r, ns, xs, rfl, hP3, nr, SqL.of hr3, e1, by omega, fun z H4 _ fr4 hP4 => ?_⟩
        walk_at "go"
        exact app (fr4 _ _ nr hr3) sz (fin z _ _ _ ((fr2.trans fr3).trans fr4) hP4 (fr4 _ _ nr hr3))
      walk_at "go"
      refine itD (fun _ => ?_) (fun _ => hz)
      walk_at "go"
      refine itN (fun e => hY _ ?_) (fun _ => hz)
      walk_at "go"
      have e1 : 0 < ks.length := by
        cases ks with
        | nil => cases e
        | cons => simp
      refine ⟨p, a, l, ns, ks, rfl, hP3, nl, hl3, e1, hk, fun z H4 _ fr4 hP4 => ?_⟩
      walk_at "go"
      exact app (fr4 _ _ nr hr3) sz (fin z _ _ _ ((fr2.trans fr3).trans fr4) hP4 (fr4 _ _ nr hr3))
    · rintro σ H2 ⟨xs, x, y, rfl, hx, fr2, hP2, hr2⟩
      walk_at "go"
      exact q r xs _ hr0 (by omega) fr2 hP2 hr2
end
/-- an entry of a pattern as data -/
def entD (e : Pat.Ent) : PyData := .tuple [.str (if e.1 then ("kept" : Str) else "new"), .int e.2]
def spPattern (K : PySem.W.Frag) : Sp := fun vs H Q _ => ∃ (v k : Addr) (xs ks : List Int), vs = [.ref v, .ref k] ∧ (SqL K H v (xs.map V.int) ∨ SqT K H v (xs.map V.int)) ∧ SqL K H k (ks.map V.int) ∧ xs.length < 1000 ∧
  ∀ (r : Addr) (us : List V) (H' : Hp), H r = none → Same H H' → H' r = some (.tup us) → DpAll K H' us ((Pat.pat ks [] xs).map entD) → Q (.ref r) H'
/-- what stands while the entries are laid: G, all that no list of the def's own is; es in the list l -/
def Ents (K : PySem.W.Frag) (H H' : Hp) (d l : Addr) (es : List Pat.Ent) : Prop := ∃ (G : Hp) (us : List V), Same H G ∧ Same G H' ∧ G d = none ∧ G l = none ∧ H' l = some (.lst us) ∧ us.length = es.length ∧ DpAll K G us (es.map entD)
section
variable {P : Program} {w : World} {K : PySem.W.Frag} {mg : Str → Option Value} {base : Heap}
/-- one entry more -/
theorem Ents.add {H H' : Hp} {d l t : Addr} {es : List Pat.Ent} {e : Pat.Ent} {us : List V} {o : HO} (h : Ents K H H' d l es) (nl : d ≠ l) (hd : H' d = some o) (hl : H' l = some (.lst us)) (ht : H' t = none) :
    Ents K H (upd (upd H' t (.tup [.str (if e.1 then ("kept" : Str) else "new"), .int e.2])) l (.lst (us ++ [.ref t]))) d l (es ++ [e]) := by
  obtain ⟨G, us', s1, s2, gd, gl, hl', hu, hD⟩ := h
  have e1 : us' = us := by rw [hl] at hl'; cases hl'; rfl
  subst e1
  have tl : t ≠ l := (ne_of_none hl ht).symm
  have td : t ≠ d := (ne_of_none hd ht).symm
  have gt : G t = none := s2.free ht
  refine ⟨upd G t (.tup [.str (if e.1 then ("kept" : Str) else "new"), .int e.2]), _, s1.trans (same_new gt), same_mut (same_upd2 s2) (by rw [upd_ne tl.symm]; exact gl), by rw [upd_ne td.symm]; exact gd, by rw [upd_ne tl.symm]; exact gl, upd_same, by simp [hu], ?_⟩
  rw [List.map_append]
  exact dp_app (Dp.monoAll (same_new gt) hD) (.tup (SqT.of upd_same) (.cons (.str _) (.cons (.int _) .nil)))
theorem Ents.mutd {H H' : Hp} {d l : Addr} {es : List Pat.Ent} {o : HO} (h : Ents K H H' d l es) (nl : d ≠ l) : Ents K H (upd H' d o) d l es := by
  obtain ⟨G, us, s1, s2, gd, gl, hl, hu, hD⟩ := h
  exact ⟨G, us, s1, same_mut s2 gd, gd, gl, by rw [upd_ne nl.symm]; exact hl, hu, hD⟩
theorem Ents.same {H H' : Hp} {d l : Addr} {es : List Pat.Ent} (h : Ents K H H' d l es) : Same H H' := by
  obtain ⟨G, us, s1, s2, _⟩ := h
  exact s1.trans s2
theorem ok_pattern (T : Top K mg) : C8.Cal P w K mg base 1 "pattern" (spPattern K) [] := by
  refine cal_of T.d_pattern sc_pattern (fun vs H Q E h => ?_) (fun f cdv A outer s H vs Q E hr h => ?_)
  · obtain ⟨v, k, xs, ks, rfl, _⟩ := h
    rfl
  · obtain ⟨v, k, xs, ks, rfl, hv, hk, hx, q⟩ := h
    refine ⟨_, (pss_cons (ps_set (i := 2) sc_pattern.nd rfl (Or.inl rfl) pe_dnewK)
      (pss_cons (ps_set (i := 3) sc_pattern.nd rfl (Or.inl rfl) (pe_lst pa_nil))
      (pss_cons (ps_for PassesOwn.never rfl (pi_seq (pv 0)) (pg_name (i := 4) sc_pattern.nd rfl (Or.inl rfl))
      (pss_one (ps_if (pt_cmpR op_in_seq (pv 4) (pv 1) rfl)
      (pss_one (ps_expr (pe_bm PySem.F.plainAttrs_list PySem.F.slot_list_append PySem.F.type_list_append mt_append (pv 3) (pa_cons (pe_tup (pa_cons pe_str (pa_cons (pv 4) pa_nil))) pa_nil))))
      (pss_one (ps_expr (pe_bm PySem.F.plainAttrs_list PySem.F.slot_list_append PySem.F.type_list_append mt_append (pv 3) (pa_cons (pe_tup (pa_cons pe_str (pa_cons (pe_dsetd (pv 2) (pv 4) (pe_callB call_lenD (by rfl) T.z_len (by decide +kernel) (pa_cons (pv 2) pa_nil)) ⟨rfl, rfl, rfl, rfl⟩) pa_nil))) pa_nil)))))))
      (pss_one (ps_ret (pe_callTy c_tup (by rfl) T.z_tuple (by decide +kernel) (pa_cons (pv 3) pa_nil))))))), ?_⟩
    try dsimp only [cxOf]
    walk_at "go"
    intro d hd
    walk_at "go"
    refine ⟨by decide, fun l hl => ?_⟩
    have ndl : d ≠ l := ne_of_none upd_same hl
    have hl0 : H l = none := by rw [upd_ne ndl.symm] at hl; exact hl
    walk_at "go"
    refine seq ?_
    refine f_seq (a := v) (xs := xs.map V.int) rfl (Pv := fun i σ H' => ∃ (x : Option V), σ = [some (.ref v), some (.ref k), some (.ref d), some (.ref l), x] ∧ Ents K H H' d l (Pat.pat ks [] (xs.take i)) ∧ H' d = some (.dK (numsFrom 0 (Pat.seenF ks [] (xs.take i))))) ?_ ?_ ?_ ?_
    · exact ⟨none, rfl, ⟨H, [], Same.refl H, (same_new hd).trans (same_new hl), hd, hl0, upd_same, rfl, .nil⟩, by rw [upd_ne ndl, upd_same]; rfl⟩
    · rcases hv with hv | hv
      · left; rintro i σ H' ⟨x, _, h, _⟩; exact h.same.seq hv
      · right; rintro i σ H' ⟨x, _, h, _⟩; exact same_t h.same hv
    · rintro i y σ H' hi ⟨x, rfl, hE, hD⟩ N B hN hB
      rw [List.getElem?_map] at hi
      obtain ⟨z, hz, rfl⟩ : ∃ z, xs[i]? = some z ∧ y = .int z := by
        cases e : xs[i]? with
        | none => rw [e] at hi; cases hi
        | some z => rw [e] at hi; exact ⟨z, rfl, (Option.some.inj hi).symm⟩
      have hil : i < xs.length := (List.getElem?_eq_some_iff.mp hz).1
      have hk' := hE.same.seq hk
      obtain ⟨us, hl', hu⟩ : ∃ us, H' l = some (.lst us) ∧ us.length = (Pat.pat ks [] (xs.take i)).length := by
        obtain ⟨_, us, _, _, _, _, h, h2, _⟩ := hE
        exact ⟨us, h, h2⟩
      have sz : us.length < sizeLine := by
        rw [hu, Pat.pat_length, List.length_take]; exact small1000 (by omega)
      have slen := Pat.seenF_len ks (xs.take i) []
      rw [List.length_take] at slen
      simp only [List.length_nil] at slen
      have ep := Pat.pat_snoc ks (xs.take i) z
      have es := Pat.seenF_snoc ks [] (xs.take i) z
      rw [← Pat.take_snoc hz] at ep es
      walk_at "go"
      refine itD (fun hm => ?_) (fun hm => ?_)
      · walk_at "go"
        refine ⟨(show 2 ≤ sizeLine by decide), fun t ht => ?_⟩
        walk_at "go"
        have ntl : t ≠ l := (ne_of_none hl' ht).symm
        refine app (by rw [upd_ne ntl.symm]; exact hl') sz ?_
        refine hN _ _ ⟨_, rfl, ?_, ?_⟩
        · rw [ep, if_pos hm]
          exact hE.add (e := (true, z)) ndl hD hl' ht
        · rw [es, if_pos hm, upd_ne ndl, upd_ne (ne_of_none hD ht)]; exact hD
      · walk_at "go"
        refine ⟨_, rfl, d, rfl, .inl ⟨_, .inl hD⟩, _, rfl, ?_⟩
        walk_at "go"
        refine ⟨d, _, rfl, hD, ?_⟩
        refine ⟨_, .inl z, hD, rfl, by rw [numsFrom_len]; exact small1000 (by omega), fun u hu' => ?_, fun hu' => ?_⟩
        · rw [numsFrom_val] at hu'
          split at hu'
          · rename_i hs
            cases hu'
            walk_at "go"
            refine ⟨(show 2 ≤ sizeLine by decide), fun t ht => ?_⟩
            walk_at "go"
            have ntl : t ≠ l := (ne_of_none hl' ht).symm
            refine app (by rw [upd_ne ntl.symm]; exact hl') sz ?_
            have ei : (0 + List.idxOf z (Pat.seenF ks [] (List.take i xs)) : Nat) = (Pat.add (Pat.seenF ks [] (List.take i xs)) z).idxOf z := by rw [Pat.idx_old hs]; omega
            rw [ei]
            refine hN _ _ ⟨_, rfl, ?_, ?_⟩
            · rw [ep, if_neg hm]
              exact hE.add (e := (false, _)) ndl hD hl' ht
            · rw [es, if_neg hm, upd_ne ndl, upd_ne (ne_of_none hD ht), hD]
              unfold Pat.add
              rw [if_pos hs]
          · cases hu'
        · have hp := L2.putK_new (V.int ((numsFrom 0 (Pat.seenF ks [] (List.take i xs))).length : Int)) hu'
          rw [numsFrom_val] at hu'
          split at hu'
          · cases hu'
          · rename_i hs
            rw [hp]
            have ea : Pat.add (Pat.seenF ks [] (List.take i xs)) z = Pat.seenF ks [] (List.take i xs) ++ [z] := by unfold Pat.add; rw [if_neg hs]
            have en : numsFrom 0 (Pat.seenF ks [] (List.take i xs)) ++ [(Sum.inl z, V.int ((numsFrom 0 (Pat.seenF ks [] (List.take i xs))).length : Int))] = numsFrom 0 (Pat.add (Pat.seenF ks [] (List.take i xs)) z) := by
              rw [ea, numsFrom_snoc, numsFrom_len]; simp
            rw [en]
            have hE2 := hE.mutd (o := .dK (numsFrom 0 (Pat.add (Pat.seenF ks [] (List.take i xs)) z))) ndl
            have hD2 : (upd H' d (.dK (numsFrom 0 (Pat.add (Pat.seenF ks [] (List.take i xs)) z)))) d = some (.dK (numsFrom 0 (Pat.add (Pat.seenF ks [] (List.take i xs)) z))) := upd_same
            have hl2 : (upd H' d (.dK (numsFrom 0 (Pat.add (Pat.seenF ks [] (List.take i xs)) z)))) l = some (.lst us) := by rw [upd_ne ndl.symm]; exact hl'
            generalize upd H' d (.dK (numsFrom 0 (Pat.add (Pat.seenF ks [] (List.take i xs)) z))) = H2 at *
            walk_at "go"
            refine ⟨(show 2 ≤ sizeLine by decide), fun t ht => ?_⟩
            walk_at "go"
            have ntl : t ≠ l := (ne_of_none hl2 ht).symm
            refine app (by rw [upd_ne ntl.symm]; exact hl2) sz ?_
            have ei : (numsFrom 0 (Pat.seenF ks [] (List.take i xs))).length = (Pat.add (Pat.seenF ks [] (List.take i xs)) z).idxOf z := by rw [Pat.idx_new hs, numsFrom_len]
            rw [ei]
            refine hN _ _ ⟨_, rfl, ?_, ?_⟩
            · rw [ep, if_neg hm]
              exact hE2.add (e := (false, _)) ndl hD2 hl2 ht
            · rw [es, if_neg hm, upd_ne ndl, upd_ne (ne_of_none hD2 ht), hD2]
    · rintro σ H' ⟨x, rfl, ⟨G, us, s1, s2, gd, gl, hl', hu, hD'⟩, hD⟩
      rw [List.length_map, List.take_length] at hD'
      walk_at "go"
      refine tup_l (SqL.of hl') fun r hr' => ?_
      have s3 : Same H' (upd H' r (.tup us)) := same_new hr'
      exact q r us _ ((s1.trans s2).free hr') ((s1.trans s2).trans s3) upd_same (Dp.monoAll (s2.trans s3) hD')
end
def spFree (K : PySem.W.Frag) : Sp := fun vs H Q _ => ∃ (k : Addr) (n : Nat) (ks : List Int), vs = [.int n, .ref k] ∧ SqL K H k (ks.map V.int) ∧ n < 1000 ∧
  ∀ (r : Addr) (F : List Int) (H' : Hp), H r = none → Same H H' → Pat.Frees ks n F → H' r = some (.lst (F.map V.int)) → Q (.ref r) H'
def spRealise (K : PySem.W.Frag) : Sp := fun vs H Q _ => ∃ (e k : Addr) (us : List V) (es : List Pat.Ent) (ks : List Int), vs = [.ref e, .ref k] ∧ SqT K H e us ∧ DpAll K H us (es.map entD) ∧ SqL K H k (ks.map V.int) ∧ es.length < 1000 ∧ (∀ x ∈ es, x.1 = false → 0 ≤ x.2 ∧ x.2 < (es.length : Int)) ∧
  ∀ (r : Addr) (F : List Int) (H' : Hp), H r = none → Same H H' → Pat.Frees ks es.length F → H' r = some (.tup ((es.map (Pat.real F)).map V.int)) → Q (.ref r) H'
section
variable {P : Program} {w : World} {K : PySem.W.Frag} {mg : Str → Option Value} {base : Heap}
theorem ok_free (T : Top K mg) : C8.Cal P w K mg base 1 "free_integers" (spFree K) [] := by
  refine cal_of T.d_free_integers sc_free_integers (fun vs H Q E h => ?_) (fun f cdv A outer s H vs Q E hr h => ?_)
  · obtain ⟨k, n, ks, rfl, _⟩ := h
    rfl
  · obtain ⟨k, n, ks, rfl, hk, hn, q⟩ := h
    refine ⟨_, (pss_cons (ps_set (i := 2) sc_free_integers.nd rfl (Or.inl rfl) (pe_lst pa_nil))
      (pss_cons (ps_set (i := 3) sc_free_integers.nd rfl (Or.inl rfl) pe_int)
      (pss_cons (ps_while PassesOwn.never (pt_cmpR op_lt (pe_callB c_len (by rfl) T.z_len (by decide +kernel) (pa_cons (pv 2) pa_nil)) (pv 0) (nomark _))
      (pss_cons (ps_if (pt_cmpR op_notIn_seq (pv 3) (pv 1) rfl)
      (pss_one (ps_expr (pe_bm PySem.F.plainAttrs_list PySem.F.slot_list_append PySem.F.type_list_append mt_append (pv 2) (pa_cons (pv 3) pa_nil))))
      pss_nil)
      (pss_one (ps_aug (i := 3) sc_free_integers.nd rfl (Or.inl rfl) pe_int ip_add))))
      (pss_one (ps_ret (pv 2)))))), ?_⟩
    try dsimp only [cxOf]
    walk_at "go"
    refine ⟨by decide, fun l hl => ?_⟩
    walk_at "go"
    refine seq ?_
    refine k_while (Pv := fun σ H' => ∃ c : Nat, σ = [some (.int n), some (.ref k), some (.ref l), some (.int c)] ∧ Same H H' ∧ H' l = some (.lst ((Pat.freesTo ks c).map V.int)) ∧ (Pat.freesTo ks c).length ≤ n)
      (μ := fun (σ : L2.St) _ => match σ[3]? with | some (some (V.int c)) => n + ks.length + 1 - c.toNat | _ => 0) ?_ ?_ ?_
    · exact ⟨0, rfl, same_new hl, upd_same, Nat.zero_le _⟩
    · rintro σ H' ⟨c, rfl, sm, hl', hc⟩ Y Z hY hZ
      have hk' := sm.seq hk
      have hcl := Pat.freesTo_len ks c
      have sc := Pat.freesTo_succ ks c
      walk_at "go"
      refine itD (fun h1 => hY _ fun N B hN hB => ?_) (fun h1 => hZ _ ?_)
      · rw [List.length_map] at h1
        refine seqR (P := fun σ H2 => σ = [some (.int n), some (.ref k), some (.ref l), some (.int c)] ∧ Same H H2 ∧ H2 l = some (.lst ((Pat.freesTo ks (c + 1)).map V.int))) ?_ (fun U hU => ?_)
        · rintro σ H2 ⟨rfl, sm2, hl2⟩
          walk_at "go"
          refine hN _ _ ⟨c + 1, rfl, sm2, hl2, ?_⟩ ?_
          · rw [sc]
            split
            · exact hc
            · simp; omega
          · show n + ks.length + 1 - ((c : Int) + 1).toNat < n + ks.length + 1 - ((c : Nat) : Int).toNat
            omega
        · walk_at "go"
          refine itND (fun h2 => ?_) (fun h2 => ?_)
          · walk_at "go"
            refine app hl' (by rw [List.length_map]; exact small1000 (by omega)) ?_
            refine hU _ _ ⟨rfl, same_mut sm hl, ?_⟩
            rw [upd_same, sc, if_neg h2, List.map_append]
            rfl
          · walk_at "go"
            refine hU _ _ ⟨rfl, sm, ?_⟩
            rw [sc, if_pos h2]
            exact hl'
      · rw [List.length_map] at h1
        walk_at "go"
        exact q l _ _ hl sm ⟨c, rfl, by omega⟩ hl'
    · rintro σ H1 Q1 Q2 hQ ⟨v, e, p, ys, e1, hs, v2, e2, i, j, e3, e4, kk, e5, hq⟩
      exact ⟨v, e, p, ys, e1, hs, v2, e2, i, j, e3, e4, kk, e5, hQ _ _ hq⟩
theorem ent_str (b : Bool) : (V.str (if b then ("kept" : Str) else "new") = V.str "kept") ↔ b = true := by
  cases b with
  | true => simp
  | false =>
    simp only [Bool.false_eq_true, if_false, iff_false]
    intro h
    injection h with h
    exact absurd h (by decide +kernel)
theorem ent_new (b : Bool) : (V.str (if b then ("kept" : Str) else "new") = V.str "new") ↔ b = false := by
  cases b with
  | false => simp
  | true =>
    simp only [if_true, Bool.true_eq_false, iff_false]
    intro h
    injection h with h
    exact absurd h (by decide +kernel)
/-- an entry, read -/
theorem ent_get {H : Hp} {us : List V} {es : List Pat.Ent} (h : DpAll K H us (es.map entD)) {i : Nat} {e : Pat.Ent} (he : es[i]? = some e) : ∃ t, us[i]? = some (.ref t) ∧ SqT K H t [.str (if e.1 then ("kept" : Str) else "new"), .int e.2] := by
  obtain ⟨v, hv, hD⟩ := dp_get (i := i) (d := entD e) h (by rw [List.getElem?_map, he]; rfl)
  unfold entD at hD
  cases hD with
  | tup hs ha =>
    cases ha with
    | cons h1 h2 =>
      cases h1
      cases h2 with
      | cons h3 h4 =>
        cases h3
        cases h4
        exact ⟨_, hv, hs⟩
theorem ok_realise (T : Top K mg) : C8.Cal P w K mg base 2 "realise" (spRealise K) [] := by
  have c_free_integers : C8.Cal P w K mg base 1 "free_integers" (spFree K) [] := ok_free T
  refine cal_of T.d_realise sc_realise (fun vs H Q E h => ?_) (fun f cdv A outer s H vs Q E hr h => ?_)
  · obtain ⟨e, k, us, es, ks, rfl, _⟩ := h
    rfl
  · obtain ⟨e, k, us, es, ks, rfl, hu, hD, hk, hn, hb, q⟩ := h
    have hlen : us.length = es.length := by rw [dp_len hD, List.length_map]
    refine ⟨_, (pss_cons (ps_set (i := 2) sc_realise.nd rfl (Or.inr rfl) (C8.pe_c c_free_integers hr (by decide) (by rfl) (pa_cons (pe_callB c_len (by rfl) T.z_len (by decide +kernel) (pa_cons (pv 0) pa_nil)) (pa_cons (pv 1) pa_nil))))
      (pss_one (ps_ret (pe_callTy c_tup (by rfl) T.z_tuple (by decide +kernel) (pa_cons (pe_lc (own := [("entry", 3)]) (g := gName 3) (tt := tYes) (by rfl) sc_realise.nd (pi_tup (pv 0)) (blkOk_by (own := [("entry", 3)]) (N := ["entries", "kept", "free", "entry"]) (sc := C8.fnScope s_realise) (by decide +kernel)) (fun _ _ _ _ _ => (pg_name (i := 3) sc_realise.nd rfl (Or.inl rfl))) (fun _ _ _ _ _ => pts_nil) (fun _ _ _ _ _ => (pe_ifExp (pt_cmpR op_eq (pe_ix (kixT K rfl) (pv 3) pe_int (fun _ _ => rfl)) pe_str (nomark _)) (pe_ix (kixT K rfl) (pv 3) pe_int (fun _ _ => rfl)) (pe_ix (kixL K rfl) (pv 2) (pe_ix (kixT K rfl) (pv 3) pe_int (fun _ _ => rfl)) (fun _ _ => rfl))))) pa_nil))))), ?_⟩
    try dsimp only [cxOf]
    walk_at "go"
    refine ⟨k, us.length, ks, rfl, hk, by omega, fun l F H1 hl s1 hF hl1 => ?_⟩
    rw [hlen] at hF
    have hF' : F.length = es.length := by obtain ⟨_, _, h⟩ := hF; exact h
    have hu1 := same_t s1 hu
    have hD1 := Dp.monoAll s1 hD
    walk_at "go"
    refine kc_tupR hu1 (by rw [hlen]; exact small1000 (by omega)) (fun i => ((es.take i).map (Pat.real F)).map V.int) rfl (fun i x H2 hx s2 N N0 hN hN0 => ?_) (fun D H2 hD0 s2 hD2 => ?_)
    · have hi : i < es.length := by rw [← hlen]; exact (List.getElem?_eq_some_iff.mp hx).1
      obtain ⟨t, ht, hs⟩ := ent_get hD1 (List.getElem?_eq_getElem hi)
      rw [hx] at ht
      cases ht
      have hs2 := same_t s2 hs
      have hl2 : SqL K H2 l (F.map V.int) := SqL.of (s2 _ _ hl1)
      have hmem := List.getElem_mem hi
      have hR : ((es.take (i + 1)).map (Pat.real F)).map V.int = ((es.take i).map (Pat.real F)).map V.int ++ [.int (Pat.real F es[i])] := by
        rw [List.take_add_one, List.getElem?_eq_getElem hi, List.map_append, List.map_append]
        rfl
      walk_at "go"
      refine ⟨rfl, ?_⟩
      walk_at "go"
      refine itD (fun h1 => ?_) (fun h1 => ?_)
      · rw [ent_str] at h1
        walk_at "go"
        refine hN _ ?_
        show _ = _
        rw [hR]
        unfold Pat.real
        rw [if_pos h1]
      · rw [ent_str] at h1
        have h1' : es[i].1 = false := by cases h : es[i].1 with | true => exact absurd h h1 | false => rfl
        obtain ⟨b0, b1⟩ := hb _ hmem h1'
        have hat : atI (F.map V.int) es[i].2 = some (.int (F[es[i].2.toNat]'(by omega))) := at_ints b0 (List.getElem?_eq_getElem _)
        walk_at "go"
        refine hN _ ?_
        show _ = _
        rw [hR]
        unfold Pat.real
        rw [if_neg h1]
        simp [List.getD_eq_getElem?_getD, show es[i].2.toNat < F.length by omega]
    · walk_at "go"
      refine tup_l (SqL.of hD2) fun r hr' => ?_
      have s3 : Same H2 (upd H2 r (.tup (((es.take us.length).map (Pat.real F)).map V.int))) := same_new hr'
      refine q r F _ ((s1.trans s2).free hr') ((s1.trans s2).trans s3) hF ?_
      rw [upd_same, hlen, List.take_length]
end
theorem str_kept : PyData.strOk ("kept" : Str) = true := by decide +kernel
theorem str_new : PyData.strOk ("new" : Str) = true := by decide +kernel
theorem kept_new : ("kept" : Str) ≠ "new" := by decide +kernel
theorem entD_lay (e : Pat.Ent) : PyData.canLay0 (entD e) = true ∧ (entD e).depth ≤ 63 ∧ plainD (entD e) = true := by
  obtain ⟨b, n⟩ := e
  cases b <;> simp [entD, PyData.canLay0, PyData.canLayAll0, PyData.depth, PyData.depthAll, plainD, plainDAll, str_kept, str_new]
theorem entD_shaped (es : List Pat.Ent) : SeqAt.shaped (.tuple (es.map entD)) = true := shaped_t fun d hd => by
  obtain ⟨e, _, rfl⟩ := List.mem_map.mp hd
  exact ⟨(entD_lay e).1, (entD_lay e).2.1⟩
theorem entD_inj {a b : Pat.Ent} (h : entD a = entD b) : a = b := by
  obtain ⟨x, m⟩ := a
  obtain ⟨y, n⟩ := b
  simp only [entD, PyData.tuple.injEq, List.cons.injEq, PyData.str.injEq, PyData.int.injEq, and_true] at h
  obtain ⟨h1, h2⟩ := h
  have : x = y := by
    cases x <;> cases y <;> first | rfl | exact absurd h1 kept_new | exact absurd h1.symm kept_new
  rw [this, h2]
theorem map_entD_inj : ∀ {a b : List Pat.Ent}, a.map entD = b.map entD → a = b
  | [], [], _ => rfl
  | [], _ :: _, h => by simp at h
  | _ :: _, [], h => by simp at h
  | x :: a, y :: b, h => by
    simp only [List.map_cons, List.cons.injEq] at h
    rw [entD_inj h.1, map_entD_inj h.2]
theorem entD_eqv (a b : List Pat.Ent) : PyData.eqv (.tuple (a.map entD)) (.tuple (b.map entD)) = decide (a = b) := by
  have hp : ∀ l : List Pat.Ent, plainD (.tuple (l.map entD)) = true := fun l => by
    simp only [plainD]
    exact plainAll_of fun d hd => by
      obtain ⟨e, _, rfl⟩ := List.mem_map.mp hd
      exact (entD_lay e).2.2
  have := eqv_plain _ _ (hp a) (hp b)
  by_cases h : a = b
  · rw [decide_eq_true h, this, h]
  · rw [decide_eq_false h]
    cases hq : PyData.eqv (.tuple (a.map entD)) (.tuple (b.map entD)) with
    | true =>
      have e := this.mp hq
      injection e with e
      exact absurd (map_entD_inj e) h
    | false => rfl
def spChoices (K : PySem.W.Frag) : Sp := fun vs H Q _ => ∃ (v k : Addr) (xs ks : List Int), vs = [.ref v, .ref k] ∧ (SqL K H v (xs.map V.int) ∨ SqT K H v (xs.map V.int)) ∧ SqL K H k (ks.map V.int) ∧ xs.length < 100 ∧ ks.length < 100 ∧
  ∀ (r : Addr) (srt : List Int) (f : Int) (H' : Hp), H r = none → Same H H' → Pat.DueR ks xs srt f → H' r = some (.lst ((Pat.due ks xs srt f).map V.int)) → Q (.ref r) H'
def spHanded (K : PySem.W.Frag) : Sp := fun vs H Q _ => ∃ (p a v l : Addr) (ns ks ws : List Int), vs = [.ref p, .ref v, .ref l] ∧ Pool K H p a ns ∧ l ≠ p ∧ v ≠ p ∧ SqL K H l (ks.map V.int) ∧ SqL K H v (ws.map V.int) ∧ ws.length < 1000 ∧ ks.length < 1000 ∧ ∀ (x : Int) (H' : Hp), Fr p H H' → Pool K H' p a ns → Q (.int x) H'
/-- what the law hands to move_pattern -/
def entC (ks due : List Int) (c : Int) : Pat.Ent := if c ∈ ks then (true, c) else (false, (due.idxOf c : Int) - (ks.length : Int))
def spEntry (K : PySem.W.Frag) : Sp := fun vs H Q _ => ∃ (d k : Addr) (c : Int) (ds ks : List Int), vs = [.int c, .ref d, .ref k] ∧ SqL K H d (ds.map V.int) ∧ SqL K H k (ks.map V.int) ∧ c ∈ ds ∧
  ∀ (r : Addr) (H' : Hp), H r = none → Same H H' → H' r = some (.tup [.str (if (entC ks ds c).1 then ("kept" : Str) else "new"), .int (entC ks ds c).2]) → Q (.ref r) H'
def spMove (K : PySem.W.Frag) : Sp := fun vs H Q _ => ∃ (e t k : Addr) (i : Nat) (us : List V) (a ks : List Int) (en : Pat.Ent), vs = [.ref e, .int i, .ref t, .ref k] ∧ SqT K H e us ∧ DpAll K H us ((Pat.pat ks [] a).map entD) ∧ SqT K H t [.str (if en.1 then ("kept" : Str) else "new"), .int en.2] ∧ SqL K H k (ks.map V.int) ∧ a.length < 100 ∧ i < a.length ∧
  (en.1 = false → 0 ≤ en.2 ∧ en.2 ≤ ((Pat.seenF ks [] a).length : Int)) ∧
  ∀ (r : Addr) (F G : List Int) (ws : List V) (H' : Hp), H r = none → Same H H' → Pat.Frees ks a.length F → Pat.Frees ks ((Pat.seenF ks [] a).length + 1) G → H' r = some (.tup ws) →
    DpAll K H' ws ((Pat.pat ks [] (((Pat.pat ks [] a).map (Pat.real F)).set i (if en.1 then en.2 else G.getD en.2.toNat 0))).map entD) → Q (.ref r) H'
section
variable {P : Program} {w : World} {K : PySem.W.Frag} {mg : Str → Option Value} {base : Heap}
theorem ok_choices (T : Top K mg) : C8.Cal P w K mg base 2 "choices" (spChoices K) [] := by
  have c_free_integers : C8.Cal P w K mg base 1 "free_integers" (spFree K) [] := ok_free T
  refine cal_of T.d_choices sc_choices (fun vs H Q E h => ?_) (fun f cdv A outer s H vs Q E hr h => ?_)
  · obtain ⟨v, k, xs, ks, rfl, _⟩ := h
    rfl
  · obtain ⟨v, k, xs, ks, rfl, hv, hk, hx, hkl, q⟩ := h
    refine ⟨_, (pss_cons (ps_set (i := 2) sc_choices.nd rfl (Or.inl rfl) (pe_callB cr_sortedI (by rfl) T.z_sorted (by decide +kernel) (pa_cons (pv 1) pa_nil)))
      (pss_cons (ps_for PassesOwn.never rfl (pi_seq (pv 0)) (pg_name (i := 3) sc_choices.nd rfl (Or.inl rfl))
      (pss_one (ps_if (pt_cmpR op_notIn_seq (pv 3) (pv 2) rfl)
      (pss_one (ps_expr (pe_bm PySem.F.plainAttrs_list PySem.F.slot_list_append PySem.F.type_list_append mt_append (pv 2) (pa_cons (pv 3) pa_nil))))
      pss_nil)))
      (pss_one (ps_ret (pe_op op_cat (pv 2) (C8.pe_c c_free_integers hr (by decide) (by rfl) (pa_cons pe_int (pa_cons (pv 2) pa_nil)))))))), ?_⟩
    try dsimp only [cxOf]
    walk_at "go"
    refine srtd hk fun srt l hp ho hl => ?_
    have hsl := hp.length_eq
    walk_at "go"
    refine seq ?_
    refine f_seq (a := v) (xs := xs.map V.int) rfl (Pv := fun i σ H' => ∃ (x : Option V), σ = [some (.ref v), some (.ref k), some (.ref l), x] ∧ Same H H' ∧ H' l = some (.lst ((Pat.addAll srt (xs.take i)).map V.int))) ?_ ?_ ?_ ?_
    · exact ⟨none, rfl, same_new hl, upd_same⟩
    · rcases hv with hv | hv
      · left; rintro i σ H' ⟨x, _, h, _⟩; exact h.seq hv
      · right; rintro i σ H' ⟨x, _, h, _⟩; exact same_t h hv
    · rintro i y σ H' hi ⟨x, rfl, sm, hl'⟩ N B hN hB
      rw [List.getElem?_map] at hi
      obtain ⟨z, hz, rfl⟩ : ∃ z, xs[i]? = some z ∧ y = .int z := by
        cases e : xs[i]? with
        | none => rw [e] at hi; cases hi
        | some z => rw [e] at hi; exact ⟨z, rfl, (Option.some.inj hi).symm⟩
      have es := Pat.addAll_snoc srt (xs.take i) z
      rw [← Pat.take_snoc hz] at es
      have hil : i < xs.length := (List.getElem?_eq_some_iff.mp hz).1
      have hal := Pat.addAll_len (xs.take i) srt
      rw [List.length_take] at hal
      walk_at "go"
      refine itND (fun hm => ?_) (fun hm => ?_)
      · walk_at "go"
        refine app hl' (by rw [List.length_map]; exact small1000 (by omega)) ?_
        refine hN _ _ ⟨_, rfl, same_mut sm hl, ?_⟩
        rw [upd_same, es]
        unfold Pat.add
        rw [if_neg hm, List.map_append]
        rfl
      · walk_at "go"
        refine hN _ _ ⟨_, rfl, sm, ?_⟩
        rw [es]
        unfold Pat.add
        rw [if_pos hm]
        exact hl'
    · rintro σ H' ⟨x, rfl, sm, hl'⟩
      rw [List.length_map, List.take_length] at hl'
      have ea : Pat.addAll srt xs = srt ++ Pat.seenF ks [] xs := by
        have := Pat.addAll_eq ks srt (fun x => hp.mem_iff) xs []
        rwa [List.append_nil] at this
      rw [ea] at hl'
      have hsl2 := Pat.seenF_len ks xs []
      simp only [List.length_nil, Nat.zero_add] at hsl2
      walk_at "go"
      refine ⟨l, 1, _, rfl, SqL.of hl', by decide, fun g F H2 hg s2 hF hg2 => ?_⟩
      obtain ⟨fr, rfl, hle⟩ := Pat.frees_one hF
      refine cat (s2 _ _ hl') hg2 (by simp; exact Nat.le_of_lt (small1000 (by omega))) fun r hr' => ?_
      have s3 := same_new (o := .lst ((srt ++ Pat.seenF ks [] xs).map V.int ++ [fr].map V.int)) hr'
      refine q r srt fr _ ((sm.trans s2).free hr') ((sm.trans s2).trans s3) ⟨hp, ho, hle⟩ ?_
      rw [upd_same]
      unfold Pat.due
      rw [List.map_append (l₂ := [fr])]
def spDue (K : PySem.W.Frag) : Sp := fun vs H Q _ => ∃ (v k : Addr) (xs ks : List Int), vs = [.ref v, .ref k] ∧ SqL K H v (xs.map V.int) ∧ SqL K H k (ks.map V.int) ∧ xs.length < 100 ∧ ks.length < 100 ∧
  ∀ (r : Addr) (srt : List Int) (f : Int) (H' : Hp), H r = none → Same H H' → Pat.DueR ks xs srt f → H' r = some (.lst ((Pat.due ks xs srt f).map V.int)) → Q (.ref r) H'
theorem ok_due (T : Top K mg) : C8.Cal P w K mg base 1 "_law_due" (spDue K) [] := by
  refine cal_of T.d_due sc_due (fun vs H Q E h => ?_) (fun f cdv A outer s H vs Q E hr h => ?_)
  · obtain ⟨v, k, xs, ks, rfl, _⟩ := h
    rfl
  · obtain ⟨v, k, xs, ks, rfl, hv, hk, hx, hkl, q⟩ := h
    refine ⟨_, (pss_cons (ps_set (i := 2) sc_due.nd rfl (Or.inl rfl) (pe_callB cr_sortedI (by rfl) T.z_sorted (by decide +kernel) (pa_cons (pv 1) pa_nil)))
      (pss_cons (ps_for PassesOwn.never rfl (pi_list (pv 0)) (pg_name (i := 3) sc_due.nd rfl (Or.inl rfl))
      (pss_one (ps_if (pt_cmpR op_notIn_seq (pv 3) (pv 2) rfl)
      (pss_one (ps_expr (pe_bm PySem.F.plainAttrs_list PySem.F.slot_list_append PySem.F.type_list_append mt_append (pv 2) (pa_cons (pv 3) pa_nil))))
      pss_nil)))
      (pss_cons (ps_set (i := 4) sc_due.nd rfl (Or.inl rfl) pe_int)
      (pss_cons (ps_while PassesOwn.never (pt_cmpR op_in_seq (pv 4) (pv 2) rfl)
      (pss_one (ps_set (i := 4) sc_due.nd rfl (Or.inl rfl) (pe_op op_add (pv 4) pe_int))))
      (pss_one (ps_ret (pe_op op_cat (pv 2) (pe_lst (pa_cons (pv 4) pa_nil))))))))), ?_⟩
    try dsimp only [cxOf]
    walk_at "go"
    refine srtd hk fun srt l hp ho hl => ?_
    have hsl := hp.length_eq
    walk_at "go"
    refine k_lst (a := v) (xs := xs.map V.int) (Pv := fun i σ H' => ∃ (x : Option V), σ = [some (.ref v), some (.ref k), some (.ref l), x, none] ∧ Same H H' ∧ H' l = some (.lst ((Pat.addAll srt (xs.take i)).map V.int))) ?_ ?_ ?_ ?_
    · exact ⟨none, rfl, same_new hl, upd_same⟩
    · rintro i σ H' ⟨x, _, h, _⟩; exact h.seq hv
    · rintro i y σ H' hi ⟨x, rfl, sm, hl'⟩ N B hN hB
      rw [List.getElem?_map] at hi
      obtain ⟨z, hz, rfl⟩ : ∃ z, xs[i]? = some z ∧ y = .int z := by
        cases e : xs[i]? with
        | none => rw [e] at hi; cases hi
        | some z => rw [e] at hi; exact ⟨z, rfl, (Option.some.inj hi).symm⟩
      have es := Pat.addAll_snoc srt (xs.take i) z
      rw [← Pat.take_snoc hz] at es
      have hil : i < xs.length := (List.getElem?_eq_some_iff.mp hz).1
      have hal := Pat.addAll_len (xs.take i) srt
      rw [List.length_take] at hal
      walk_at "go"
      refine itND (fun hm => ?_) (fun hm => ?_)
      · walk_at "go"
        refine app hl' (by rw [List.length_map]; exact small1000 (by omega)) ?_
        refine hN _ _ ⟨_, rfl, same_mut sm hl, ?_⟩
        rw [upd_same, es]
        unfold Pat.add
        rw [if_neg hm, List.map_append]
        rfl
      · walk_at "go"
        refine hN _ _ ⟨_, rfl, sm, ?_⟩
        rw [es]
        unfold Pat.add
        rw [if_pos hm]
        exact hl'
    · rintro σ H' ⟨x, rfl, sm, hl'⟩
      rw [List.length_map, List.take_length] at hl'
      have ea : Pat.addAll srt xs = srt ++ Pat.seenF ks [] xs := by
        have := Pat.addAll_eq ks srt (fun x => hp.mem_iff) xs []
        rwa [List.append_nil] at this
      rw [ea] at hl'
      have hsl2 := Pat.seenF_len ks xs []
      simp only [List.length_nil, Nat.zero_add] at hsl2
      walk_at "go"
      refine seq ?_
      refine k_while (Pv := fun σ H2 => ∃ c : Nat, σ = [some (.ref v), some (.ref k), some (.ref l), x, some (.int c)] ∧ H2 = H' ∧ ∀ j : Nat, j < c → ((j : Nat) : Int) ∈ srt ++ Pat.seenF ks [] xs)
        (μ := fun (σ : L2.St) _ => match σ[4]? with | some (some (V.int c)) => (srt ++ Pat.seenF ks [] xs).length + 1 - c.toNat | _ => 0) ?_ ?_ ?_
      · exact ⟨0, rfl, rfl, fun j hj => by omega⟩
      · rintro σ H2 ⟨c, rfl, rfl, hc⟩ Y Z hY hZ
        have hcl := Pat.below_len hc
        walk_at "go"
        refine itD (fun h1 => hY _ fun N B hN hB => ?_) (fun h1 => hZ _ ?_)
        · walk_at "go"
          have hc' : ∀ j : Nat, j < c + 1 → ((j : Nat) : Int) ∈ srt ++ Pat.seenF ks [] xs := fun j hj => by
            by_cases e : j = c
            · subst e; exact h1
            · exact hc j (by omega)
          have hcl' := Pat.below_len hc'
          refine hN _ _ ⟨c + 1, rfl, rfl, hc'⟩ ?_
          show (srt ++ Pat.seenF ks [] xs).length + 1 - ((c : Int) + 1).toNat < (srt ++ Pat.seenF ks [] xs).length + 1 - ((c : Nat) : Int).toNat
          omega
        · walk_at "go"
          refine ⟨(show 1 ≤ sizeLine by decide), fun g hg => ?_⟩
          have s2 := same_new (o := .lst [.int (c : Int)]) hg
          refine cat (s2 _ _ hl') upd_same (by simp; exact Nat.le_of_lt (small1000 (by omega))) fun r hr' => ?_
          have s3 := s2.trans (same_new (o := .lst ((srt ++ Pat.seenF ks [] xs).map V.int ++ [.int (c : Int)])) hr')
          refine q r srt c _ ((sm.trans s2).free hr') (sm.trans s3) ⟨hp, ho, by omega, h1, fun j j0 j1 => ?_⟩ ?_
          · have := hc j.toNat (by omega)
            rwa [Int.toNat_of_nonneg j0] at this
          · rw [upd_same]
            unfold Pat.due
            rw [List.map_append (l₂ := [(c : Int)])]
            rfl
      · rintro σ H1 Q1 Q2 hQ ⟨v1, e1, v2, e2, p, ys, e3, hs, f1, f2, kk, e5, hq⟩
        exact ⟨v1, e1, v2, e2, p, ys, e3, hs, f1, f2, kk, e5, hQ _ _ hq⟩
theorem ok_handed (T : Top K mg) : C8.Cal P w K mg base 3 "_law_handed" (spHanded K) [] := by
  have c_draw : C8.Cal P w K mg base 1 "_law_draw" (spDraw K) [] := ok_draw T
  have c_number : C8.Cal P w K mg base 2 "_law_number" (spNumber K) [] := ok_number T
  have c_pick : C8.Cal P w K mg base 2 "_law_pick" (spPick K) [] := ok_pick T
  refine cal_of T.d_handed sc_handed (fun vs H Q E h => ?_) (fun f cdv A outer s H vs Q E hr h => ?_)
  · obtain ⟨p, a, v, l, ns, ks, ws, rfl, _⟩ := h
    rfl
  · obtain ⟨p, a, v, l, ns, ks, ws, rfl, hP, nl, nv, hl, hv, hw, hk, q⟩ := h
    refine ⟨_, (pss_cons (ps_set (i := 3) sc_handed.nd rfl (Or.inl rfl) (C8.pe_c c_draw hr (by decide) (by rfl) (pa_cons (pv 0) (pa_cons pe_int pa_nil))))
      (pss_cons (ps_if (PW.pt (pw_and (pt_cmpR op_eq (pv 3) pe_int (nomark _)) (pw_and1 (pt_tru (pv 2) (by intro _; rfl)))))
      (pss_one (ps_ret (C8.pe_c c_pick hr (by decide) (by rfl) (pa_cons (pv 0) (pa_cons (pv 2) pa_nil)))))
      pss_nil)
      (pss_cons (ps_if (PW.pt (pw_and (pt_cmpR op_eq (pv 3) pe_int (nomark _)) (pw_and1 (pt_tru (pv 1) (by intro _; rfl)))))
      (pss_one (ps_ret (C8.pe_c c_pick hr (by decide) (by rfl) (pa_cons (pv 0) (pa_cons (pv 1) pa_nil)))))
      pss_nil)
      (pss_cons (ps_if (pt_cmpR op_eq (pv 3) pe_int (nomark _))
      (pss_one (ps_ret (pe_op op_sub (pe_op op_sub pe_int pe_int) (C8.pe_c c_draw hr (by decide) (by rfl) (pa_cons (pv 0) (pa_cons (pe_op op_pow pe_int pe_int) pa_nil))))))
      pss_nil)
      (pss_one (ps_ret (C8.pe_c c_number hr (by decide) (by rfl) (pa_cons (pv 0) pa_nil)))))))), ?_⟩
    try dsimp only [cxOf]
    walk_at "go"
    refine ⟨p, a, ns, _, rfl, by decide, by decide, hP, fun k H1 _ _ fr1 hP1 => ?_⟩
    have hl1 := fr1.l nl hl
    have hv1 := fr1.l nv hv
    walk_at "go"
    refine seqR (P := fun σ H2 => σ = [some (.ref p), some (.ref v), some (.ref l), some (.int k)] ∧ H2 = H1) ?_ (fun U hU => ?_)
    · rintro σ H2 ⟨rfl, rfl⟩
      refine seqR (P := fun σ H3 => σ = [some (.ref p), some (.ref v), some (.ref l), some (.int k)] ∧ H3 = H2) ?_ (fun U hU => ?_)
      · rintro σ H3 ⟨rfl, rfl⟩
        refine seqI ?_
        walk_at "go"
        refine itD (fun _ => ?_) (fun _ => ?_)
        · walk_at "go"
          refine ⟨p, a, ns, _, rfl, by decide, by decide, hP1, fun r H2 _ _ fr2 hP2 => ?_⟩
          walk_at "go"
          exact q _ _ (fr1.trans fr2) hP2
        · walk_at "go"
          exact ⟨p, a, ns, rfl, hP1, fun x H2 _ _ fr2 hP2 => q _ _ (fr1.trans fr2) hP2⟩
      · refine ifK fun Y Z hY hZ => ?_
        have hz : Z H2 := hZ _ (by walk_at "go"; exact hU _ _ ⟨rfl, rfl⟩)
        walk_at "go"
        refine itD (fun _ => ?_) (fun _ => hz)
        walk_at "go"
        refine itN (fun e => hY _ ?_) (fun _ => hz)
        walk_at "go"
        have e1 : 0 < ws.length := by
          cases ws with
          | nil => cases e
          | cons => simp
        exact ⟨p, a, v, ns, ws, rfl, hP1, nv, hv1, e1, hw, fun x H3 _ fr2 hP2 => q _ _ (fr1.trans fr2) hP2⟩
    · refine ifK fun Y Z hY hZ => ?_
      have hz : Z H1 := hZ _ (by walk_at "go"; exact hU _ _ ⟨rfl, rfl⟩)
      walk_at "go"
      refine itD (fun _ => ?_) (fun _ => hz)
      walk_at "go"
      refine itN (fun e => hY _ ?_) (fun _ => hz)
      walk_at "go"
      have e1 : 0 < ks.length := by
        cases ks with
        | nil => cases e
        | cons => simp
      exact ⟨p, a, l, ns, ks, rfl, hP1, nl, hl1, e1, hk, fun x H3 _ fr2 hP2 => q _ _ (fr1.trans fr2) hP2⟩
theorem ok_entry (T : Top K mg) : C8.Cal P w K mg base 1 "_law_entry" (spEntry K) [] := by
  refine cal_of T.d_entry sc_entry (fun vs H Q E h => ?_) (fun f cdv A outer s H vs Q E hr h => ?_)
  · obtain ⟨d, k, c, ds, ks, rfl, _⟩ := h
    rfl
  · obtain ⟨d, k, c, ds, ks, rfl, hd, hk, hc, q⟩ := h
    refine ⟨_, (pss_cons (ps_if (pt_cmpR op_in_seq (pv 0) (pv 2) rfl)
      (pss_one (ps_ret (pe_tup (pa_cons pe_str (pa_cons (pv 0) pa_nil)))))
      pss_nil)
      (pss_one (ps_ret (pe_tup (pa_cons pe_str (pa_cons (pe_op op_sub (pe_bm PySem.F.plainAttrs_list PySem.F.slot_list_index PySem.F.type_list_index mt_index (pv 1) (pa_cons (pv 0) pa_nil)) (pe_callB c_len (by rfl) T.z_len (by decide +kernel) (pa_cons (pv 2) pa_nil))) pa_nil)))))), ?_⟩
    try dsimp only [cxOf]
    refine seqI ?_
    walk_at "go"
    unfold entC at q
    refine itD (fun hm => ?_) (fun hm => ?_)
    · rw [if_pos hm] at q
      walk_at "go"
      refine ⟨(show 2 ≤ sizeLine by decide), fun t ht => ?_⟩
      exact q t _ ht (same_new ht) upd_same
    · rw [if_neg hm] at q
      walk_at "go"
      refine idxL hd hc ?_
      walk_at "go"
      rw [List.length_map]
      refine ⟨(show 2 ≤ sizeLine by decide), fun t ht => ?_⟩
      exact q t _ ht (same_new ht) upd_same
theorem ok_move (T : Top K mg) : C8.Cal P w K mg base 3 "move_pattern" (spMove K) [] := by
  have c_free_integers : C8.Cal P w K mg base 1 "free_integers" (spFree K) [] := ok_free T
  have c_realise : C8.Cal P w K mg base 2 "realise" (spRealise K) [] := ok_realise T
  have c_pattern : C8.Cal P w K mg base 1 "pattern" (spPattern K) [] := ok_pattern T
  refine cal_of T.d_move_pattern sc_move_pattern (fun vs H Q E h => ?_) (fun f cdv A outer s H vs Q E hr h => ?_)
  · obtain ⟨e, t, k, i, us, a, ks, en, rfl, _⟩ := h
    rfl
  · obtain ⟨e, t, k, i, us, a, ks, en, rfl, hu, hD, ht, hk, ha, hi, hen, q⟩ := h
    have hlen : us.length = a.length := by rw [dp_len hD, List.length_map, Pat.pat_length]
    have hsl := Pat.seenF_len ks a []
    simp only [List.length_nil, Nat.zero_add] at hsl
    refine ⟨_, (pss_cons (ps_set (i := 4) sc_move_pattern.nd rfl (Or.inl rfl) (pe_callB QS.c_lenI (by rfl) T.z_len (by decide +kernel) (pa_cons (QS.pe_si (own := [("one", 5)]) (g := gName 5) (by rfl) sc_move_pattern.nd (pi_tup (pv 0)) (blkOk_by (own := [("one", 5)]) (N := ["entries", "at", "entry", "kept", "classes", "one", "free", "values"]) (sc := C8.fnScope s_move_pattern) (by decide +kernel)) (fun _ _ _ _ _ => (pg_name (i := 5) sc_move_pattern.nd rfl (Or.inl rfl))) (fun _ _ _ _ _ => (pts_one (pt_cmpR op_eq (pe_ix (kixT K rfl) (pv 5) pe_int (fun _ _ => rfl)) pe_str (nomark _)))) (fun _ _ _ _ _ => (pe_ix (kixT K rfl) (pv 5) pe_int (fun _ _ => rfl)))) pa_nil)))
      (pss_cons (ps_set (i := 6) sc_move_pattern.nd rfl (Or.inl rfl) (C8.pe_c c_free_integers hr (by decide) (by rfl) (pa_cons (pe_op op_add (pv 4) pe_int) (pa_cons (pv 3) pa_nil))))
      (pss_cons (ps_set (i := 7) sc_move_pattern.nd rfl (Or.inl rfl) (pe_callTy c_lst (by rfl) T.z_list (by decide +kernel) (pa_cons (C8.pe_c c_realise hr (by decide) (by rfl) (pa_cons (pv 0) (pa_cons (pv 3) pa_nil))) pa_nil)))
      (pss_cons (ps_asg (pe_ifExp (pt_cmpR op_eq (pe_ix ix_tup (pv 2) pe_int (fun _ _ => rfl)) pe_str (nomark _)) (pe_ix ix_tup (pv 2) pe_int (fun _ _ => rfl)) (pe_ix ix_list (pv 6) (pe_ix ix_tup (pv 2) pe_int (fun _ _ => rfl)) (fun _ _ => rfl))) (pg_sub (pv 7) (pv 1) set_list))
      (pss_one (ps_ret (C8.pe_c c_pattern hr (by decide) (by rfl) (pa_cons (pv 7) (pa_cons (pv 3) pa_nil))))))))), ?_⟩
    try dsimp only [cxOf]
    walk_at "go"
    refine QS.c_si ?_
    walk_at "go"
    refine QS.kc_si hu (by omega) (fun j => Pat.numsR (Pat.seenF ks [] (a.take j)).length) rfl (fun j x H2 hx s2 N N0 hN hN0 => ?_) (fun D H2 hD0 s2 hD2 => ?_)
    · have hj : j < a.length := by rw [← hlen]; exact (List.getElem?_eq_some_iff.mp hx).1
      have hj2 : j < (Pat.pat ks [] a).length := by rw [Pat.pat_length]; exact hj
      obtain ⟨t2, ht2, hs⟩ := ent_get hD (List.getElem?_eq_getElem hj2)
      rw [hx] at ht2
      cases ht2
      have hs2 := same_t s2 hs
      -- the entry at j
      have hent : (Pat.pat ks [] a)[j] = if a[j] ∈ ks then (true, a[j]) else (false, ((Pat.add (Pat.seenF ks [] (a.take j)) a[j]).idxOf a[j] : Int)) := by
        have e1 := Pat.pat_snoc ks (a.take j) a[j]
        rw [← Pat.take_snoc (List.getElem?_eq_getElem hj)] at e1
        have e2 : Pat.pat ks [] a = Pat.pat ks [] (a.take (j + 1)) ++ Pat.pat ks (Pat.seenF ks [] (a.take (j + 1))) (a.drop (j + 1)) := by
          rw [← Pat.pat_append, List.take_append_drop]
        have e3 : (Pat.pat ks [] a)[j]? = some (if a[j] ∈ ks then (true, a[j]) else (false, ((Pat.add (Pat.seenF ks [] (a.take j)) a[j]).idxOf a[j] : Int))) := by
          rw [e2, e1, List.append_assoc, List.getElem?_append_right (by rw [Pat.pat_length, List.length_take]; omega), Pat.pat_length, List.length_take]
          have : j - min j a.length = 0 := by omega
          rw [this]
          rfl
        rw [List.getElem?_eq_getElem hj2] at e3
        exact Option.some.inj e3
      have esn := Pat.seenF_snoc ks [] (a.take j) a[j]
      rw [← Pat.take_snoc (List.getElem?_eq_getElem hj)] at esn
      rw [hent] at hs2
      walk_at "go"
      refine ⟨rfl, ?_⟩
      walk_at "go"
      refine itD (fun h1 => ?_) (fun h1 => ?_)
      · rw [ent_new] at h1
        have hk' : a[j] ∉ ks := fun q => by rw [if_pos q] at h1; cases h1
        walk_at "go"
        refine hN _ ?_
        show _ = _
        rw [esn]
        simp only [if_neg hk']
        unfold QS.put
        by_cases hm : a[j] ∈ Pat.seenF ks [] (a.take j)
        · have ei := Pat.idx_old hm
          have il := List.idxOf_lt_length_of_mem hm
          rw [if_pos (Pat.mem_numsR.mpr ⟨by omega, by rw [ei]; omega⟩)]
          unfold Pat.add
          rw [if_pos hm]
        · have ei := Pat.idx_new hm
          rw [ei, if_neg (fun q => by have := (Pat.mem_numsR.mp q).2; omega), ← Pat.numsR_succ]
          unfold Pat.add
          rw [if_neg hm]
          simp
      · rw [ent_new] at h1
        have hk' : a[j] ∈ ks := Decidable.byContradiction fun q => h1 (by rw [if_neg q])
        refine hN0 ?_
        show _ = _
        rw [esn, if_pos hk']
    · rw [hlen, List.take_length] at hD2
      have hnl : (Pat.numsR (Pat.seenF ks [] a).length).length = (Pat.seenF ks [] a).length := by unfold Pat.numsR; simp
      rw [hnl] at hD2
      walk_at "go"
      refine ⟨D, _, _, rfl, hD2, ?_⟩
      walk_at "go"
      refine ⟨k, (Pat.seenF ks [] a).length + 1, ks, rfl, s2.seq hk, by omega, fun g G H3 hg s3 hG hg3 => ?_⟩
      have s23 := s2.trans s3
      walk_at "go"
      have hb : ∀ x ∈ Pat.pat ks [] a, x.1 = false → 0 ≤ x.2 ∧ x.2 < ((Pat.pat ks [] a).length : Int) := fun x hx hf => by
        have := Pat.pat_num ks a [] x hx hf
        rw [Pat.pat_length]
        simpa using this
      have hpl := Pat.pat_length ks a []
      refine ⟨e, k, us, Pat.pat ks [] a, ks, rfl, same_t s23 hu, Dp.monoAll s23 hD, s23.seq hk, by omega, hb, fun v F H4 hv s4 hF hv4 => ?_⟩
      rw [hpl] at hF
      walk_at "go"
      refine lst_t (SqT.of hv4) fun l hl => ?_
      have s5 := same_new (o := .lst (((Pat.pat ks [] a).map (Pat.real F)).map V.int)) hl
      have s25 := (s23.trans s4).trans s5
      have hg5 : SqL K (upd H4 l (.lst (((Pat.pat ks [] a).map (Pat.real F)).map V.int))) g (G.map V.int) := SqL.of ((s4.trans s5) _ _ hg3)
      have ht5 := same_t s25 ht
      have hl5 : (upd H4 l (.lst (((Pat.pat ks [] a).map (Pat.real F)).map V.int))) l = some (.lst (((Pat.pat ks [] a).map (Pat.real F)).map V.int)) := upd_same
      have hk5 := s25.seq hk
      have hln : H l = none := (s23.trans s4).free hl
      generalize upd H4 l (.lst (((Pat.pat ks [] a).map (Pat.real F)).map V.int)) = H5 at *
      have hGl : G.length = (Pat.seenF ks [] a).length + 1 := by obtain ⟨_, _, h⟩ := hG; exact h
      have hix : ixN (((Pat.pat ks [] a).map (Pat.real F)).map V.int).length ((i : Nat) : Int) = some i := by
        unfold ixN
        rw [if_pos (by omega), if_pos (by rw [List.length_map, List.length_map, hpl]; omega)]
        simp
      have fin : ∀ z : Int, z = (if en.1 then en.2 else G.getD en.2.toNat 0) → spPattern K ([.ref l, .ref k] ++ []) (upd H5 l (.lst ((((Pat.pat ks [] a).map (Pat.real F)).map V.int).set i (.int z)))) Q C8.E0 := fun z hz => by
        have em : (((Pat.pat ks [] a).map (Pat.real F)).map V.int).set i (.int z) = (((Pat.pat ks [] a).map (Pat.real F)).set i z).map V.int := by rw [List.map_set]
        rw [em]
        refine ⟨l, k, _, ks, rfl, .inl (SqL.of upd_same), sq_mut hk hln hk5, by rw [List.length_set, List.length_map, hpl]; omega, fun r ws H6 hr6 s6 hr66 hD6 => ?_⟩
        rw [hz] at hD6
        have sm : Same H H6 := (same_mut s25 hln).trans s6
        exact q r F G ws H6 ((same_mut s25 hln).free hr6) sm hF hG hr66 hD6
      walk_at "go"
      refine itD (fun h1 => ?_) (fun h1 => ?_)
      · rw [ent_str] at h1
        walk_at "go"
        refine setl hl5 hix ?_
        walk_at "go"
        exact fin en.2 (by rw [if_pos h1])
      · rw [ent_str] at h1
        have h1' : en.1 = false := by cases h : en.1 with | true => exact absurd h h1 | false => rfl
        obtain ⟨b0, b1⟩ := hen h1'
        have hat : atI (G.map V.int) en.2 = some (.int (G[en.2.toNat]'(by omega))) := at_ints b0 (List.getElem?_eq_getElem _)
        walk_at "go"
        refine setl hl5 hix ?_
        walk_at "go"
        exact fin (G[en.2.toNat]'(by omega)) (by rw [if_neg h1]; simp [List.getD_eq_getElem?_getD, show en.2.toNat < G.length by omega])
end
def spLaw (K : PySem.W.Frag) : Sp := fun vs H Q _ => ∃ (a : Addr) (ns : List Int), vs = [.ref a] ∧ SqL K H a (ns.map V.int) ∧ ns.length ≤ 63 ∧ ∀ H', Q (.bl true) H'
theorem ints_eqv (xs : List Int) : PyData.eqv (.list (xs.map PyData.int)) (.list (xs.map PyData.int)) = true := by
  have h : ∀ l : List Int, plainD (.list (l.map PyData.int)) = true := fun l => by
    simp only [plainD]
    exact plainAll_of fun d hd => by
      obtain ⟨i, _, rfl⟩ := List.mem_map.mp hd
      rfl
  exact (eqv_plain _ _ (h xs) (h xs)).mpr rfl
section
variable {P : Program} {w : World} {K : PySem.W.Frag} {mg : Str → Option Value} {base : Heap}
theorem ok_law (T : Top K mg) {f : Addr} {fd : FuncData} (F : C8.Fun K "law" "law" s_law f fd) : FnOk P w K mg base CX0 4 f fd ["_law_script"] (spLaw K) := by
  have c_draw : C8.Cal P w K mg base 1 "_law_draw" (spDraw K) [] := ok_draw T
  have c_kept : C8.Cal P w K mg base 3 "_law_kept" (spKept K 4) [] := ok_kept T
  have c_values : C8.Cal P w K mg base 3 "_law_values" (spValues K) [] := ok_values T
  have c_pattern : C8.Cal P w K mg base 1 "pattern" (spPattern K) [] := ok_pattern T
  have c_realise : C8.Cal P w K mg base 2 "realise" (spRealise K) [] := ok_realise T
  have c_choices : C8.Cal P w K mg base 2 "choices" (spChoices K) [] := ok_choices T
  have c_due : C8.Cal P w K mg base 1 "_law_due" (spDue K) [] := ok_due T
  have c_handed : C8.Cal P w K mg base 3 "_law_handed" (spHanded K) [] := ok_handed T
  have c_entry : C8.Cal P w K mg base 1 "_law_entry" (spEntry K) [] := ok_entry T
  have c_move_pattern : C8.Cal P w K mg base 3 "move_pattern" (spMove K) [] := ok_move T
  refine C8.fn0 F sc_law (fun vs H Q E h => ?_) (fun cdv A outer s H vs Q E hr h => ?_)
  · obtain ⟨a, ns, rfl, _⟩ := h
    rfl
  · obtain ⟨a, ns, rfl, hS, hlen, q⟩ := h
    refine ⟨_, (pss_cons (ps_set (i := 1) sc_law.nd rfl (Or.inl rfl) (pe_lst (pa_cons (pv 0) (pa_cons pe_int (pa_cons pe_int (pa_cons pe_int pa_nil))))))
      (pss_cons (ps_set (i := 2) sc_law.nd rfl (Or.inr rfl) (C8.pe_c c_kept hr (by decide) (by rfl) (pa_cons (pv 1) pa_nil)))
      (pss_cons (ps_set (i := 3) sc_law.nd rfl (Or.inr rfl) (C8.pe_c c_values hr (by decide) (by rfl) (pa_cons (pv 1) (pa_cons (C8.pe_c c_draw hr (by decide) (by rfl) (pa_cons (pv 1) (pa_cons pe_int pa_nil))) (pa_cons (pv 2) pa_nil)))))
      (pss_cons (ps_set (i := 4) sc_law.nd rfl (Or.inl rfl) (C8.pe_c c_choices hr (by decide) (by rfl) (pa_cons (pe_callTy c_tup (by rfl) T.z_tuple (by decide +kernel) (pa_cons (pv 3) pa_nil)) (pa_cons (pe_callTy c_lst (by rfl) T.z_list (by decide +kernel) (pa_cons (pv 2) pa_nil)) pa_nil))))
      (pss_cons (ps_set (i := 5) sc_law.nd rfl (Or.inl rfl) (C8.pe_c c_due hr (by decide) (by rfl) (pa_cons (pv 3) (pa_cons (pv 2) pa_nil))))
      (pss_cons (ps_if (PW.pt (pw_or (pt_not (pt_val (pe_callB call_isi (by rfl) T.z_isinstance (by decide +kernel) (pa_cons (pv 4) (pa_cons (pe_bltn (v := .ty "list") (u := .type "list") (by rfl) T.z_list (by decide +kernel) (by rfl)) pa_nil))))) (pw_or1 (pt_cmpR (op_neD hr.units) (pv 4) (pv 5) (nomark _)))))
      (pss_one (ps_ret pe_bl))
      pss_nil)
      (pss_cons (ps_expr (pe_bm PySem.F.plainAttrs_list PySem.F.slot_list_append PySem.F.type_list_append mt_append (pv 4) (pa_cons pe_int pa_nil)))
      (pss_cons (ps_if (pt_cmpR (op_neD hr.units) (C8.pe_c c_choices hr (by decide) (by rfl) (pa_cons (pv 3) (pa_cons (pv 2) pa_nil))) (pv 5) (nomark _))
      (pss_one (ps_ret pe_bl))
      pss_nil)
      (pss_cons (ps_set (i := 6) sc_law.nd rfl (Or.inl rfl) (C8.pe_c c_handed hr (by decide) (by rfl) (pa_cons (pv 1) (pa_cons (pv 3) (pa_cons (pv 2) pa_nil)))))
      (pss_cons (ps_set (i := 7) sc_law.nd rfl (Or.inr rfl) (C8.pe_c c_pattern hr (by decide) (by rfl) (pa_cons (pe_op op_cat (pv 3) (pe_lst (pa_cons (pv 6) pa_nil))) (pa_cons (pv 2) pa_nil))))
      (pss_cons (ps_setLc (i := 8) (own := [("_law_choice", 9)]) (g := gName 9) (by rfl) sc_law.nd rfl rfl (sw_true rfl rfl rfl (by decide +kernel)) (pi_list (pv 5)) (blkOk_by (own := [("_law_choice", 9)]) (N := ["_law_script", "_law_pool", "_law_kept_here", "_law_values_here", "_law_told", "_law_due_here", "_law_number_here", "_law_wanted", "_law_same", "_law_choice", "_law_entries", "_law_other", "_law_others", "_law_k", "_law_at", "_law_changed", "_law_moved"]) (sc := C8.fnScope s_law) (by decide +kernel)) (fun _ _ _ _ _ => (pg_name (i := 9) sc_law.nd rfl (Or.inl rfl))) (fun _ _ _ _ _ => (pts_one (pt_cmpR (koEq K rfl hr.units) (C8.pe_c c_pattern hr (by decide) (by rfl) (pa_cons (pe_op op_cat (pv 3) (pe_lst (pa_cons (pv 9) pa_nil))) (pa_cons (pv 2) pa_nil))) (pv 7) (nomark _)))) (fun _ _ _ _ _ => (pv 9)))
      (pss_cons (ps_if (pt_cmpR op_ne (pe_callB c_len (by rfl) T.z_len (by decide +kernel) (pa_cons (pv 8) pa_nil)) pe_int (nomark _))
      (pss_one (ps_ret pe_bl))
      pss_nil)
      (pss_cons (ps_set (i := 10) sc_law.nd rfl (Or.inl rfl) (C8.pe_c c_pattern hr (by decide) (by rfl) (pa_cons (pv 3) (pa_cons (pv 2) pa_nil))))
      (pss_cons (ps_set (i := 11) sc_law.nd rfl (Or.inl rfl) (C8.pe_c c_realise hr (by decide) (by rfl) (pa_cons (pv 10) (pa_cons (pv 2) pa_nil))))
      (pss_cons (ps_set (i := 12) sc_law.nd rfl (Or.inl rfl) (C8.pe_c c_choices hr (by decide) (by rfl) (pa_cons (pv 11) (pa_cons (pv 2) pa_nil))))
      (pss_cons (ps_if (PW.pt (pw_or (pt_cmpR op_ne (pe_callB c_len (by rfl) T.z_len (by decide +kernel) (pa_cons (pv 12) pa_nil)) (pe_callB c_len (by rfl) T.z_len (by decide +kernel) (pa_cons (pv 5) pa_nil)) (nomark _)) (pw_or1 (pt_cmpR (op_neD hr.units) (C8.pe_c c_pattern hr (by decide) (by rfl) (pa_cons (pv 11) (pa_cons (pv 2) pa_nil))) (pv 10) (nomark _)))))
      (pss_one (ps_ret pe_bl))
      pss_nil)
      (pss_cons (ps_for PassesOwn.never rfl (pi_range1 (by rfl) T.z_range (pa_cons (pe_callB c_len (by rfl) T.z_len (by decide +kernel) (pa_cons (pv 5) pa_nil)) pa_nil)) (pg_name (i := 13) sc_law.nd rfl (Or.inl rfl))
      (pss_one (ps_if (pt_cmpR (op_neD hr.units) (C8.pe_c c_pattern hr (by decide) (by rfl) (pa_cons (pe_op op_cat (pe_callTy c_lst (by rfl) T.z_list (by decide +kernel) (pa_cons (pv 11) pa_nil)) (pe_lst (pa_cons (pe_ix ix_list (pv 12) (pv 13) (fun _ _ => rfl)) pa_nil))) (pa_cons (pv 2) pa_nil))) (C8.pe_c c_pattern hr (by decide) (by rfl) (pa_cons (pe_op op_cat (pv 3) (pe_lst (pa_cons (pe_ix ix_list (pv 5) (pv 13) (fun _ _ => rfl)) pa_nil))) (pa_cons (pv 2) pa_nil))) (nomark _))
      (pss_one (ps_ret pe_bl))
      pss_nil)))
      (pss_cons (ps_for PassesOwn.never rfl (pi_range1 (by rfl) T.z_range (pa_cons (pe_callB c_len (by rfl) T.z_len (by decide +kernel) (pa_cons (pv 3) pa_nil)) pa_nil)) (pg_name (i := 14) sc_law.nd rfl (Or.inl rfl))
      (pss_one (ps_for PassesOwn.never rfl (pi_list (pv 5)) (pg_name (i := 9) sc_law.nd rfl (Or.inl rfl))
      (pss_cons (ps_set (i := 15) sc_law.nd rfl (Or.inl rfl) (pe_op op_cat (pe_op op_cat (pe_slice sl_list (pv 3) po_none (po_some (pv 14))) (pe_lst (pa_cons (pv 9) pa_nil))) (pe_slice sl_list (pv 3) (po_some (pe_op op_add (pv 14) pe_int)) po_none)))
      (pss_cons (ps_set (i := 16) sc_law.nd rfl (Or.inl rfl) (C8.pe_c c_move_pattern hr (by decide) (by rfl) (pa_cons (pv 10) (pa_cons (pv 14) (pa_cons (C8.pe_c c_entry hr (by decide) (by rfl) (pa_cons (pv 9) (pa_cons (pv 5) (pa_cons (pv 2) pa_nil)))) (pa_cons (pv 2) pa_nil))))))
      (pss_one (ps_if (PW.pt (pw_or (pt_not (pt_val (pe_callB call_isi (by rfl) T.z_isinstance (by decide +kernel) (pa_cons (pv 16) (pa_cons (pe_bltn (v := .ty "tuple") (u := .type "tuple") (by rfl) T.z_tuple (by decide +kernel) (by rfl)) pa_nil))))) (pw_or1 (pt_cmpR (op_neD hr.units) (pv 16) (C8.pe_c c_pattern hr (by decide) (by rfl) (pa_cons (pv 15) (pa_cons (pv 2) pa_nil))) (nomark _)))))
      (pss_one (ps_ret pe_bl))
      pss_nil)))))))
      (pss_one (ps_ret (pe_cmpR op_eq (pe_callB c_len (by rfl) T.z_len (by decide +kernel) (pa_cons (pv 2) pa_nil)) (pe_op op_sub (pe_callB c_len (by rfl) T.z_len (by decide +kernel) (pa_cons (C8.pe_c c_due hr (by decide) (by rfl) (pa_cons (pe_lst pa_nil) (pa_cons (pv 2) pa_nil))) pa_nil)) pe_int) (nomark _)))))))))))))))))))))), ?_⟩
    try dsimp only [cxOf]
    walk_at "go"
    refine ⟨(show 4 ≤ sizeLine by decide), fun p hp => ?_⟩
    walk_at "go"
    have hP0 : Pool K (upd H p (.lst [.ref a, .int 0, .int 0, .int 31])) p a ns := pool_mk hS hp (Int.le_refl _)
    generalize upd H p (.lst [.ref a, .int 0, .int 0, .int 31]) = H0 at hP0 ⊢
    refine ⟨p, a, ns, rfl, hP0, fun l ks H1 hl nd hk fr1 hP1 hl1 => ?_⟩
    have nl : l ≠ p := pool_ne hP0 hl
    walk_at "go"
    refine ⟨p, a, ns, _, rfl, by decide, by decide, hP1, fun n H2 n0 n1 fr2 hP2 => ?_⟩
    obtain ⟨m, rfl⟩ : ∃ m : Nat, n = (m : Int) := ⟨n.toNat, by omega⟩
    have hl2 := fr2 _ _ nl hl1
    walk_at "go"
    refine ⟨p, a, l, ns, ks, m, rfl, hP2, nl, SqL.of hl2, by omega, by omega, fun r xs H3 hr3 hxs fr3 hP3 hr33 => ?_⟩
    have nr : r ≠ p := pool_ne hP2 hr3
    have hl3 := fr3 _ _ nl hl2
    walk_at "go"
    -- told
    refine tup_l (SqL.of hr33) fun t1 ht1 => ?_
    have s1 := same_new (o := .tup (xs.map V.int)) ht1
    have hP4 := pool_new (o := .tup (xs.map V.int)) hP3 ht1
    have ht11 : (upd H3 t1 (.tup (xs.map V.int))) t1 = some (.tup (xs.map V.int)) := upd_same
    generalize upd H3 t1 (.tup (xs.map V.int)) = H4 at s1 hP4 ht11 ⊢
    have hr4 := s1 _ _ hr33
    have hl4 := s1 _ _ hl3
    walk_at "go"
    refine lst_l (SqL.of hl4) fun l2 hl2' => ?_
    have s2 := same_new (o := .lst (ks.map V.int)) hl2'
    have hP5 := pool_new (o := .lst (ks.map V.int)) hP4 hl2'
    have hl22 : (upd H4 l2 (.lst (ks.map V.int))) l2 = some (.lst (ks.map V.int)) := upd_same
    generalize upd H4 l2 (.lst (ks.map V.int)) = H5 at s2 hP5 hl22 ⊢
    have hr5 := s2 _ _ hr4
    have hl5 := s2 _ _ hl4
    walk_at "go"
    refine ⟨t1, l2, xs, ks, rfl, .inr (SqT.of (s2 _ _ ht11)), SqL.of hl22, by omega, by omega, fun c srt fr H6 hc s3 hd hc6 => ?_⟩
    have hP6 : Pool K H6 p a ns := by
      obtain ⟨hSw, i, cc, ss, h0, hpp⟩ := hP5
      exact ⟨(Fr.of s3).wo.seq hSw, i, cc, ss, h0, s3 _ _ hpp⟩
    have ncp : c ≠ p := pool_ne hP5 hc
    have hr6 := s3 _ _ hr5
    have hl6 := s3 _ _ hl5
    walk_at "go"
    -- due
    refine ⟨r, l, xs, ks, rfl, SqL.of hr6, SqL.of hl6, by omega, by omega, fun d srt2 fr2' H7 hd7 s4 hdue hd77 => ?_⟩
    obtain ⟨e1, e2⟩ := hd.uniq hdue
    subst e1 e2
    have hP7 : Pool K H7 p a ns := by
      obtain ⟨hSw, i, cc, ss, h0, hpp⟩ := hP6
      exact ⟨(Fr.of s4).wo.seq hSw, i, cc, ss, h0, s4 _ _ hpp⟩
    have hr7 := s4 _ _ hr6
    have hl7 := s4 _ _ hl6
    have hc7 := s4 _ _ hc6
    have ndc : d ≠ c := (ne_of_none hc6 hd7).symm
    have nrc : r ≠ c := ne_of_none hr5 hc
    have nlc : l ≠ c := ne_of_none hl5 hc
    have hDue := hd.due nd
    have hsl := Pat.seenF_len ks xs []
    simp only [List.length_nil, Nat.zero_add] at hsl
    have hdl := Pat.due_len (a := xs) (f := fr) hd.perm
    generalize hDL : Pat.due ks xs srt fr = ds at *
    refine seqI ?_
    walk_at "go"
    refine isi (ty_of_l hc7) (b := true) (by decide +kernel) ?_
    walk_at "go"
    refine ned (.lst (SqL.of hc7) (dp_ints _)) (.lst (SqL.of hd77) (dp_ints _)) (shaped_ints_l _) (shaped_ints_l _) ?_
    rw [ints_eqv]
    walk_at "go"
    -- told.append(5)
    refine app hc7 (by rw [List.length_map, hdl]; exact small1000 (by omega)) ?_
    have hP8 : Pool K (upd H7 c (.lst (ds.map V.int ++ [.int 5]))) p a ns := pool_mut hP5 hc hP7
    have hr8 : (upd H7 c (.lst (ds.map V.int ++ [.int 5]))) r = some (.lst (xs.map V.int)) := by rw [upd_ne nrc]; exact hr7
    have hl8 : (upd H7 c (.lst (ds.map V.int ++ [.int 5]))) l = some (.lst (ks.map V.int)) := by rw [upd_ne nlc]; exact hl7
    have hd8 : (upd H7 c (.lst (ds.map V.int ++ [.int 5]))) d = some (.lst (ds.map V.int)) := by rw [upd_ne ndc]; exact hd77
    have ndp : d ≠ p := pool_ne hP6 hd7
    generalize upd H7 c (.lst (ds.map V.int ++ [.int 5])) = H8 at hP8 hr8 hl8 hd8 ⊢
    refine seqI ?_
    walk_at "go"
    refine ⟨r, l, xs, ks, rfl, .inl (SqL.of hr8), SqL.of hl8, by omega, by omega, fun c2 srt3 fr3' H9 hc2 s5 hd3 hc29 => ?_⟩
    obtain ⟨e1, e2⟩ := hd.uniq hd3
    subst e1 e2
    rw [hDL] at hc29
    have hP9 : Pool K H9 p a ns := by
      obtain ⟨hSw, i, cc, ss, h0, hpp⟩ := hP8
      exact ⟨(Fr.of s5).wo.seq hSw, i, cc, ss, h0, s5 _ _ hpp⟩
    have hr9 := s5 _ _ hr8
    have hl9 := s5 _ _ hl8
    have hd9 := s5 _ _ hd8
    walk_at "go"
    refine ned (.lst (SqL.of hc29) (dp_ints _)) (.lst (SqL.of hd9) (dp_ints _)) (shaped_ints_l _) (shaped_ints_l _) ?_
    rw [ints_eqv]
    walk_at "go"
    -- the number that is handed on
    refine ⟨p, a, r, l, ns, ks, xs, rfl, hP9, nl, nr, SqL.of hl9, SqL.of hr9, by omega, by omega, fun x HA frA hPA => ?_⟩
    have hr := frA _ _ nr hr9
    have hl := frA _ _ nl hl9
    have hd' := frA _ _ ndp hd9
    walk_at "go"
    refine ⟨(show 1 ≤ sizeLine by decide), fun q1 hq1 => ?_⟩
    have s6 := same_new (o := .lst [.int x]) hq1
    refine cat (s6 _ _ hr) upd_same (by simp; exact Nat.le_of_lt (small1000 (by omega))) fun q2 hq2 => ?_
    have s7 := s6.trans (same_new (o := .lst (xs.map V.int ++ [.int x])) hq2)
    walk_at "go"
    refine ⟨q2, l, xs ++ [x], ks, rfl, .inl (SqL.of (by rw [upd_same, List.map_append]; rfl)), SqL.of (s7 _ _ hl), by simp; omega, fun wt wus HB hwt s8 hwtB hDw => ?_⟩
    have s9 := s7.trans s8
    have hr := s9 _ _ hr
    have hl := s9 _ _ hl
    have hd' := s9 _ _ hd'
    walk_at "go"
    -- same
    refine kc_lstRS (SqL.of hd') (by rw [List.length_map, hdl]; exact small1000 (by omega)) (fun i => ((ds.take i).filter fun c => decide (Pat.pat ks [] (xs ++ [c]) = Pat.pat ks [] (xs ++ [x]))).map V.int) rfl (fun i y H2 hy s2' N N0 hN hN0 => ?_) (fun sm HC hsm sC hsmC => ?_)
    · rw [List.getElem?_map] at hy
      obtain ⟨z, hz, rfl⟩ : ∃ z, ds[i]? = some z ∧ y = .int z := by
        cases e : ds[i]? with
        | none => rw [e] at hy; cases hy
        | some z => rw [e] at hy; exact ⟨z, rfl, (Option.some.inj hy).symm⟩
      have hR := Pat.take_snoc hz
      walk_at "go"
      refine ⟨rfl, ?_⟩
      walk_at "go"
      refine ⟨(show 1 ≤ sizeLine by decide), fun g1 hg1 => ?_⟩
      have t1 := same_new (o := .lst [.int z]) hg1
      refine cat ((s2'.trans t1) _ _ hr) upd_same (by simp; exact Nat.le_of_lt (small1000 (by omega))) fun g2 hg2 => ?_
      have t2 := t1.trans (same_new (o := .lst (xs.map V.int ++ [.int z])) hg2)
      walk_at "go"
      refine ⟨g2, l, xs ++ [z], ks, rfl, .inl (SqL.of (by rw [upd_same, List.map_append]; rfl)), SqL.of ((s2'.trans t2) _ _ hl), by simp; omega, fun g3 us3 H4' hg3 t3 hg34 hD3 => ?_⟩
      have t4 := t2.trans t3
      walk_at "go"
      refine eqd (.tup (SqT.of hg34) hD3) (.tup (SqT.of ((s2'.trans t4) _ _ hwtB)) (Dp.monoAll (s2'.trans t4) hDw)) (entD_shaped _) (entD_shaped _) ?_
      rw [entD_eqv]
      walk_at "go"
      refine itD (fun h1 => ?_) (fun h1 => ?_)
      · walk_at "go"
        refine hN _ _ t4 ?_
        show _ = _
        rw [hR, List.filter_append, List.map_append]
        simp [h1]
      · refine hN0 _ t4 ?_
        show _ = _
        rw [hR, List.filter_append, List.map_append]
        simp [h1]
    · rw [List.length_map, List.take_length] at hsmC
      have h1 := hDue.one x
      rw [hDL] at h1
      have hr := sC _ _ hr
      have hl := sC _ _ hl
      have hd' := sC _ _ hd'
      refine seqI ?_
      have hsmC' := SqL.of (K := K) hsmC
      walk_at "go"
      refine itND (fun h => absurd (by rw [List.length_map, h1]; rfl) h) (fun _ => ?_)
      walk_at "go"
      -- entries
      refine ⟨r, l, xs, ks, rfl, .inl (SqL.of hr), SqL.of hl, by omega, fun en us HD hen sD henD hDe => ?_⟩
      have hr := sD _ _ hr
      have hl := sD _ _ hl
      have hd' := sD _ _ hd'
      walk_at "go"
      have hb1 : ∀ x ∈ Pat.pat ks [] xs, x.1 = false → 0 ≤ x.2 ∧ x.2 < ((Pat.pat ks [] xs).length : Int) := fun x hx hf => by
        have := Pat.pat_num ks xs [] x hx hf
        rw [Pat.pat_length]
        simpa using this
      have hpl := Pat.pat_length ks xs []
      refine ⟨en, l, us, Pat.pat ks [] xs, ks, rfl, SqT.of henD, hDe, SqL.of hl, by omega, hb1, fun ot F HE hot sE hF hotE => ?_⟩
      rw [hpl] at hF
      have hFl : F.length = xs.length := by obtain ⟨_, _, h⟩ := hF; exact h
      have hphi := Pat.real_phi (ks := ks) (a := xs) (F := F) (by omega)
      have hPhi := Pat.phi_facts (ks := ks) (s := Pat.seenF ks [] xs) hF.nodup (fun x hx => (hF.out x hx).1) (by omega) xs (fun z hz hk => (Pat.mem_seenF ks xs [] z).mpr (.inr ⟨hz, hk⟩))
      have hback := hPhi.pat (a := xs) (fun z hz => hz)
      have hseen := hPhi.seen (a := xs) (fun z hz => hz)
      generalize hYS : xs.map (Pat.phi ks (Pat.seenF ks [] xs) F) = ys at *
      have hyl : ys.length = xs.length := by rw [← hYS, List.length_map]
      rw [hphi] at hotE
      have hr := sE _ _ hr
      have hl := sE _ _ hl
      have hd' := sE _ _ hd'
      have henE := sE _ _ henD
      have hDe := Dp.monoAll sE hDe
      walk_at "go"
      refine ⟨ot, l, ys, ks, rfl, .inr (SqT.of hotE), SqL.of hl, by omega, by omega, fun os srt4 fr4 HF' hos sF hd4 hosF => ?_⟩
      have e1 : srt4 = srt := List.Perm.eq_of_pairwise (fun x y _ _ h1 h2 => Int.le_antisymm h1 h2) hd4.ord hd.ord (hd4.perm.trans hd.perm.symm)
      subst e1
      have hDue4 := hd4.due nd
      have hdl4 := Pat.due_len (a := ys) (f := fr4) hd4.perm
      rw [hseen, List.length_map] at hdl4
      generalize hOS : Pat.due ks ys srt4 fr4 = osl at *
      have hr := sF _ _ hr
      have hl := sF _ _ hl
      have hd' := sF _ _ hd'
      have hotF := sF _ _ hotE
      have henF := sF _ _ henE
      have hDe := Dp.monoAll sF hDe
      have ks1 := SqL.of (K := K) hosF
      have ks2 := SqL.of (K := K) hd'
      refine seqI ?_
      walk_at "go"
      refine itND (fun h => absurd (by rw [List.length_map, List.length_map, hdl, hdl4]) h) (fun _ => ?_)
      walk_at "go"
      refine ⟨ot, l, ys, ks, rfl, .inr (SqT.of hotF), SqL.of hl, by omega, fun g3 us3 HG hg3 sG hg3G hD3 => ?_⟩
      rw [hback] at hD3
      walk_at "go"
      refine ned (.tup (SqT.of hg3G) hD3) (.tup (SqT.of (sG _ _ henF)) (Dp.monoAll sG hDe)) (entD_shaped _) (entD_shaped _) ?_
      rw [entD_eqv, decide_eq_true rfl]
      walk_at "go"
      have hr := sG _ _ hr
      have hl := sG _ _ hl
      have hd' := sG _ _ hd'
      have hot := sG _ _ hotF
      have hen := sG _ _ henF
      have hos := sG _ _ hosF
      have hDe := Dp.monoAll sG hDe
      have ks2 := SqL.of (K := K) hd'
      walk_at "go"
      refine k_rng1 (Pv := fun _ σ H' => ∃ y : Option V, σ = [some (.ref a), some (.ref p), some (.ref l), some (.ref r), some (.ref c), some (.ref d), some (.int x), some (.ref wt), some (.ref sm), none, some (.ref en), some (.ref ot), some (.ref os), y, none, none, none] ∧ Same HG H') (by omega) (by rw [List.length_map, hdl]; omega) ?_ ?_ ?_
      · exact ⟨none, rfl, Same.refl _⟩
      · rintro i σ H2 hi ⟨y, rfl, sm2⟩ N B hN hB
        rw [List.length_map] at hi
        have i1 : i < ds.length := by omega
        have i2 : i < osl.length := by rw [hdl4, ← hdl]; exact i1
        have hr := sm2 _ _ hr
        have hl := sm2 _ _ hl
        have hd' := sm2 _ _ hd'
        have hot := sm2 _ _ hot
        have hos := sm2 _ _ hos
        have hat1 : atI (ds.map V.int) (i : Int) = some (.int ds[i]) := at_ints (by omega) (by rw [Int.toNat_natCast]; exact List.getElem?_eq_getElem i1)
        have hat2 : atI (osl.map V.int) (i : Int) = some (.int osl[i]) := at_ints (by omega) (by rw [Int.toNat_natCast]; exact List.getElem?_eq_getElem i2)
        have hal : Pat.pat ks [] (ys ++ [osl[i]]) = Pat.pat ks [] (xs ++ [ds[i]]) := by
          have hx1 : (Pat.due ks xs srt4 fr)[i]? = some ds[i] := by rw [hDL]; exact List.getElem?_eq_getElem i1
          have hy1 : (Pat.due ks ys srt4 fr4)[i]? = some osl[i] := by rw [hOS]; exact List.getElem?_eq_getElem i2
          rw [← hYS] at hy1 hDue4 ⊢
          exact Pat.due_alike hF hDue hDue4 hx1 hy1
        walk_at "go"
        refine lst_t (SqT.of hot) fun g1 hg1 => ?_
        have t1 := same_new (o := .lst (ys.map V.int)) hg1
        have hg11 : (upd H2 g1 (.lst (ys.map V.int))) g1 = some (.lst (ys.map V.int)) := upd_same
        generalize upd H2 g1 (.lst (ys.map V.int)) = H3 at t1 hg11 ⊢
        have hos := t1 _ _ hos
        walk_at "go"
        refine ⟨(show 1 ≤ sizeLine by decide), fun g2 hg2 => ?_⟩
        have t2 := same_new (o := .lst [.int osl[i]]) hg2
        refine cat (t2 _ _ hg11) upd_same (by simp; exact Nat.le_of_lt (small1000 (by omega))) fun g3 hg3 => ?_
        have t3 := (t1.trans t2).trans (same_new (o := .lst (ys.map V.int ++ [.int osl[i]])) hg3)
        walk_at "go"
        refine ⟨g3, l, ys ++ [osl[i]], ks, rfl, .inl (SqL.of (by rw [upd_same, List.map_append]; rfl)), SqL.of (t3 _ _ hl), by simp; omega, fun g4 us4 H4' hg4 t4 hg44 hD4 => ?_⟩
        have t5 := t3.trans t4
        have hr := t5 _ _ hr
        have hl := t5 _ _ hl
        have hd' := t5 _ _ hd'
        walk_at "go"
        refine ⟨(show 1 ≤ sizeLine by decide), fun g5 hg5 => ?_⟩
        have t6 := same_new (o := .lst [.int ds[i]]) hg5
        refine cat (t6 _ _ hr) upd_same (by simp; exact Nat.le_of_lt (small1000 (by omega))) fun g6 hg6 => ?_
        have t7 := t6.trans (same_new (o := .lst (xs.map V.int ++ [.int ds[i]])) hg6)
        walk_at "go"
        refine ⟨g6, l, xs ++ [ds[i]], ks, rfl, .inl (SqL.of (by rw [upd_same, List.map_append]; rfl)), SqL.of (t7 _ _ hl), by simp; omega, fun g7 us7 H7' hg7 t8 hg77 hD7 => ?_⟩
        have t9 := t7.trans t8
        rw [hal] at hD4
        refine ned (.tup (SqT.of (t9 _ _ hg44)) (Dp.monoAll t9 hD4)) (.tup (SqT.of hg77) hD7) (entD_shaped _) (entD_shaped _) ?_
        rw [entD_eqv, decide_eq_true rfl]
        walk_at "go"
        exact hN _ _ ⟨_, rfl, (sm2.trans t5).trans t9⟩
      · rintro σ H2 ⟨y, rfl, sm2⟩
        have hr2 := SqL.of (K := K) (sm2 _ _ hr)
        walk_at "go"
        refine k_rng1 (Pv := fun _ σ H' => ∃ y1 y2 y3 y4 : Option V, σ = [some (.ref a), some (.ref p), some (.ref l), some (.ref r), some (.ref c), some (.ref d), some (.int x), some (.ref wt), some (.ref sm), y1, some (.ref en), some (.ref ot), some (.ref os), y, y2, y3, y4] ∧ Same HG H') (by omega) (by rw [List.length_map]; omega) ?_ ?_ ?_
        · exact ⟨none, none, none, none, rfl, sm2⟩
        · rintro i σ H3 hi ⟨y1, y2, y3, y4, rfl, sm3⟩ N B hN hB
          rw [List.length_map] at hi
          have i1 : i < xs.length := by omega
          have hd3 := SqL.of (K := K) (sm3 _ _ hd')
          walk_at "go"
          refine k_lst (a := d) (xs := ds.map V.int) (Pv := fun _ σ H' => ∃ y1 y3 y4 : Option V, σ = [some (.ref a), some (.ref p), some (.ref l), some (.ref r), some (.ref c), some (.ref d), some (.int x), some (.ref wt), some (.ref sm), y1, some (.ref en), some (.ref ot), some (.ref os), y, some (.int i), y3, y4] ∧ Same HG H') ?_ ?_ ?_ ?_
          · exact ⟨y1, y3, y4, rfl, sm3⟩
          · rintro j σ H4' ⟨_, _, _, _, sm4⟩
            exact SqL.of (sm4 _ _ hd')
          · rintro j v σ H4' hj ⟨y1, y3, y4, rfl, sm4⟩ N2 B2 hN2 hB2
            rw [List.getElem?_map] at hj
            obtain ⟨z, hz, rfl⟩ : ∃ z, ds[j]? = some z ∧ v = .int z := by
              cases e : ds[j]? with
              | none => rw [e] at hj; cases hj
              | some z => rw [e] at hj; exact ⟨z, rfl, (Option.some.inj hj).symm⟩
            have hzm := List.mem_of_getElem? hz
            have hr := sm4 _ _ hr
            have hl := sm4 _ _ hl
            have hd' := sm4 _ _ hd'
            have hen := sm4 _ _ hen
            have hDe := Dp.monoAll sm4 hDe
            walk_at "go"
            -- changed
            refine sll (SqL.of hr) fun g1 hg1 => ?_
            have ec1 : cutV (xs.map V.int) none (some (i : Int)) = (xs.take i).map V.int := by rw [cut_take (by rw [List.length_map]; omega), List.map_take]
            rw [ec1]
            have t1 := same_new (o := .lst ((xs.take i).map V.int)) hg1
            have hg11 : (upd H4' g1 (.lst ((xs.take i).map V.int))) g1 = some (.lst ((xs.take i).map V.int)) := upd_same
            generalize upd H4' g1 (.lst ((xs.take i).map V.int)) = H5' at t1 hg11 ⊢
            walk_at "go"
            refine ⟨(show 1 ≤ sizeLine by decide), fun g2 hg2 => ?_⟩
            have t2 := same_new (o := .lst [.int z]) hg2
            refine cat (t2 _ _ hg11) upd_same (by simp; exact Nat.le_of_lt (small1000 (by omega))) fun g3 hg3 => ?_
            have t3 := (t1.trans t2).trans (same_new (o := .lst ((xs.take i).map V.int ++ [.int z])) hg3)
            have hg33 : (upd (upd H5' g2 (.lst [.int z])) g3 (.lst ((xs.take i).map V.int ++ [.int z]))) g3 = some (.lst ((xs.take i).map V.int ++ [.int z])) := upd_same
            generalize upd (upd H5' g2 (.lst [.int z])) g3 (.lst ((xs.take i).map V.int ++ [.int z])) = H6' at t3 hg33 ⊢
            walk_at "go"
            refine sll (SqL.of (t3 _ _ hr)) fun g4 hg4 => ?_
            have ec2 : cutV (xs.map V.int) (some ((i : Int) + 1)) none = (xs.drop (i + 1)).map V.int := by
              rw [show ((i : Int) + 1) = ((i + 1 : Nat) : Int) by omega, cut_drop (by rw [List.length_map]; omega), List.map_drop]
            rw [ec2]
            have t4 := same_new (o := .lst ((xs.drop (i + 1)).map V.int)) hg4
            refine cat (t4 _ _ hg33) upd_same (by simp; exact Nat.le_of_lt (small1000 (by omega))) fun g5 hg5 => ?_
            have t5 := (t3.trans t4).trans (same_new (o := .lst ((xs.take i).map V.int ++ [.int z] ++ (xs.drop (i + 1)).map V.int)) hg5)
            have eset : (xs.take i).map V.int ++ [.int z] ++ (xs.drop (i + 1)).map V.int = (xs.set i z).map V.int := by
              rw [List.set_eq_take_append_cons_drop, if_pos i1, List.map_append, List.map_cons, List.append_assoc]
              rfl
            rw [eset] at t5 ⊢
            have hg55 : (upd (upd H6' g4 (.lst ((xs.drop (i + 1)).map V.int))) g5 (.lst ((xs.set i z).map V.int))) g5 = some (.lst ((xs.set i z).map V.int)) := upd_same
            generalize upd (upd H6' g4 (.lst ((xs.drop (i + 1)).map V.int))) g5 (.lst ((xs.set i z).map V.int)) = H7' at t5 hg55 ⊢
            walk_at "go"
            refine ⟨d, l, z, ds, ks, rfl, SqL.of (t5 _ _ hd'), SqL.of (t5 _ _ hl), hzm, fun g6 H8' hg6 t6 hg66 => ?_⟩
            have t7 := t5.trans t6
            walk_at "go"
            have hentf : (entC ks ds z).1 = false → 0 ≤ (entC ks ds z).2 ∧ (entC ks ds z).2 ≤ ((Pat.seenF ks [] xs).length : Int) := fun hf => by
              unfold entC at hf ⊢
              by_cases hzk : z ∈ ks
              · rw [if_pos hzk] at hf; cases hf
              · rw [if_neg hzk]
                have il := List.idxOf_lt_length_of_mem hzm
                have ig : ks.length ≤ ds.idxOf z := by
                  rw [← hDL]
                  unfold Pat.due
                  rw [List.append_assoc, List.idxOf_append, if_neg (fun q => hzk ((hDue.sm z).mp q)), hd.perm.length_eq]
                  omega
                show 0 ≤ (ds.idxOf z : Int) - (ks.length : Int) ∧ (ds.idxOf z : Int) - (ks.length : Int) ≤ _
                omega
            refine ⟨en, g6, l, i, us, xs, ks, entC ks ds z, rfl, SqT.of (t7 _ _ hen), Dp.monoAll t7 hDe, SqT.of hg66, SqL.of (t7 _ _ hl), by omega, i1, hentf, fun g7 F2 G2 us7 H9' hg7 t8 hF2 hG2 hg77 hD7 => ?_⟩
            have hmv : Pat.pat ks [] (((Pat.pat ks [] xs).map (Pat.real F2)).set i (if (entC ks ds z).1 then (entC ks ds z).2 else G2.getD (entC ks ds z).2.toNat 0)) = Pat.pat ks [] (xs.set i z) := by
              have := Pat.move_pat (c := z) hF2 hG2 hDue i1 (by rw [hDL]; exact hzm)
              rw [hDL] at this
              rw [← this]
              congr 2
              unfold entC
              by_cases hzk : z ∈ ks
              · rw [if_pos hzk, if_pos hzk]; rfl
              · rw [if_neg hzk, if_neg hzk]
                show G2.getD ((ds.idxOf z : Int) - (ks.length : Int)).toNat 0 = _
                congr 1
                have := hd.perm.length_eq
                omega
            rw [hmv] at hD7
            have t9 := t7.trans t8
            walk_at "go"
            refine isi (ty_of_t hg77) (b := true) (by decide +kernel) ?_
            walk_at "go"
            refine ⟨g5, l, xs.set i z, ks, rfl, .inl (SqL.of (t8 _ _ (t6 _ _ hg55))), SqL.of (t9 _ _ hl), by rw [List.length_set]; omega, fun gA usA HA' hgA tA hgAA hDA => ?_⟩
            refine ned (.tup (SqT.of (tA _ _ hg77)) (Dp.monoAll tA hD7)) (.tup (SqT.of hgAA) hDA) (entD_shaped _) (entD_shaped _) ?_
            rw [entD_eqv, decide_eq_true rfl]
            walk_at "go"
            exact hN2 _ _ ⟨_, _, _, rfl, (sm4.trans t9).trans tA⟩
          · rintro σ H4' ⟨y1, y3, y4, rfl, sm4⟩
            exact hN _ _ ⟨_, _, _, _, rfl, sm4⟩
        · rintro σ H3 ⟨y1, y2, y3, y4, rfl, sm3⟩
          have hl3 := SqL.of (K := K) (sm3 _ _ hl)
          walk_at "go"
          refine ⟨by decide, fun g1 hg1 => ?_⟩
          have t1 := same_new (o := .lst []) hg1
          walk_at "go"
          refine ⟨g1, l, [], ks, rfl, SqL.of upd_same, t1.seq hl3, by simp, by omega, fun g2 srt5 fr5 H4' hg2 t2 hd5 hg24 => ?_⟩
          have hg24' := SqL.of (K := K) hg24
          walk_at "go"
          have hl5 := Pat.due_len (a := []) (f := fr5) hd5.perm
          rw [List.length_map, List.length_map, hl5]
          rw [show (Pat.seenF ks [] ([] : List Int)).length = 0 from rfl]
          rw [decide_eq_true (show V.int (ks.length : Int) = V.int (((ks.length + 0 + 1 : Nat) : Int) - 1) by congr 1; omega)]
          exact q _
end

theorem top_mk {K : PySem.W.Frag} {h : Heap} {mg : Str → Option Value} (X : K.In h) (G : h.Ns mainGlobals mg)
    {f0 : Addr} {od0 an0 : Option Addr} {sl0 : Array (Option Value)} {oc0 kV0 dc0 pm0 cd0 ct0 : Value}
    (a0 : PySem.W.nsIn K mainGlobals "pattern" = some (some (.ref f0))) (l0 : K.lookup f0 = some ⟨oc0, od0, .func (PySem.W.fnOf "pattern" "pattern" (C8.fnArgs s_pattern) (C8.fnBody s_pattern) (C8.fnScope s_pattern) .none kV0 dc0 pm0 an0 cd0 ct0), sl0⟩) (c0 : PySem.W.codeIn K cd0 "pattern" = true) (k0 : PySem.W.keepIn K (.ref f0) = true)
    {f1 : Addr} {od1 an1 : Option Addr} {sl1 : Array (Option Value)} {oc1 kV1 dc1 pm1 cd1 ct1 : Value}
    (a1 : PySem.W.nsIn K mainGlobals "free_integers" = some (some (.ref f1))) (l1 : K.lookup f1 = some ⟨oc1, od1, .func (PySem.W.fnOf "free_integers" "free_integers" (C8.fnArgs s_free_integers) (C8.fnBody s_free_integers) (C8.fnScope s_free_integers) .none kV1 dc1 pm1 an1 cd1 ct1), sl1⟩) (c1 : PySem.W.codeIn K cd1 "free_integers" = true) (k1 : PySem.W.keepIn K (.ref f1) = true)
    {f2 : Addr} {od2 an2 : Option Addr} {sl2 : Array (Option Value)} {oc2 kV2 dc2 pm2 cd2 ct2 : Value}
    (a2 : PySem.W.nsIn K mainGlobals "realise" = some (some (.ref f2))) (l2 : K.lookup f2 = some ⟨oc2, od2, .func (PySem.W.fnOf "realise" "realise" (C8.fnArgs s_realise) (C8.fnBody s_realise) (C8.fnScope s_realise) .none kV2 dc2 pm2 an2 cd2 ct2), sl2⟩) (c2 : PySem.W.codeIn K cd2 "realise" = true) (k2 : PySem.W.keepIn K (.ref f2) = true)
    {f3 : Addr} {od3 an3 : Option Addr} {sl3 : Array (Option Value)} {oc3 kV3 dc3 pm3 cd3 ct3 : Value}
    (a3 : PySem.W.nsIn K mainGlobals "choices" = some (some (.ref f3))) (l3 : K.lookup f3 = some ⟨oc3, od3, .func (PySem.W.fnOf "choices" "choices" (C8.fnArgs s_choices) (C8.fnBody s_choices) (C8.fnScope s_choices) .none kV3 dc3 pm3 an3 cd3 ct3), sl3⟩) (c3 : PySem.W.codeIn K cd3 "choices" = true) (k3 : PySem.W.keepIn K (.ref f3) = true)
    {f4 : Addr} {od4 an4 : Option Addr} {sl4 : Array (Option Value)} {oc4 kV4 dc4 pm4 cd4 ct4 : Value}
    (a4 : PySem.W.nsIn K mainGlobals "move_pattern" = some (some (.ref f4))) (l4 : K.lookup f4 = some ⟨oc4, od4, .func (PySem.W.fnOf "move_pattern" "move_pattern" (C8.fnArgs s_move_pattern) (C8.fnBody s_move_pattern) (C8.fnScope s_move_pattern) .none kV4 dc4 pm4 an4 cd4 ct4), sl4⟩) (c4 : PySem.W.codeIn K cd4 "move_pattern" = true) (k4 : PySem.W.keepIn K (.ref f4) = true)
    {f5 : Addr} {od5 an5 : Option Addr} {sl5 : Array (Option Value)} {oc5 kV5 dc5 pm5 cd5 ct5 : Value}
    (a5 : PySem.W.nsIn K mainGlobals "_law_draw" = some (some (.ref f5))) (l5 : K.lookup f5 = some ⟨oc5, od5, .func (PySem.W.fnOf "_law_draw" "_law_draw" (C8.fnArgs s_draw) (C8.fnBody s_draw) (C8.fnScope s_draw) .none kV5 dc5 pm5 an5 cd5 ct5), sl5⟩) (c5 : PySem.W.codeIn K cd5 "_law_draw" = true) (k5 : PySem.W.keepIn K (.ref f5) = true)
    {f6 : Addr} {od6 an6 : Option Addr} {sl6 : Array (Option Value)} {oc6 kV6 dc6 pm6 cd6 ct6 : Value}
    (a6 : PySem.W.nsIn K mainGlobals "_law_pick" = some (some (.ref f6))) (l6 : K.lookup f6 = some ⟨oc6, od6, .func (PySem.W.fnOf "_law_pick" "_law_pick" (C8.fnArgs s_pick) (C8.fnBody s_pick) (C8.fnScope s_pick) .none kV6 dc6 pm6 an6 cd6 ct6), sl6⟩) (c6 : PySem.W.codeIn K cd6 "_law_pick" = true) (k6 : PySem.W.keepIn K (.ref f6) = true)
    {f7 : Addr} {od7 an7 : Option Addr} {sl7 : Array (Option Value)} {oc7 kV7 dc7 pm7 cd7 ct7 : Value}
    (a7 : PySem.W.nsIn K mainGlobals "_law_number" = some (some (.ref f7))) (l7 : K.lookup f7 = some ⟨oc7, od7, .func (PySem.W.fnOf "_law_number" "_law_number" (C8.fnArgs s_number) (C8.fnBody s_number) (C8.fnScope s_number) .none kV7 dc7 pm7 an7 cd7 ct7), sl7⟩) (c7 : PySem.W.codeIn K cd7 "_law_number" = true) (k7 : PySem.W.keepIn K (.ref f7) = true)
    {f8 : Addr} {od8 an8 : Option Addr} {sl8 : Array (Option Value)} {oc8 kV8 dc8 pm8 cd8 ct8 : Value}
    (a8 : PySem.W.nsIn K mainGlobals "_law_kept" = some (some (.ref f8))) (l8 : K.lookup f8 = some ⟨oc8, od8, .func (PySem.W.fnOf "_law_kept" "_law_kept" (C8.fnArgs s_kept) (C8.fnBody s_kept) (C8.fnScope s_kept) .none kV8 dc8 pm8 an8 cd8 ct8), sl8⟩) (c8 : PySem.W.codeIn K cd8 "_law_kept" = true) (k8 : PySem.W.keepIn K (.ref f8) = true)
    {f9 : Addr} {od9 an9 : Option Addr} {sl9 : Array (Option Value)} {oc9 kV9 dc9 pm9 cd9 ct9 : Value}
    (a9 : PySem.W.nsIn K mainGlobals "_law_values" = some (some (.ref f9))) (l9 : K.lookup f9 = some ⟨oc9, od9, .func (PySem.W.fnOf "_law_values" "_law_values" (C8.fnArgs s_values) (C8.fnBody s_values) (C8.fnScope s_values) .none kV9 dc9 pm9 an9 cd9 ct9), sl9⟩) (c9 : PySem.W.codeIn K cd9 "_law_values" = true) (k9 : PySem.W.keepIn K (.ref f9) = true)
    {f10 : Addr} {od10 an10 : Option Addr} {sl10 : Array (Option Value)} {oc10 kV10 dc10 pm10 cd10 ct10 : Value}
    (a10 : PySem.W.nsIn K mainGlobals "_law_due" = some (some (.ref f10))) (l10 : K.lookup f10 = some ⟨oc10, od10, .func (PySem.W.fnOf "_law_due" "_law_due" (C8.fnArgs s_due) (C8.fnBody s_due) (C8.fnScope s_due) .none kV10 dc10 pm10 an10 cd10 ct10), sl10⟩) (c10 : PySem.W.codeIn K cd10 "_law_due" = true) (k10 : PySem.W.keepIn K (.ref f10) = true)
    {f11 : Addr} {od11 an11 : Option Addr} {sl11 : Array (Option Value)} {oc11 kV11 dc11 pm11 cd11 ct11 : Value}
    (a11 : PySem.W.nsIn K mainGlobals "_law_handed" = some (some (.ref f11))) (l11 : K.lookup f11 = some ⟨oc11, od11, .func (PySem.W.fnOf "_law_handed" "_law_handed" (C8.fnArgs s_handed) (C8.fnBody s_handed) (C8.fnScope s_handed) .none kV11 dc11 pm11 an11 cd11 ct11), sl11⟩) (c11 : PySem.W.codeIn K cd11 "_law_handed" = true) (k11 : PySem.W.keepIn K (.ref f11) = true)
    {f12 : Addr} {od12 an12 : Option Addr} {sl12 : Array (Option Value)} {oc12 kV12 dc12 pm12 cd12 ct12 : Value}
    (a12 : PySem.W.nsIn K mainGlobals "_law_entry" = some (some (.ref f12))) (l12 : K.lookup f12 = some ⟨oc12, od12, .func (PySem.W.fnOf "_law_entry" "_law_entry" (C8.fnArgs s_entry) (C8.fnBody s_entry) (C8.fnScope s_entry) .none kV12 dc12 pm12 an12 cd12 ct12), sl12⟩) (c12 : PySem.W.codeIn K cd12 "_law_entry" = true) (k12 : PySem.W.keepIn K (.ref f12) = true)
    {f13 : Addr} {od13 an13 : Option Addr} {sl13 : Array (Option Value)} {oc13 kV13 dc13 pm13 cd13 ct13 : Value}
    (a13 : PySem.W.nsIn K mainGlobals "law" = some (some (.ref f13))) (l13 : K.lookup f13 = some ⟨oc13, od13, .func (PySem.W.fnOf "law" "law" (C8.fnArgs s_law) (C8.fnBody s_law) (C8.fnScope s_law) .none kV13 dc13 pm13 an13 cd13 ct13), sl13⟩) (c13 : PySem.W.codeIn K cd13 "law" = true) (k13 : PySem.W.keepIn K (.ref f13) = true)
    (z_len : PySem.W.nsIn K mainGlobals "len" = some none)
    (z_int : PySem.W.nsIn K mainGlobals "int" = some none)
    (z_tuple : PySem.W.nsIn K mainGlobals "tuple" = some none)
    (z_list : PySem.W.nsIn K mainGlobals "list" = some none)
    (z_range : PySem.W.nsIn K mainGlobals "range" = some none)
    (z_isinstance : PySem.W.nsIn K mainGlobals "isinstance" = some none)
    (z_sorted : PySem.W.nsIn K mainGlobals "sorted" = some none) : Top K mg :=
  ⟨dd_mk X G a0 l0 c0 k0 (fun _ _ _ _ _ _ us hl => match us, hl with | [_, _], _ => rfl),
   dd_mk X G a1 l1 c1 k1 (fun _ _ _ _ _ _ us hl => match us, hl with | [_, _], _ => rfl),
   dd_mk X G a2 l2 c2 k2 (fun _ _ _ _ _ _ us hl => match us, hl with | [_, _], _ => rfl),
   dd_mk X G a3 l3 c3 k3 (fun _ _ _ _ _ _ us hl => match us, hl with | [_, _], _ => rfl),
   dd_mk X G a4 l4 c4 k4 (fun _ _ _ _ _ _ us hl => match us, hl with | [_, _, _, _], _ => rfl),
   dd_mk X G a5 l5 c5 k5 (fun _ _ _ _ _ _ us hl => match us, hl with | [_, _], _ => rfl),
   dd_mk X G a6 l6 c6 k6 (fun _ _ _ _ _ _ us hl => match us, hl with | [_, _], _ => rfl),
   dd_mk X G a7 l7 c7 k7 (fun _ _ _ _ _ _ us hl => match us, hl with | [_], _ => rfl),
   dd_mk X G a8 l8 c8 k8 (fun _ _ _ _ _ _ us hl => match us, hl with | [_], _ => rfl),
   dd_mk X G a9 l9 c9 k9 (fun _ _ _ _ _ _ us hl => match us, hl with | [_, _, _], _ => rfl),
   dd_mk X G a10 l10 c10 k10 (fun _ _ _ _ _ _ us hl => match us, hl with | [_, _], _ => rfl),
   dd_mk X G a11 l11 c11 k11 (fun _ _ _ _ _ _ us hl => match us, hl with | [_, _, _], _ => rfl),
   dd_mk X G a12 l12 c12 k12 (fun _ _ _ _ _ _ us hl => match us, hl with | [_, _, _], _ => rfl),
   dd_mk X G a13 l13 c13 k13 (fun _ _ _ _ _ _ us hl => match us, hl with | [_], _ => rfl),
   PySem.W.mg_none_of X G z_len,
   PySem.W.mg_none_of X G z_int,
   PySem.W.mg_none_of X G z_tuple,
   PySem.W.mg_none_of X G z_list,
   PySem.W.mg_none_of X G z_range,
   PySem.W.mg_none_of X G z_isinstance,
   PySem.W.mg_none_of X G z_sorted⟩
theorem law_fn {l : PySem.W.OpenLaw} {w : World} {K : PySem.W.Frag} {mg : Str → Option Value} {fa : Addr} (T : Top K mg) (hfa : mg "law" = some (.ref fa)) :
    ∃ fd : FuncData, (∀ (s : Shared) (v : Value), BindsTo s fd ⟨[v], []⟩ [("_law_script", v)]) ∧ ∀ base : Heap, K.In base → base.Ns mainGlobals mg → FnOk l.prog w K mg base CX0 4 fa fd ["_law_script"] (spLaw K) := by
  obtain ⟨f, fd, F, b, df⟩ := T.d_law.ex
  have e := hfa.symm.trans F.mgf
  cases e
  have F2 := F.fn
  obtain ⟨oc, od, dV, kV, doc, pm, an, cdv, ct, osl, rfl, lk, hcd⟩ := F2.ex
  have e2 : dV = .none := df
  subst e2
  exact ⟨_, fun s v => .of_eq rfl, fun base _ _ => ok_law T F.fn⟩
end L27
open PySem PySem.W PyProof.Rows in
set_option maxRecDepth 100000 in
set_option maxHeartbeats 0 in
theorem PySem.Challenge.cw_quietedition_k27_choices_stand_for_all_holds : PySem.Challenge.rw_quietedition_k27_choices_stand_for_all.Holds := by
  w_on; o_law; k_head; (case hw => w_witness2)
  k_fill
  refine L2.walk_of (l := PySem.Challenge.rw_quietedition_k27_choices_stand_for_all) (n := 63) (k := 4) (x := "_law_script") (CX := fun _ => L2.CX0) (sp := fun w => L27.spLaw _) rfl (by decide) rfl ⟨rfl, by decide, by decide⟩ (fun w h Y => PySem.W.kIn_of Y) ?F (fun _ _ a ns hl _ hS => ⟨a, ns, rfl, hS, hl, fun _ => rfl⟩) (fun _ _ _ _ _ h => h)
  case F =>
    intro w mg fa h KX G hmg
    refine' L27.law_fn (L27.top_mk KX G ?a0 ?l0 ?c0 ?k0 ?a1 ?l1 ?c1 ?k1 ?a2 ?l2 ?c2 ?k2 ?a3 ?l3 ?c3 ?k3 ?a4 ?l4 ?c4 ?k4 ?a5 ?l5 ?c5 ?k5 ?a6 ?l6 ?c6 ?k6 ?a7 ?l7 ?c7 ?k7 ?a8 ?l8 ?c8 ?k8 ?a9 ?l9 ?c9 ?k9 ?a10 ?l10 ?c10 ?k10 ?a11 ?l11 ?c11 ?k11 ?a12 ?l12 ?c12 ?k12 ?a13 ?l13 ?c13 ?k13 ?z_len ?z_int ?z_tuple ?z_list ?z_range ?z_isinstance ?z_sorted) hmg
    (case a0 => k_is)
    (case l0 => k_is)
    (case c0 => k_is)
    (case k0 => k_is)
    (case a1 => k_is)
    (case l1 => k_is)
    (case c1 => k_is)
    (case k1 => k_is)
    (case a2 => k_is)
    (case l2 => k_is)
    (case c2 => k_is)
    (case k2 => k_is)
    (case a3 => k_is)
    (case l3 => k_is)
    (case c3 => k_is)
    (case k3 => k_is)
    (case a4 => k_is)
    (case l4 => k_is)
    (case c4 => k_is)
    (case k4 => k_is)
    (case a5 => k_is)
    (case l5 => k_is)
    (case c5 => k_is)
    (case k5 => k_is)
    (case a6 => k_is)
    (case l6 => k_is)
    (case c6 => k_is)
    (case k6 => k_is)
    (case a7 => k_is)
    (case l7 => k_is)
    (case c7 => k_is)
    (case k7 => k_is)
    (case a8 => k_is)
    (case l8 => k_is)
    (case c8 => k_is)
    (case k8 => k_is)
    (case a9 => k_is)
    (case l9 => k_is)
    (case c9 => k_is)
    (case k9 => k_is)
    (case a10 => k_is)
    (case l10 => k_is)
    (case c10 => k_is)
    (case k10 => k_is)
    (case a11 => k_is)
    (case l11 => k_is)
    (case c11 => k_is)
    (case k11 => k_is)
    (case a12 => k_is)
    (case l12 => k_is)
    (case c12 => k_is)
    (case k12 => k_is)
    (case a13 => k_is)
    (case l13 => k_is)
    (case c13 => k_is)
    (case k13 => k_is)
    (case z_len => k_is)
    (case z_int => k_is)
    (case z_tuple => k_is)
    (case z_list => k_is)
    (case z_range => k_is)
    (case z_isinstance => k_is)
    (case z_sorted => k_is)
