import PyProof.Rows.All
import Wide.All
import OpenK.AllK
import Wide.FinOn
import KE.KStateDown
import Lean
import HandS.ForMost
import HandS.Exc
import HandS.More
import HandS.WordsExc
import HandS.Defaults
import HandS.IsInst
import HandS.Wide
import HandS.TupAny
import HandS.Deep
import HandS.Walk
import HandS.StrMore
import HandS.Head0
import HandS.Head1
import HandS.Head2
import HandS.HeadEnd
import HandS.HeadHook1
import HandS.HeadHook2
import PySem.Challenge.RW_heapkinds_k01_words_of_anything
set_option Elab.async false
set_option linter.all false
set_option maxRecDepth 100000
set_option maxHeartbeats 4000000
namespace Hk
open PySem PySem.Spec PyProof.Rows L2 He
/-! ### a def packed: where it stands, how it binds, what it promises -/
def FOk (P : Program) (w : World) (K : PySem.W.Frag) (mg : Str → Option Value) (base : Heap) (CX : CXT) (k : Nat) (x : Str) (ps : List Str) (sp : Sp) : Prop :=
  mg x = some (.ref (ga K x)) ∧ PySem.W.keepIn K (.ref (ga K x)) = true ∧ ∃ fd, Binds K fd ps [] ∧ FnOk P w K mg base CX k (ga K x) fd ps sp
section
variable {P : Program} {w : World} {K : PySem.W.Frag} {mg : Str → Option Value} {base : Heap}
theorem FOk.mono {CX : CXT} {j k : Nat} {x : Str} {ps : List Str} {sp : Sp} (F : FOk P w K mg base CX j x ps sp) (h : j ≤ k) : FOk P w K mg base CX k x ps sp := by
  obtain ⟨a, b, fd, c, d⟩ := F
  exact ⟨a, b, fd, c, d.mono h⟩
theorem FOk.imp {CX : CXT} {k : Nat} {x : Str} {ps : List Str} {sp sp' : Sp} (F : FOk P w K mg base CX k x ps sp) (h : ∀ vs H Q E, sp' vs H Q E → sp vs H Q E) : FOk P w K mg base CX k x ps sp' := by
  obtain ⟨a, b, fd, c, d⟩ := F
  exact ⟨a, b, fd, c, d.imp h⟩
end
section
variable {X : Cx} {CX : CXT} {k : Nat} {x : Str} {ps : List Str} {sp : Sp} {E : XK} {e : Expr} {es : List Expr} {t : TA} {p pos : Pos}
theorem pe_callF (F : FOk X.prog X.w X.K X.mg X.base CX k x ps sp) (hr : Room k X.A) (hg : Gl X x) (hx : Passes CX X E) (ha : PA X (e :: es) t)
    (hdb : (x == ("__debug__" : Str)) = false := by decide) (he : starEach (e :: es) X.env = (false, eval e X.env) :: starEach es X.env := by rfl) (hpl : (backTo pos (starEach es X.env)).any (·.1) = false := by rfl) :
    PE X (.Call (.Name x p) (e :: es) [] pos) (tCall sp [] E t) := by
  obtain ⟨a, b, fd, c, d⟩ := F
  exact pe_call d hr hg a b c .nil hx ha hdb he hpl
theorem pe_callF0 (F : FOk X.prog X.w X.K X.mg X.base CX k x ps sp) (hr : Room k X.A) (hg : Gl X x) (hx : Passes CX X E)
    (hdb : (x == ("__debug__" : Str)) = false := by decide) : PE X (.Call (.Name x p) [] [] pos) (tCall sp [] E tNil) := by
  obtain ⟨a, b, fd, c, d⟩ := F
  exact pe_call0 d hr hg a b c .nil hx hdb
end
/-! ### union rules -/
section
variable {X : Cx}
def rSub : R2 := rI0 fun i j => .int (i - j)
def rDiv : R2 := rI CDivW fun i j => .int (i / j)
def rMod : R2 := rI (fun _ j => 0 < j) fun i j => .int (i % j)
def rPow : R2 := rI CPow fun i j => .int (i ^ j.toNat)
def rAddI : R2 := rI0 fun i j => .int (i + j)
def rAddT : R2 := fun x y H Q => ∃ i j, x = .str i ∧ y = .str j ∧ i.length + j.length ≤ sizeLine ∧ Q (.str (i ++ j)) H
def rAdd (K : PySem.W.Frag) : R2 := fun x y H Q => rAddI x y H Q ∨ rAddT x y H Q ∨ rCat x y H Q ∨ rCatA K x y H Q
theorem oAdd : OpR X (binaryOp .Add) (rAdd X.K) := OpR.or op_add (OpR.or op_add_str (OpR.or op_cat op_catA))
def rMulI : R2 := rI CMulW fun i j => .int (i * j)
def rMul (K : PySem.W.Frag) : R2 := fun x y H Q => rMulI x y H Q ∨ rRep x y H Q
theorem oMul : OpR X (binaryOp .Mult) (rMul X.K) := OpR.or op_mulW op_rep
def rNeg : V → Hp → VK → Prop := rU fun i => .int (-i)
def rLeI : R2 := rI0 fun i j => .bl (decide (i ≤ j))
def rGtI : R2 := rI0 fun i j => .bl (decide (j < i))
def rGeI : R2 := rI0 fun i j => .bl (decide (j ≤ i))
def rLtI : R2 := rI0 fun i j => .bl (decide (i < j))
def rLtS : R2 := fun x y H Q => ∃ i j, x = .str i ∧ y = .str j ∧ Q (.bl (decide (i.cps.toList < j.cps.toList))) H
def rLtU : R2 := fun x y H Q => rLtI x y H Q ∨ rLtS x y H Q
theorem oLt : OpR X (compareOp .Lt) rLtU := OpR.or op_lt op_lt_str
def rEqU (K : PySem.W.Frag) : R2 := fun x y H Q => rEq x y H Q ∨ rEqD K x y H Q
theorem oEq (hu : X.A.units + 64 < cLine) : OpR X (compareOp .Eq) (rEqU X.K) := OpR.or op_eq (op_eqD hu)
def rNeU (K : PySem.W.Frag) : R2 := fun x y H Q => rNe x y H Q ∨ rNeD K x y H Q
theorem oNe (hu : X.A.units + 64 < cLine) : OpR X (compareOp .NotEq) (rNeU X.K) := OpR.or op_ne (op_neD hu)
def rInT : R2 := fun x y H Q => ∃ (c : Nat) (z : Str), x = .str ⟨#[c]⟩ ∧ y = .str z ∧ Q (.bl (decide (c ∈ z.cps.toList))) H
def rNotInT : R2 := fun x y H Q => ∃ (c : Nat) (z : Str), x = .str ⟨#[c]⟩ ∧ y = .str z ∧ Q (.bl (!decide (c ∈ z.cps.toList))) H
def rInU (K : PySem.W.Frag) : R2 := fun x y H Q => rInT x y H Q ∨ rIn K false x y H Q
theorem oIn (hu : X.A.units + 64 < cLine) : OpR X (compareOp .In) (rInU X.K) := OpR.or op_in_sign op_in_seq
def rNotInU (K : PySem.W.Frag) : R2 := fun x y H Q => rNotInT x y H Q ∨ rIn K true x y H Q
theorem oNotIn (hu : X.A.units + 64 < cLine) : OpR X (compareOp .NotIn) (rNotInU X.K) := OpR.or op_notIn_sign op_notIn_seq
def rIxU (K : PySem.W.Frag) : R2 := fun x y H Q => rIxL K x y H Q ∨ rIxT K x y H Q ∨ rIxS x y H Q
theorem ixAny (hu : X.A.units + 64 < cLine) : IxR X (rIxU X.K) := ix_seq
def rSlU (K : PySem.W.Frag) : V → Option Int → Option Int → Hp → VK → Prop := fun x lo hi H Q => rSlS x lo hi H Q ∨ rSlL K x lo hi H Q ∨ rSlA K x lo hi H Q
theorem slAny : SlR X (rSlU X.K) := SlR.or sl_str (SlR.or sl_list sl_tupA)
def rLenU (K : PySem.W.Frag) : List V → Hp → VK → Prop := fun xs H Q => (∃ x n, xs = [x] ∧ LenV K x H n ∧ Q (.int n) H) ∨ ∃ a kvs, xs = [V.ref a] ∧ H a = some (.dK kvs) ∧ Q (.int kvs.length) H
theorem call_lenU : CallR X (.builtin "len") (rLenU X.K) := CallR.or call_len call_lenD
def rStrU : List V → Hp → VK → Prop := fun xs H Q => ∃ i, xs = [.int i] ∧ i.natAbs.log2 < 1920 ∧ Q (.str (toString i)) H
theorem call_strU : CallR X (.type "str") rStrU := call_str_int
def rMax2 : List V → Hp → VK → Prop := fun xs H Q => ∃ i j, xs = [.int i, .int j] ∧ Q (.int (if j > i then j else i)) H
def rMin2 : List V → Hp → VK → Prop := fun xs H Q => ∃ i j, xs = [.int i, .int j] ∧ Q (.int (if j < i then j else i)) H
def rJoin (K : PySem.W.Frag) : V → List V → Hp → VK → Prop := fun x xs H Q => ∃ a p, ∃ ys : List Str, x = .str a ∧ xs = [.ref p] ∧ (SqL K H p (ys.map V.str) ∨ SqT K H p (ys.map V.str)) ∧ (ys.map (·.length)).sum + ys.length * a.length ≤ 16777216 ∧ Q (.str (Txt.join a ys)) H
def rUpper : V → List V → Hp → VK → Prop := fun x xs H Q => ∃ a, x = .str a ∧ xs = [] ∧ a.length ≤ 5592405 ∧ Q (.str (Txt.upper a)) H
def tTru (K : PySem.W.Frag) (ta : TE) : TT := fun σ H Q => ta σ H fun x H' => ∃ k, TruV K x H' k ∧ Q k H'
end
end Hk

namespace Hk
open PySem PySem.Spec PyProof.Rows L2 He
/-- all but what stands at b is as it was -/
def Keep (b : Addr) (H H' : Hp) : Prop := ∀ a o, a ≠ b → H a = some o → H' a = some o
/-! ### walker lemmas: one step of a reading -/
section
variable {K : PySem.W.Frag} {σ : L2.St} {H H' : Hp} {D : Ends} {Q : VK} {ta tb tc te : TE} {t u : TS} {x y v : V}
theorem w_seq (h : t { D with nx := u D } σ H) : tSeq t u D σ H := h
theorem w_asg {g : TG} (h : te σ H fun x H1 => g x σ H1 D.nx) : tAsg te g D σ H := h
theorem w_name {i : Nat} {R : L2.St → Hp → Prop} (h : R (σ.set i (some v)) H) : gName i v σ H R := h
theorem w_ret (h : te σ H D.rt) : tRet te D σ H := h
theorem w_drop (h : te σ H fun _ H1 => D.nx σ H1) : tDrop te D σ H := h
theorem w_next (h : D.nx σ H) : tNext D σ H := h
theorem w_if {c : TT} (h : c σ H fun b H1 => if b = true then t D σ H1 else u D σ H1) : tIfS c t u D σ H := h
theorem w_var {i : Nat} (e : σ[i]? = some (some v)) (h : Q v H) : tVar i σ H Q := ⟨v, e, h⟩
theorem w_c (h : Q v H) : tC v σ H Q := h
theorem w_op {r : R2} (h : ta σ H fun x H1 => tb σ H1 fun y H2 => r x y H2 Q) : tOp r ta tb σ H Q := h
theorem w_un {r : V → Hp → VK → Prop} (h : ta σ H fun x H1 => r x H1 Q) : tUn r ta σ H Q := h
theorem w_cb {r : List V → Hp → VK → Prop} {a : TA} (h : a σ H fun vs H1 => r vs H1 Q) : tCB r a σ H Q := h
theorem w_call {sp : Sp} {dvs : List V} {E : XK} {a : TA} (h : a σ H fun vs H1 => sp (vs ++ dvs) H1 Q E) : tCall sp dvs E a σ H Q := h
theorem w_nil {R : List V → Hp → Prop} (h : R [] H) : tNil σ H R := h
theorem w_cons {a : TA} {R : List V → Hp → Prop} (h : ta σ H fun x H1 => a σ H1 fun xs H2 => R (x :: xs) H2) : tCons ta a σ H R := h
def NewO (n : Nat) (o : HO) (H : Hp) (Q : VK) : Prop := n ≤ sizeLine ∧ ∀ p, H p = none → Q (.ref p) (upd H p o)
theorem w_lst {a : TA} (h : a σ H fun xs H1 => NewO xs.length (.lst xs) H1 Q) : tLst a σ H Q := h
theorem w_tup {a : TA} (h : a σ H fun xs H1 => NewO xs.length (.tup xs) H1 Q) : tTup a σ H Q := h
theorem w_test {R : Bool → Hp → Prop} (h : te σ H fun x H' => ∃ k, x = .bl k ∧ R k H') : tTest te σ H R := h
theorem w_tB {R : Bool → Hp → Prop} (h : te σ H fun x H' => ∃ k, x = .bl k ∧ R k H') : tB te σ H R := h
theorem w_bl {b : Bool} {R : Bool → Prop} (h : R b) : ∃ k, V.bl b = .bl k ∧ R k := ⟨b, rfl, h⟩
theorem w_and {c d : TT} {R : Bool → Hp → Prop} (h : c σ H fun b H1 => if b = true then d σ H1 R else R false H1) : tAnd c d σ H R := h
theorem w_or {c d : TT} {R : Bool → Hp → Prop} (h : c σ H fun b H1 => if b = true then R true H1 else d σ H1 R) : tOr c d σ H R := h
theorem w_not {c : TT} {R : Bool → Hp → Prop} (h : c σ H fun b H1 => R (!b) H1) : tNot c σ H R := h
theorem w_andV (h : ta σ H fun x H1 => ∃ c, x = .bl c ∧ if c = true then tb σ H1 Q else Q (.bl false) H1) : tAndV ta tb σ H Q := h
theorem w_orV (h : ta σ H fun x H1 => ∃ c, x = .bl c ∧ if c = true then Q (.bl true) H1 else tb σ H1 Q) : tOrV ta tb σ H Q := h
theorem w_notV (h : ta σ H fun x H1 => ∃ c, x = .bl c ∧ Q (.bl (!c)) H1) : tNotV ta σ H Q := h
theorem w_chain {r r' : R2} (h : ta σ H fun x H1 => tb σ H1 fun y H2 => r x y H2 fun z H3 => ∃ k, z = .bl k ∧ (if k = true then tc σ H3 fun w' H4 => r' y w' H4 Q else Q (.bl false) H3)) : tChain r r' ta tb tc σ H Q := h
theorem w_ifE {c : TT} (h : c σ H fun b H1 => if b = true then ta σ H1 Q else tb σ H1 Q) : tIf c ta tb σ H Q := h
theorem w_sl {r : V → Option Int → Option Int → Hp → VK → Prop} {tl th : TO} (h : te σ H fun x H1 => tl σ H1 fun l H2 => th σ H2 fun u H3 => r x l u H3 Q) : tSl r te tl th σ H Q := h
theorem w_noPart {R : Option Int → Hp → Prop} (h : R none H) : tNoPart σ H R := h
theorem w_part {R : Option Int → Hp → Prop} (h : te σ H fun x H1 => ∃ i, x = .int i ∧ R (some i) H1) : tPart te σ H R := h
theorem w_int {i : Int} {R : Int → Prop} (h : R i) : ∃ k, V.int i = .int k ∧ R k := ⟨i, rfl, h⟩
theorem w_sub {to ti : TE} {r : TSet} {R : L2.St → Hp → Prop} (h : to σ H fun o H1 => ti σ H1 fun i H2 => r o i v H2 fun H3 => R σ H3) : gSub to ti r v σ H R := h
theorem w_bm {T : String} {r : V → List V → Hp → VK → Prop} {a : TA} (h : te σ H fun x H1 => tyV K T x H1 ∧ a σ H1 fun xs H2 => r x xs H2 Q) : tBM K T r te a σ H Q := h
theorem w_tM0 {r : V → List V → Hp → VK → Prop} (h : te σ H fun x H1 => (∃ a, x = .str a) ∧ r x [] H1 Q) : tM0 r te σ H Q := h
theorem w_tM1 {r : V → List V → Hp → VK → Prop} (h : ta σ H fun x H1 => (∃ a, x = .str a) ∧ te σ H1 fun y H2 => r x [y] H2 Q) : tM1 r ta te σ H Q := h
theorem w_strA {s : Str} {A : Prop} (h : A) : (∃ a, V.str s = .str a) ∧ A := ⟨⟨s, rfl⟩, h⟩
theorem iteTrue {b : Bool} {A B : Prop} (hb : b = true) (h : A) : if b = true then A else B := by subst hb; rw [if_pos rfl]; exact h
theorem iteFalse {b : Bool} {A B : Prop} (hb : b = false) (h : B) : if b = true then A else B := by subst hb; rw [if_neg Bool.false_ne_true]; exact h
/-- both ways of a test -/
theorem iteB {b : Bool} {A B : Prop} (h1 : b = true → A) (h2 : b = false → B) : if b = true then A else B := by
  cases b with
  | true => rw [if_pos rfl]; exact h1 rfl
  | false => rw [if_neg Bool.false_ne_true]; exact h2 rfl
theorem q_bl {b b' : Bool} (e : b = b') (h : Q (.bl b) H) : Q (.bl b') H := by subst e; exact h
def DEnd (p : Addr) (ps : List (V × V)) (H2 : Hp) (Q : VK) : Prop := H2 p = some (.dK []) ∧ ∃ kvs : List (Key × V), ps = kvs.map (fun kv => (kV kv.1, kv.2)) ∧ kvs.length ≤ 15 ∧ Q (.ref p) (upd H2 p (.dK (mergeK [] kvs)))
theorem w_disp {trs : List (TE × TE)} (h : ∀ p H1, H p = none → Same H H1 → H1 p = some (.dK []) → tPairs trs σ H1 fun ps H2 => DEnd p ps H2 Q) : tDisp trs σ H Q := fun p hp => h p _ hp (fun a u e => by rw [upd_ne (ne_of_none e hp)]; exact e) upd_same
theorem w_pnil {R : List (V × V) → Hp → Prop} (h : R [] H) : tPairs [] σ H R := h
theorem w_pcons {r : List (TE × TE)} {R : List (V × V) → Hp → Prop} (h : ta σ H fun x H1 => tb σ H1 fun y H2 => tPairs r σ H2 fun ps H3 => R ((x, y) :: ps) H3) : tPairs ((ta, tb) :: r) σ H R := h
theorem w_dnew (h : ∀ p H1, H p = none → Same H H1 → H1 p = some (.dK []) → Q (.ref p) H1) : tDNewK σ H Q := fun p hp => h p _ hp (fun a u e => by rw [upd_ne (ne_of_none e hp)]; exact e) upd_same
/-- a display's end: what stood, stands; the dict is new -/
def toKey : V → Key
  | .int i => .inl i
  | .str x => .inr x
  | _ => .inl 0
theorem w_dend {p : Addr} {ps : List (V × V)} (hp : H p = some (.dK [])) (e : ps = (ps.map fun q => (toKey q.1, q.2)).map (fun kv => (kV kv.1, kv.2))) (hl : (ps.map fun q => (toKey q.1, q.2)).length ≤ 15)
    (h : ∀ H', Keep p H H' → H' p = some (.dK (mergeK [] (ps.map fun q => (toKey q.1, q.2)))) → Q (.ref p) H') : DEnd p ps H Q := ⟨hp, _, e, hl, h _ (fun a u n e => by rw [upd_ne n]; exact e) upd_same⟩
theorem w_new {n : Nat} {o : HO} (hz : n ≤ sizeLine) (h : ∀ p H', H p = none → Same H H' → H' p = some o → Q (.ref p) H') : NewO n o H Q := ⟨hz, fun p hp => h p _ hp (fun a u e => by rw [upd_ne (ne_of_none e hp)]; exact e) upd_same⟩
/-! values -/
theorem v_addI {i j : Int} (h : Q (.int (i + j)) H) : rAdd K (.int i) (.int j) H Q := Or.inl ⟨i, j, rfl, rfl, h⟩
theorem v_addT {i j : Str} (hz : i.length + j.length ≤ sizeLine) (h : Q (.str (i ++ j)) H) : rAdd K (.str i) (.str j) H Q := Or.inr (Or.inl ⟨i, j, rfl, rfl, hz, h⟩)
theorem v_cat {a b : Addr} {xs ys : List V} (ha : H a = some (.lst xs)) (hb : H b = some (.lst ys)) (hz : xs.length + ys.length ≤ sizeLine) (h : ∀ p H', H p = none → Same H H' → H' p = some (.lst (xs ++ ys)) → Q (.ref p) H') : rAdd K (.ref a) (.ref b) H Q :=
  Or.inr (Or.inr (Or.inl ⟨a, b, xs, ys, rfl, rfl, ha, hb, hz, fun p hp => h p _ hp (fun a u e => by rw [upd_ne (ne_of_none e hp)]; exact e) upd_same⟩))
theorem v_sub {i j : Int} (h : Q (.int (i - j)) H) : rSub (.int i) (.int j) H Q := ⟨i, j, rfl, rfl, h⟩
theorem v_mulI {i j : Int} (c : CMulW i j) (h : Q (.int (i * j)) H) : rMul K (.int i) (.int j) H Q := Or.inl ⟨i, j, rfl, rfl, c, h⟩
theorem v_div {i j : Int} (c : CDivW i j) (h : Q (.int (i / j)) H) : rDiv (.int i) (.int j) H Q := ⟨i, j, rfl, rfl, c, h⟩
theorem v_mod {i j : Int} (c : 0 < j) (h : Q (.int (i % j)) H) : rMod (.int i) (.int j) H Q := ⟨i, j, rfl, rfl, c, h⟩
theorem v_pow {i j : Int} (c : CPow i j) (h : Q (.int (i ^ j.toNat)) H) : rPow (.int i) (.int j) H Q := ⟨i, j, rfl, rfl, c, h⟩
theorem v_neg {i : Int} (h : Q (.int (-i)) H) : rNeg (.int i) H Q := ⟨i, rfl, h⟩
theorem v_le {i j : Int} (h : Q (.bl (decide (i ≤ j))) H) : rLeI (.int i) (.int j) H Q := ⟨i, j, rfl, rfl, h⟩
theorem v_gt {i j : Int} (h : Q (.bl (decide (j < i))) H) : rGtI (.int i) (.int j) H Q := ⟨i, j, rfl, rfl, h⟩
theorem v_ge {i j : Int} (h : Q (.bl (decide (j ≤ i))) H) : rGeI (.int i) (.int j) H Q := ⟨i, j, rfl, rfl, h⟩
theorem v_lt {i j : Int} (h : Q (.bl (decide (i < j))) H) : rLtU (.int i) (.int j) H Q := Or.inl ⟨i, j, rfl, rfl, h⟩
theorem v_eqI {i j : Int} (h : Q (.bl (decide (i = j))) H) : rEqU K (.int i) (.int j) H Q := Or.inl ⟨rfl, by
  have e : decide (V.int i = V.int j) = decide (i = j) := by simp
  rw [e]; exact h⟩
theorem v_inT {c : Nat} {z : Str} (h : Q (.bl (decide (c ∈ z.cps.toList))) H) : rInU K (.str ⟨#[c]⟩) (.str z) H Q := Or.inl ⟨c, z, rfl, rfl, h⟩
theorem v_notInT {c : Nat} {z : Str} (h : Q (.bl (!decide (c ∈ z.cps.toList))) H) : rNotInU K (.str ⟨#[c]⟩) (.str z) H Q := Or.inl ⟨c, z, rfl, rfl, h⟩
theorem v_ixL {p : Addr} {xs : List V} {i : Int} (hp : H p = some (.lst xs)) (ha : atI xs i = some v) (h : Q v H) : rIxU K (.ref p) (.int i) H Q := Or.inl ⟨p, xs, i, v, rfl, rfl, .inl (.inl hp), ha, h⟩
theorem v_ixQ {p : Addr} {xs : List V} {i : Int} (hp : SqL K H p xs) (ha : atI xs i = some v) (h : Q v H) : rIxU K (.ref p) (.int i) H Q := Or.inl ⟨p, xs, i, v, rfl, rfl, hp, ha, h⟩
theorem v_ixT {p : Addr} {xs : List V} {i : Int} (hp : H p = some (.tup xs)) (ha : atI xs i = some v) (h : Q v H) : rIxU K (.ref p) (.int i) H Q := Or.inr (Or.inl ⟨p, xs, i, v, rfl, rfl, .inl (.inl hp), ha, h⟩)
theorem v_ixS {z : Str} {i : Int} {c : Nat} (hz : z.length ≤ sizeLine) (ha : atI z.cps.toList i = some c) (h : Q (.str ⟨#[c]⟩) H) : rIxU K (.str z) (.int i) H Q := Or.inr (Or.inr ⟨z, i, c, rfl, rfl, hz, ha, h⟩)
theorem v_setL {p : Addr} {xs : List V} {k : Int} {j : Nat} {R : Hp → Prop} (hp : H p = some (.lst xs)) (hj : ixN xs.length k = some j) (h : ∀ H', Keep p H H' → H' p = some (.lst (xs.set j v)) → R H') : rSetL (.ref p) (.int k) v H R :=
  ⟨p, xs, k, j, rfl, rfl, hp, hj, h _ (fun a u n e => by rw [upd_ne n]; exact e) upd_same⟩
theorem v_upper {z : Str} (hz : z.length ≤ 5592405) (h : Q (.str (Txt.upper z)) H) : rUpper (.str z) [] H Q := ⟨z, rfl, rfl, hz, h⟩
theorem v_str {i : Int} (hz : i.natAbs.log2 < 1920) (h : Q (.str (toString i)) H) : rStrU [.int i] H Q := ⟨i, rfl, hz, h⟩
theorem v_slS {z : Str} {lo hi : Option Int} (hz : z.length ≤ sizeLine) (h : Q (.str (cutS z lo hi)) H) : rSlU K (.str z) lo hi H Q := Or.inl ⟨z, rfl, hz, h⟩
theorem v_lenS {z : Str} (hz : z.length ≤ sizeLine) (h : Q (.int z.length) H) : rLenU K [.str z] H Q := Or.inl ⟨.str z, z.length, rfl, ⟨hz, rfl⟩, h⟩
theorem v_lenL {p : Addr} {xs : List V} (hp : H p = some (.lst xs)) (h : Q (.int xs.length) H) : rLenU K [.ref p] H Q := Or.inl ⟨.ref p, xs.length, rfl, Or.inl ⟨xs, .inl (.inl hp), rfl⟩, h⟩
theorem v_lenQ {p : Addr} {xs : List V} (hp : SqL K H p xs) (h : Q (.int xs.length) H) : rLenU K [.ref p] H Q := Or.inl ⟨.ref p, xs.length, rfl, Or.inl ⟨xs, hp, rfl⟩, h⟩
theorem v_isi {T : String} {ty : Value} {b : Bool} (tx : TyX K H x ty) (k : PySem.W.kitOne K ty (.type T) = some b) (h : Q (.bl b) H) : rIsi K [x, .ty T] H Q := ⟨x, .ty T, ty, .type T, b, rfl, ClsV.ty T, tx, k, h⟩
theorem v_max2 {i j : Int} (h : Q (.int (if j > i then j else i)) H) : rMax2 [.int i, .int j] H Q := ⟨i, j, rfl, h⟩
theorem v_min2 {i j : Int} (h : Q (.int (if j < i then j else i)) H) : rMin2 [.int i, .int j] H Q := ⟨i, j, rfl, h⟩
theorem v_append {l : Addr} {xs : List V} (hp : H l = some (.lst xs)) (hz : xs.length < sizeLine) (h : ∀ H', Keep l H H' → H' l = some (.lst (xs ++ [y])) → Q .non H') : rAppend (.ref l) [y] H Q :=
  ⟨l, xs, y, rfl, rfl, hp, hz, h _ (fun a u n e => by rw [upd_ne n]; exact e) upd_same⟩
theorem v_tyL {p : Addr} {xs : List V} {A : Prop} (hp : H p = some (.lst xs)) (h : A) : tyV K "list" (.ref p) H ∧ A := ⟨Or.inl ⟨rfl, xs, .inl (.inl hp)⟩, h⟩
theorem v_tyS {z : Str} {A : Prop} (h : A) : tyV K "str" (.str z) H ∧ A := ⟨rfl, h⟩
end
section
variable {K : PySem.W.Frag} {H : Hp} {Q : VK}
theorem atI_in {α : Type} {xs : List α} {i : Int} (h0 : 0 ≤ i) (h1 : i < (xs.length : Int)) : ∃ v, atI xs i = some v ∧ xs[i.toNat]? = some v ∧ v ∈ xs := by
  have h2 : i.toNat < xs.length := by omega
  refine ⟨xs[i.toNat], ?_, by simp [h2], List.getElem_mem h2⟩
  have e : i = ((i.toNat : Nat) : Int) := by omega
  have z : atI xs ((i.toNat : Nat) : Int) = some xs[i.toNat] := atI_nat (by simp [h2])
  rw [← e] at z
  exact z
theorem lt_len {l : List V} {i : Int} (n : Nat) (e : l.length = n) (h : i < (n : Int)) : i < (l.length : Int) := by rw [e]; exact h
/-- an item at an open place -/
theorem v_ixLo {p : Addr} {xs : List V} {i : Int} (hp : H p = some (.lst xs)) (h0 : 0 ≤ i) (h1 : i < (xs.length : Int)) (h : ∀ v, v ∈ xs → xs[i.toNat]? = some v → Q v H) : rIxU K (.ref p) (.int i) H Q := by
  obtain ⟨v, e, e2, m⟩ := atI_in h0 h1
  exact v_ixL hp e (h v m e2)
theorem v_ixQo {p : Addr} {xs : List V} {i : Int} (hp : SqL K H p xs) (h0 : 0 ≤ i) (h1 : i < (xs.length : Int)) (h : ∀ v, v ∈ xs → xs[i.toNat]? = some v → Q v H) : rIxU K (.ref p) (.int i) H Q := by
  obtain ⟨v, e, e2, m⟩ := atI_in h0 h1
  exact v_ixQ hp e (h v m e2)
theorem v_ixTo {p : Addr} {xs : List V} {i : Int} (hp : H p = some (.tup xs)) (h0 : 0 ≤ i) (h1 : i < (xs.length : Int)) (h : ∀ v, v ∈ xs → xs[i.toNat]? = some v → Q v H) : rIxU K (.ref p) (.int i) H Q := by
  obtain ⟨v, e, e2, m⟩ := atI_in h0 h1
  exact v_ixT hp e (h v m e2)
theorem v_ixSo {z : Str} {i : Int} (hz : z.length ≤ sizeLine) (h0 : 0 ≤ i) (h1 : i < (z.length : Int)) (h : ∀ c, c ∈ z.cps.toList → z.cps.toList[i.toNat]? = some c → Q (.str ⟨#[c]⟩) H) : rIxU K (.str z) (.int i) H Q := by
  obtain ⟨v, e, e2, m⟩ := atI_in (xs := z.cps.toList) h0 (by rw [Array.length_toList]; exact h1)
  exact v_ixS hz e (h v m e2)
theorem cutS_le (z : Str) (lo hi : Option Int) : (cutS z lo hi).length ≤ z.length := by
  show (List.toArray _).size ≤ _
  rw [List.size_toArray, List.length_take, List.length_drop, Array.length_toList]
  show _ ≤ z.cps.size
  omega
theorem str_app (x y : Str) : (x ++ y).length = x.length + y.length := by
  show (x.cps ++ y.cps).size = _
  rw [Array.size_append]; rfl
theorem len_app {x y : Str} {N : Nat} (hx : x.length ≤ N / 2) (hy : y.length ≤ N / 2) : (x ++ y).length ≤ N := by rw [str_app]; omega
theorem len_cut {z : Str} {lo hi : Option Int} {N : Nat} (h : z.length ≤ N) : (cutS z lo hi).length ≤ N := Nat.le_trans (cutS_le z lo hi) h
theorem len_one {c N : Nat} (h : 1 ≤ N) : (⟨#[c]⟩ : Str).length ≤ N := h
theorem len_line {x y : Str} (hx : x.length ≤ 4000000) (hy : y.length ≤ 4000000) : x.length + y.length ≤ sizeLine := Nat.le_trans (Nat.add_le_add hx hy) (by decide)
theorem len_line1 {x : Str} (hx : x.length ≤ 4000000) : x.length ≤ sizeLine := Nat.le_trans hx (by decide)
theorem one_len (c : Nat) : (⟨#[c]⟩ : Str).length = 1 := rfl
end
/-! ### sides of arithmetic -/
theorem s_mul {i j : Int} (h1 : -18446744073709551616 < i ∧ i < 18446744073709551616) (h2 : -18446744073709551616 < j ∧ j < 18446744073709551616) : CMulW i j :=
  wide_mul (a := 64) (b := 64) (by omega) (by omega) (by decide) (by decide) (by decide)
theorem s_div {i j : Int} (h1 : 0 < j) (h2 : j < 18446744073709551616) : CDivW i j := wide_div h1 (b := 64) (by omega) (by decide) (by decide)
theorem s_pow {i j : Int} (h1 : 0 ≤ j) (h2 : j ≤ 1000000) (h3 : -18446744073709551616 < i ∧ i < 18446744073709551616) : CPow i j := ⟨h1, h2, by omega⟩
/-! ### heaps -/
theorem get_new {H : Hp} {p q : Addr} {o u : HO} (hp : H p = none) (hq : H q = some u) : upd H p o q = some u := by
  rw [upd_ne (ne_of_none hq hp)]; exact hq
theorem get_ne {H : Hp} {p q : Addr} {o u : HO} (hn : q ≠ p) (hq : H q = some u) : upd H p o q = some u := by
  rw [upd_ne hn]; exact hq
theorem get_same {H H' : Hp} {q : Addr} {u : HO} (s : Same H H') (hq : H q = some u) : H' q = some u := s q u hq
theorem get_keep {H H' : Hp} {b q : Addr} {u : HO} (s : Keep b H H') (hn : q ≠ b) (hq : H q = some u) : H' q = some u := s q u hn hq
theorem same_upd {H : Hp} {p : Addr} {o : HO} (hp : H p = none) : Same H (upd H p o) := fun a u e => get_new hp e
theorem Same.new {H H' : Hp} {p : Addr} {o : HO} (s : Same H H') (hp : H' p = none) : Same H (upd H' p o) := s.trans (same_upd hp)
theorem Same.mut {H H' : Hp} {p : Addr} {o : HO} (s : Same H H') (hp : H p = none) : Same H (upd H' p o) := fun a u e => by
  rw [upd_ne (ne_of_none e hp)]; exact s a u e
theorem Keep.refl (b : Addr) (H : Hp) : Keep b H H := fun _ _ _ e => e
theorem Keep.trans {b : Addr} {H H1 H2 : Hp} (x : Keep b H H1) (y : Keep b H1 H2) : Keep b H H2 := fun a o n e => y a o n (x a o n e)
theorem Keep.new {b : Addr} {H H' : Hp} {p : Addr} {o : HO} (s : Keep b H H') (hp : H' p = none) : Keep b H (upd H' p o) := fun a u n e => get_new hp (s a u n e)
theorem Keep.mut {b : Addr} {H H' : Hp} {o : HO} (s : Keep b H H') : Keep b H (upd H' b o) := fun a u n e => get_ne n (s a u n e)
theorem Keep.mut' {b p : Addr} {H H' : Hp} {o : HO} (s : Keep b H H') (hp : H p = none) : Keep b H (upd H' p o) := fun a u n e => by
  rw [upd_ne (ne_of_none e hp)]; exact s a u n e
theorem Keep.after {b : Addr} {H H1 H2 : Hp} (y : Keep b H1 H2) (x : Keep b H H1) : Keep b H H2 := x.trans y
theorem same_after {H H1 H2 : Hp} (y : Same H1 H2) (x : Same H H1) : Same H H2 := x.trans y
theorem Keep.of {b : Addr} {H H' : Hp} (s : Same H H') : Keep b H H' := fun a o _ e => s a o e
theorem Keep.same {b : Addr} {H H' : Hp} (s : Keep b H H') (hb : H b = none) : Same H H' := fun a o e => s a o (ne_of_none e hb) e
theorem Keep.free {b : Addr} {H H' : Hp} (s : Keep b H H') {p : Addr} (hp : H' p = none) (hb : H' b ≠ none) : H p = none := by
  cases e : H p with
  | none => rfl
  | some o =>
    by_cases h : p = b
    · subst h; exact absurd hp hb
    · rw [s p o h e] at hp; cases hp
theorem keep_afterS {b : Addr} {H H1 H2 : Hp} (y : Same H1 H2) (x : Keep b H H1) : Keep b H H2 := fun a o n e => y a o (x a o n e)
/-- a new object was changed -/
theorem keep_afterN {b p : Addr} {H H1 H2 : Hp} (y : Keep p H1 H2) (hp : H p = none) (x : Keep b H H1) : Keep b H H2 := fun a o n e => y a o (ne_of_none e hp) (x a o n e)
theorem same_afterN {p : Addr} {H H1 H2 : Hp} (y : Keep p H1 H2) (hp : H p = none) (x : Same H H1) : Same H H2 := fun a o e => y a o (ne_of_none e hp) (x a o e)
theorem free_same {H H1 : Hp} {p : Addr} (hp : H1 p = none) (x : Same H H1) : H p = none := Same.free x hp
theorem free_keep {H H1 : Hp} {p b : Addr} {o : HO} (hp : H1 p = none) (hb : H1 b = some o) (x : Keep b H H1) : H p = none := x.free hp (by rw [hb]; exact fun z => by cases z)
theorem ne_new {H1 : Hp} {p q : Addr} {o : HO} (hp : H1 p = none) (hq : H1 q = some o) : q ≠ p := ne_of_none hq hp
end Hk

namespace Hk
open PySem PySem.Spec PyProof.Rows L2 He
/-! ### what is walked, as a list of values -/
def strItems (z : Str) : List V := z.cps.toList.map fun c => .str ⟨#[c]⟩
def rngItems (lo : Int) (n : Nat) : List V := (List.range n).map fun (i : Nat) => .int (lo + (i : Int))
theorem strItems_len (z : Str) : (strItems z).length = z.cps.size := by unfold strItems; simp
theorem rngItems_len (lo : Int) (n : Nat) : (rngItems lo n).length = n := by unfold rngItems; simp
theorem mem_rng {lo : Int} {n : Nat} {x : V} (h : x ∈ rngItems lo n) : ∃ i : Nat, i < n ∧ x = .int (lo + (i : Int)) := by
  unfold rngItems at h
  obtain ⟨i, hi, rfl⟩ := List.mem_map.mp h
  exact ⟨i, List.mem_range.mp hi, rfl⟩
theorem mem_str {z : Str} {x : V} (h : x ∈ strItems z) : ∃ c : Nat, c ∈ z.cps.toList ∧ x = .str ⟨#[c]⟩ := by
  unfold strItems at h
  obtain ⟨i, hi, rfl⟩ := List.mem_map.mp h
  exact ⟨i, hi, rfl⟩
theorem walk_strAt {z : Str} : Walk (Its z) (strItems z).length (fun _ => True) (YAt (strItems z)) := by
  have e := strItems_len z
  refine ⟨fun i H hi _ => ?_, fun H _ => ?_, fun i H x H' hi _ y => ?_⟩
  · show i < z.cps.size; omega
  · show z.cps.size ≤ _; omega
  · obtain ⟨rfl, c, hc, rfl⟩ := y
    refine ⟨rfl, ?_⟩
    unfold strItems
    rw [List.getElem?_map, Array.getElem?_toList, hc]; rfl
theorem walk_rngAt {lo : Int} {n : Nat} : Walk (Itr lo n) (rngItems lo n).length (fun _ => True) (YAt (rngItems lo n)) := by
  have e := rngItems_len lo n
  refine ⟨fun i H hi _ => ?_, fun H _ => ?_, fun i H x H' hi _ y => ?_⟩
  · show i < n; omega
  · show n ≤ _; omega
  · obtain ⟨rfl, rfl⟩ := y
    refine ⟨rfl, ?_⟩
    have hi' : i < n := by omega
    unfold rngItems
    rw [List.getElem?_map, List.getElem?_range hi']; rfl
/-! ### comprehensions -/
section
variable {K : PySem.W.Frag} {σ : L2.St} {H : Hp} {Q : VK} {J : It} {src : List V} {G : Hp → Prop} {tt : TT} {te : TE} {vs : List Nat} {g : TG} {j : Nat}
def LcD (J : It) (g : TG) (tt : TT) (te : TE) (vs : List Nat) (σ : L2.St) (H1 : Hp) (Q : VK) : Prop := ∀ D, H1 D = none → ∃ W : Nat → Nat → Hp → Prop, (∃ m, W 0 m (upd H1 D (.lst []))) ∧ ∀ i m H, W i m H →
  (J.stop i H ∧ Q (.ref D) H) ∨ (J.go i H ∧ ∃ Nx : Hp → Prop, (∀ H', Nx H' → ∃ m', m' < m ∧ W (i + 1) m' H') ∧ ∀ x H', J.yld i H x H' → g x (wipe σ vs) H' fun σ2 H2 => wipe σ2 vs = wipe σ vs ∧ tt σ2 H2 fun b H3 =>
    if b = true then te σ2 H3 fun y H4 => ∃ acc, H4 D = some (.lst acc) ∧ acc.length < sizeLine ∧ Nx (upd H4 D (.lst (acc ++ [y]))) else Nx H3)
theorem w_lc {wi : TI} (h : wi σ H fun J H1 => LcD J g tt te vs σ H1 Q) : tLc wi g tt te vs σ H Q := h
theorem w_iStr {te : TE} {R : It → Hp → Prop} (h : te σ H fun v H1 => ∃ x, v = .str x ∧ R (Its x) H1) : iStr te σ H R := h
theorem w_str {z : Str} {R : Str → Prop} (h : R z) : ∃ x, V.str z = .str x ∧ R x := ⟨z, rfl, h⟩
theorem w_iList {te : TE} {R : It → Hp → Prop} (h : te σ H fun x H1 => ∃ a, x = .ref a ∧ (∃ xs, SqL K H1 a xs) ∧ R (Itl K a) H1) : iList K te σ H R := h
theorem w_refL {p : Addr} {xs : List V} {R : Addr → Prop} (hp : H p = some (.lst xs)) (h : R p) : ∃ a, V.ref p = .ref a ∧ (∃ xs, SqL K H a xs) ∧ R a := ⟨p, rfl, ⟨xs, .inl (.inl hp)⟩, h⟩
theorem w_refQ {p : Addr} {xs : List V} {R : Addr → Prop} (hp : SqL K H p xs) (h : R p) : ∃ a, V.ref p = .ref a ∧ (∃ xs, SqL K H a xs) ∧ R a := ⟨p, rfl, ⟨xs, hp⟩, h⟩
theorem w_iRng1 {a : TA} {R : It → Hp → Prop} (h : a σ H fun vs H1 => ∃ j : Int, vs = [.int j] ∧ -(2 ^ 62) ≤ j ∧ j < 2 ^ 62 ∧ R (Itr 0 j.toNat) H1) : iRng1 a σ H R := h
theorem w_rng1 {n : Int} {R : Int → Prop} (h1 : -4611686018427387904 ≤ n) (h2 : n < 4611686018427387904) (h : R n) : ∃ j : Int, [V.int n] = [.int j] ∧ -(2 ^ 62) ≤ j ∧ j < 2 ^ 62 ∧ R j := ⟨n, rfl, h1, h2, h⟩
/-- a comprehension by an invariant over the turn, the list so far and the heap -/
def LcI (D : Addr) (Pv : Nat → List V → Hp → Prop) (i : Nat) (H : Hp) : Prop := ∃ acc, H D = some (.lst acc) ∧ acc.length ≤ i ∧ Pv i acc H
def LcPut (D : Addr) (Pv : Nat → List V → Hp → Prop) (i : Nat) (y : V) (H : Hp) : Prop := ∃ acc, H D = some (.lst acc) ∧ acc.length < sizeLine ∧ LcI D Pv (i + 1) (upd H D (.lst (acc ++ [y])))
theorem LcPut.mk {D : Addr} {Pv : Nat → List V → Hp → Prop} {i : Nat} {y : V} {acc : List V} (e : H D = some (.lst acc)) (hl : acc.length ≤ i) (hz : i ≤ 1000000) (h : ∀ H', Keep D H H' → H' D = some (.lst (acc ++ [y])) → Pv (i + 1) (acc ++ [y]) H') : LcPut D Pv i y H :=
  ⟨acc, e, Nat.lt_of_le_of_lt (Nat.le_trans hl hz) (by decide), acc ++ [y], upd_same, by simp; exact hl, h _ (fun a u n e => by rw [upd_ne n]; exact e) upd_same⟩
theorem lc_rel (w : Walk J src.length G (YAt src)) (Pv : Addr → Nat → List V → Hp → Prop) (h0 : ∀ D H', H D = none → Same H H' → H' D = some (.lst []) → Pv D 0 [] H')
    (hG : ∀ D i acc H1, i ≤ src.length → H1 D = some (.lst acc) → Pv D i acc H1 → G H1) (hw : ∀ x, wipe ((wipe σ vs).set j (some x)) vs = wipe σ vs)
    (hs : ∀ D i x acc H1, H D = none → i < src.length → src[i]? = some x → H1 D = some (.lst acc) → acc.length ≤ i → Pv D i acc H1 → tt ((wipe σ vs).set j (some x)) H1 fun b H3 =>
      if b = true then te ((wipe σ vs).set j (some x)) H3 fun y H4 => LcPut D (Pv D) i y H4 else LcI D (Pv D) (i + 1) H3)
    (hd : ∀ D acc H', H D = none → H' D = some (.lst acc) → acc.length ≤ src.length → Pv D src.length acc H' → Q (.ref D) H') : LcD J (gName j) tt te vs σ H Q := by
  intro D hD
  refine lc_it w (LcI D (Pv D)) ⟨[], upd_same, Nat.le_refl _, h0 D _ hD (same_upd hD) upd_same⟩ (fun i H1 hi ⟨acc, e, _, p⟩ => hG D i acc H1 hi e p) ?_ (fun H' ⟨acc, e, hl, p⟩ => hd D acc H' hD e hl p)
  rintro i x H1 H2 hi ⟨acc, e, hl, p⟩ ⟨rfl, hx⟩
  exact ⟨hw x, hs D i x acc H2 hD hi hx e hl p⟩
/-- a comprehension whose tests and items are told by functions -/
theorem lc_pure (w : Walk J src.length G (YAt src)) (p : V → Bool) (f : V → V) (hz : src.length ≤ 1000000) (hG : ∀ H', Same H H' → G H') (hw : ∀ x, wipe ((wipe σ vs).set j (some x)) vs = wipe σ vs)
    (ht : ∀ x, x ∈ src → ∀ H1 (R : Bool → Hp → Prop), Same H H1 → (∀ H2, Same H1 H2 → R (p x) H2) → tt ((wipe σ vs).set j (some x)) H1 R)
    (he : ∀ x, x ∈ src → p x = true → ∀ H1 (R : VK), Same H H1 → (∀ H2, Same H1 H2 → R (f x) H2) → te ((wipe σ vs).set j (some x)) H1 R)
    (hd : ∀ D H', H D = none → Same H H' → H' D = some (.lst ((src.filter p).map f)) → Q (.ref D) H') : LcD J (gName j) tt te vs σ H Q := by
  intro D hD
  refine lc_it w (fun i H1 => Same H H1 ∧ H1 D = some (.lst (((src.take i).filter p).map f))) ⟨same_upd hD, upd_same⟩ (fun i H1 hi q => hG H1 q.1) ?_ (fun H' q => ?_)
  · rintro i x H1 H2 hi ⟨s1, e1⟩ ⟨rfl, hx⟩
    have hm : x ∈ src := List.mem_of_getElem? hx
    have hz2 : (((src.take i).filter p).map f).length < sizeLine := by
      rw [List.length_map]
      have := List.length_filter_le p (src.take i)
      have : (src.take i).length ≤ i := by rw [List.length_take]; omega
      exact Nat.lt_of_le_of_lt (by omega : _ ≤ 1000000) (by decide)
    have tk : src.take (i + 1) = src.take i ++ [x] := by rw [List.take_add_one, hx]; rfl
    refine ⟨hw x, ht x hm H2 _ s1 fun H3 s3 => ?_⟩
    cases hp : p x with
    | true =>
      rw [if_pos rfl]
      refine he x hm hp H3 _ (s1.trans s3) fun H4 s4 => ⟨_, s4 _ _ (s3 _ _ e1), hz2, (Same.mut ((s1.trans s3).trans s4) hD), ?_⟩
      rw [upd_same, tk, List.filter_append, List.map_append]
      simp [hp]
    | false =>
      rw [if_neg Bool.false_ne_true]
      refine ⟨s1.trans s3, ?_⟩
      rw [s3 _ _ e1, tk, List.filter_append, List.map_append]
      simp [hp]
  · rw [List.take_length] at q
    exact hd D H' hD q.1 q.2
theorem w_yes {R : Bool → Hp → Prop} (h : R true H) : tYes σ H R := h
theorem yes_t {x : V} : ∀ H1 (R : Bool → Hp → Prop), Same H H1 → (∀ H2, Same H1 H2 → R ((fun _ : V => true) x) H2) → tYes σ H1 R := fun H1 R _ h => h H1 (Same.refl H1)
end
/-! ### isinstance of plain things -/
section
variable {K : PySem.W.Frag} {H : Hp} {Q : VK} {T : String} {b : Bool}
theorem v_isiN  (k : kitB "NoneType" T = some b) (h : Q (.bl b) H) : rIsi K [.non, .ty T] H Q := v_isi (.base (TyOf.non)) (kit_ty k) h
theorem v_isiB {z : Bool} (k : kitB "bool" T = some b) (h : Q (.bl b) H) : rIsi K [.bl z, .ty T] H Q := v_isi (.base (TyOf.bl z)) (kit_ty k) h
theorem v_isiI {z : Int} (k : kitB "int" T = some b) (h : Q (.bl b) H) : rIsi K [.int z, .ty T] H Q := v_isi (.base (TyOf.int z)) (kit_ty k) h
theorem v_isiS {z : Str} (k : kitB "str" T = some b) (h : Q (.bl b) H) : rIsi K [.str z, .ty T] H Q := v_isi (.base (TyOf.str z)) (kit_ty k) h
theorem v_isiL {a : Addr} {xs : List V} (e : H a = some (.lst xs)) (k : kitB "list" T = some b) (h : Q (.bl b) H) : rIsi K [.ref a, .ty T] H Q := v_isi (.base (TyOf.lst e)) (kit_ty k) h
theorem v_isiU {a : Addr} {xs : List V} (e : H a = some (.tup xs)) (k : kitB "tuple" T = some b) (h : Q (.bl b) H) : rIsi K [.ref a, .ty T] H Q := v_isi (.base (TyOf.tup e)) (kit_ty k) h
theorem v_isiD {a : Addr} {kvs : List (Key × V)} (e : H a = some (.dK kvs)) (k : kitB "dict" T = some b) (h : Q (.bl b) H) : rIsi K [.ref a, .ty T] H Q := v_isi (.base (TyOf.dK e)) (kit_ty k) h
theorem kb_NoneType_int : kitB "NoneType" "int" = some false := by decide +kernel
theorem kb_NoneType_bool : kitB "NoneType" "bool" = some false := by decide +kernel
theorem kb_NoneType_str : kitB "NoneType" "str" = some false := by decide +kernel
theorem kb_NoneType_list : kitB "NoneType" "list" = some false := by decide +kernel
theorem kb_NoneType_tuple : kitB "NoneType" "tuple" = some false := by decide +kernel
theorem kb_NoneType_dict : kitB "NoneType" "dict" = some false := by decide +kernel
theorem kb_bool_int : kitB "bool" "int" = some true := by decide +kernel
theorem kb_bool_bool : kitB "bool" "bool" = some true := by decide +kernel
theorem kb_bool_str : kitB "bool" "str" = some false := by decide +kernel
theorem kb_bool_list : kitB "bool" "list" = some false := by decide +kernel
theorem kb_bool_tuple : kitB "bool" "tuple" = some false := by decide +kernel
theorem kb_bool_dict : kitB "bool" "dict" = some false := by decide +kernel
theorem kb_int_int : kitB "int" "int" = some true := by decide +kernel
theorem kb_int_bool : kitB "int" "bool" = some false := by decide +kernel
theorem kb_int_str : kitB "int" "str" = some false := by decide +kernel
theorem kb_int_list : kitB "int" "list" = some false := by decide +kernel
theorem kb_int_tuple : kitB "int" "tuple" = some false := by decide +kernel
theorem kb_int_dict : kitB "int" "dict" = some false := by decide +kernel
theorem kb_str_int : kitB "str" "int" = some false := by decide +kernel
theorem kb_str_bool : kitB "str" "bool" = some false := by decide +kernel
theorem kb_str_str : kitB "str" "str" = some true := by decide +kernel
theorem kb_str_list : kitB "str" "list" = some false := by decide +kernel
theorem kb_str_tuple : kitB "str" "tuple" = some false := by decide +kernel
theorem kb_str_dict : kitB "str" "dict" = some false := by decide +kernel
theorem kb_list_int : kitB "list" "int" = some false := by decide +kernel
theorem kb_list_bool : kitB "list" "bool" = some false := by decide +kernel
theorem kb_list_str : kitB "list" "str" = some false := by decide +kernel
theorem kb_list_list : kitB "list" "list" = some true := by decide +kernel
theorem kb_list_tuple : kitB "list" "tuple" = some false := by decide +kernel
theorem kb_list_dict : kitB "list" "dict" = some false := by decide +kernel
theorem kb_tuple_int : kitB "tuple" "int" = some false := by decide +kernel
theorem kb_tuple_bool : kitB "tuple" "bool" = some false := by decide +kernel
theorem kb_tuple_str : kitB "tuple" "str" = some false := by decide +kernel
theorem kb_tuple_list : kitB "tuple" "list" = some false := by decide +kernel
theorem kb_tuple_tuple : kitB "tuple" "tuple" = some true := by decide +kernel
theorem kb_tuple_dict : kitB "tuple" "dict" = some false := by decide +kernel
theorem kb_dict_int : kitB "dict" "int" = some false := by decide +kernel
theorem kb_dict_bool : kitB "dict" "bool" = some false := by decide +kernel
theorem kb_dict_str : kitB "dict" "str" = some false := by decide +kernel
theorem kb_dict_list : kitB "dict" "list" = some false := by decide +kernel
theorem kb_dict_tuple : kitB "dict" "tuple" = some false := by decide +kernel
theorem kb_dict_dict : kitB "dict" "dict" = some true := by decide +kernel
end
/-! ### loops -/
section
variable {K : PySem.W.Frag} {σ : L2.St} {H : Hp} {D : Ends} {J : It} {src : List V} {G : Hp → Prop} {tb : TS} {g : TG} {j : Nat}
def ForD (J : It) (g : TG) (tb : TS) (D : Ends) (σ : L2.St) (H1 : Hp) : Prop := ∃ W : Nat → Nat → L2.St → Hp → Prop, (∃ m, W 0 m σ H1) ∧ ∀ i m σ H, W i m σ H →
  (J.stop i H ∧ D.nx σ H) ∨ (J.go i H ∧ ∃ N : L2.St → Hp → Prop, (∀ σ' H', N σ' H' → ∃ m', m' < m ∧ W (i + 1) m' σ' H') ∧ ∀ x H', J.yld i H x H' → g x σ H' fun σ2 H2 => tb { D with nx := N, ct := N, bk := D.nx } σ2 H2)
theorem w_for {wi : TI} (h : wi σ H fun J H1 => ForD J g tb D σ H1) : tFor wi g tb D σ H := h
theorem for_rel (w : Walk J src.length G (YAt src)) (Pv : Nat → L2.St → Hp → Prop) (h0 : Pv 0 σ H) (hG : ∀ i σ H, i ≤ src.length → Pv i σ H → G H)
    (hs : ∀ i x σ H, i < src.length → src[i]? = some x → Pv i σ H → tb { D with nx := Pv (i + 1), ct := Pv (i + 1), bk := D.nx } (σ.set j (some x)) H) (hd : ∀ σ H, Pv src.length σ H → D.nx σ H) : ForD J (gName j) tb D σ H :=
  for_it w Pv h0 hG (fun i x σ H H' hi p y => by obtain ⟨rfl, hx⟩ := y; exact hs i x σ _ hi hx p) hd
end
end Hk

namespace Hk
open PySem PySem.Spec PyProof.Rows L2 He
/-! ### signs of texts -/
def Cs (P : Nat → Prop) (z : Str) : Prop := ∀ c, c ∈ z.cps.toList → P c
theorem Cs.app {P : Nat → Prop} {x y : Str} (hx : Cs P x) (hy : Cs P y) : Cs P (x ++ y) := by
  intro c hc
  have e : (x ++ y).cps.toList = x.cps.toList ++ y.cps.toList := by show (x.cps ++ y.cps).toList = _; simp
  rw [e] at hc
  rcases List.mem_append.mp hc with h | h
  · exact hx c h
  · exact hy c h
theorem Cs.cut {P : Nat → Prop} {z : Str} (h : Cs P z) (lo hi : Option Int) : Cs P (cutS z lo hi) := by
  intro c hc
  have e : (cutS z lo hi).cps.toList = (z.cps.toList.drop (HT.sIx z.length 0 lo)).take (HT.sIx z.length z.length hi - HT.sIx z.length 0 lo) := by unfold cutS; simp
  rw [e] at hc
  exact h c (List.mem_of_mem_drop (List.mem_of_mem_take hc))
theorem Cs.one {P : Nat → Prop} {c : Nat} (h : P c) : Cs P ⟨#[c]⟩ := by
  intro d hd
  have e : d = c := by simpa using hd
  rw [e]; exact h
theorem Cs.imp {P R : Nat → Prop} {z : Str} (h : Cs P z) (i : ∀ c, P c → R c) : Cs R z := fun c hc => i c (h c hc)
theorem Cs.strOk {z : Str} (h : Cs (· < 0x110000) z) : PyData.strOk z = true := by
  unfold PyData.strOk
  rw [Array.all_eq_true']
  intro c hc
  exact decide_eq_true (h c (by simpa using hc))
theorem cs_ofString (s : String) : Cs (· < 0x110000) (Str.ofString s) := by
  rw [Str.ofString_eq_toList]
  intro c hc
  have hc' : c ∈ s.toList.map Char.toNat := by simpa using hc
  obtain ⟨ch, _, rfl⟩ := List.mem_map.mp hc'
  have h := ch.valid
  show ch.val.toNat < 0x110000
  rcases h with h | h
  · have : ch.val.toNat < 0xd800 := h
    omega
  · have : ch.val.toNat < 0x110000 := h.2
    omega
theorem cs_join {P : Nat → Prop} {sep : Str} (hs : Cs P sep) : ∀ ys : List Str, (∀ y, y ∈ ys → Cs P y) → Cs P (Str.join sep ys)
  | [], _ => fun c hc => by simp [Str.join, Str.empty] at hc
  | [x], h => h x (by simp)
  | x :: y :: r, h => by
    have ih := cs_join hs (y :: r) (fun z hz => h z (by simp at hz ⊢; exact .inr hz))
    exact Cs.app (Cs.app (h x (by simp)) hs) ih
theorem join0_len : ∀ ys : List Str, (Str.join "" ys).length = (ys.map (·.length)).sum
  | [] => rfl
  | [x] => by simp [Str.join]
  | x :: y :: r => by
    have ih := join0_len (y :: r)
    show (x ++ "" ++ Str.join "" (y :: r)).length = _
    rw [str_app, str_app, ih]
    simp
    rfl
/-! ### == of flat lists -/
def flatD : V → PyData
  | .bl b => .bool b
  | .int i => .int i
  | .str z => .str z
  | _ => .none
def okD : V → Prop
  | .non => True
  | .bl _ => True
  | .int _ => True
  | .str z => Cs (· < 0x110000) z
  | _ => False
theorem dp_flat {K : PySem.W.Frag} {H : Hp} {x : V} (h : okD x) : Dp K H x (flatD x) := by
  cases x with
  | non => exact .non
  | bl b => exact .bl b
  | int i => exact .int i
  | str z => exact .str z
  | _ => exact h.elim
theorem dpAll_flat {K : PySem.W.Frag} {H : Hp} : ∀ {xs : List V}, (∀ x, x ∈ xs → okD x) → DpAll K H xs (xs.map flatD)
  | [], _ => .nil
  | x :: xs, h => .cons (dp_flat (h x (by simp))) (dpAll_flat fun y hy => h y (by simp [hy]))
theorem can_flat {x : V} (h : okD x) : (flatD x).canLay0 = true := by
  cases x with
  | non => rfl
  | bl b => rfl
  | int i => rfl
  | str z => show PyData.strOk z = true; exact Cs.strOk h
  | _ => exact h.elim
theorem canAll_flat : ∀ {xs : List V}, (∀ x, x ∈ xs → okD x) → PyData.canLayAll0 (xs.map flatD) = true
  | [], _ => rfl
  | x :: xs, h => by
    show ((flatD x).canLay0 && PyData.canLayAll0 (xs.map flatD)) = true
    rw [can_flat (h x (by simp)), canAll_flat fun y hy => h y (by simp [hy])]
    rfl
theorem depth_flat (x : V) : (flatD x).depth ≤ 1 := by
  cases x <;> simp [flatD, PyData.depth]
theorem depthAll_flat : ∀ xs : List V, PyData.depthAll (xs.map flatD) ≤ 1
  | [] => by simp [PyData.depthAll]
  | x :: xs => by
    have h1 := depth_flat x
    have h2 := depthAll_flat xs
    show PyData.depthAll (flatD x :: xs.map flatD) ≤ 1
    simp only [PyData.depthAll]
    omega
theorem shaped_flat {xs : List V} (h : ∀ x, x ∈ xs → okD x) : SeqAt.shaped (.list (xs.map flatD)) = true := by
  unfold SeqAt.shaped
  have h2 := depthAll_flat xs
  have h3 : (PyData.list (xs.map flatD)).canLay0 = true := canAll_flat h
  rw [h3]
  have h4 : (PyData.list (xs.map flatD)).depth ≤ 64 := by simp only [PyData.depth]; omega
  simp [h4]
theorem v_eqL {K : PySem.W.Frag} {H : Hp} {Q : VK} {p q : Addr} {xs ys : List V} (hp : H p = some (.lst xs)) (hq : H q = some (.lst ys)) (hx : ∀ x, x ∈ xs → okD x) (hy : ∀ x, x ∈ ys → okD x)
    (h : Q (.bl (PyData.eqvAll (xs.map flatD) (ys.map flatD))) H) : rEqU K (.ref p) (.ref q) H Q :=
  Or.inr ⟨.list (xs.map flatD), .list (ys.map flatD), .lst (.inl (.inl hp)) (dpAll_flat hx), .lst (.inl (.inl hq)) (dpAll_flat hy), shaped_flat hx, shaped_flat hy, h⟩
theorem eqv_flat (x : V) (h : okD x) : PyData.eqv (flatD x) (flatD x) = true := by
  cases x <;> simp [flatD, PyData.eqv]
theorem eqvAll_flat : ∀ {xs : List V}, (∀ x, x ∈ xs → okD x) → PyData.eqvAll (xs.map flatD) (xs.map flatD) = true
  | [], _ => rfl
  | x :: xs, h => by
    show (PyData.eqv (flatD x) (flatD x) && PyData.eqvAll (xs.map flatD) (xs.map flatD)) = true
    rw [eqv_flat x (h x (by simp)), eqvAll_flat fun y hy => h y (by simp [hy])]
    rfl
theorem eqvAll_nil (xs : List V) : PyData.eqvAll (xs.map flatD) (([] : List V).map flatD) = xs.isEmpty := by
  cases xs <;> rfl
end Hk

namespace Hk
open PySem PySem.Spec PyProof.Rows L2 He
abbrev FnP (K : PySem.W.Frag) (x : Str) (st : Stmt) (f : Addr) (fd : FuncData) : Prop := FunD K x x (defArgs st) (defBody st) (defScope st) [] [] f fd
section
variable {P : Program} {w : World} {K : PySem.W.Frag} {mg : Str → Option Value} {base : Heap}
theorem mkF {x : Str} {st : Stmt} {N ps : List Str} {k : Nat} {sp : Sp} (F : ∃ fd, FnP K x st (ga K x) fd) (g : mg x = some (.ref (ga K x))) (sc : FnScope N ps (defScope st)) (len : ∀ vs H Q E, sp vs H Q E → vs.length = ps.length)
    (hb : ∀ (kV doc pm : Value) (an : Option Addr) (cdv ct : Value) (us : List Value), us.length = ps.length → bindArgs (PySem.W.fnOf x x (defArgs st) (defBody st) (defScope st) .none kV doc pm an cdv ct) ⟨us, []⟩ = pure (ps.zip us))
    (hbody : ∀ (cdv : Value) (A : Around) (outer : List Env) (s : Shared) (H : Hp) (vs : List V) (Q : VK) (E : XK), Room k (A.deeper (envOfC x (defScope st) s.heap.objs.size (ga K x) cdv)) → sp vs H Q E →
      ∃ t, PSs (cxOf CX0 P w K mg base N x (defScope st) (ga K x) cdv A outer s H E).nox (defBody st) t ∧ t { nx := fun _ H' => Q .non H', rt := Q } (start N vs) H) : FOk P w K mg base CX0 (k + 1) x ps sp := by
  obtain ⟨fd, F⟩ := F
  refine ⟨g, F.kp, fd, F.bindsN hb, F.ok sc len fun cdv A outer s H vs Q E hr h => ?_⟩
  obtain ⟨t, h1, h2⟩ := hbody cdv A outer s H vs Q E hr h
  exact ⟨t, h1.nox, h2⟩
end
end Hk

namespace Hk
open PySem PySem.Spec PyProof.Rows L2 He
def t_is_whole (K : PySem.W.Frag)  : TS :=
  (tRet (tAndV (tCB (rIsi K) (tCons (tVar 0) (tCons (tC (.ty "int")) tNil))) (tNotV (tCB (rIsi K) (tCons (tVar 0) (tCons (tC (.ty "bool")) tNil))))))

def t_is_name (K : PySem.W.Frag)  : TS :=
  (tSeq (tIfS (tOr (tNot (tB (tCB (rIsi K) (tCons (tVar 0) (tCons (tC (.ty "str")) tNil))))) (tNot (tTest (tChain (rLeI) (rLeI) (tC (.int 1)) (tCB (rLenU K) (tCons (tVar 0) tNil)) (tC (.int 8)))))) (tRet (tC (.bl false))) tNext)
    (tRet (tCB (rAll K) (tCons (tLc (iStr (tVar 0)) (gName 1) tYes (tOp (rInU K) (tVar 1) (tC (.str "abcdefghijklmnopqrstuvwxyz"))) [1]) tNil))))

def t_is_number (K : PySem.W.Frag) (sp_is_whole : Sp) : TS :=
  (tRet (tAndV (tCall sp_is_whole [] E0 (tCons (tVar 0) tNil)) (tChain (rLtU) (rLtU) (tUn rNeg (tC (.int 1000000000000000000))) (tVar 0) (tC (.int 1000000000000000000)))))

def t_is_text (K : PySem.W.Frag)  : TS :=
  (tSeq (tIfS (tOr (tNot (tB (tCB (rIsi K) (tCons (tVar 0) (tCons (tC (.ty "str")) tNil))))) (tTest (tOp (rGtI) (tCB (rLenU K) (tCons (tVar 0) tNil)) (tC (.int 40))))) (tRet (tC (.bl false))) tNext)
    (tRet (tCB (rAll K) (tCons (tLc (iStr (tVar 0)) (gName 1) tYes (tOp (rInU K) (tVar 1) (tC (.str " !\"#$&'()*+,-./0123456789:;<=>?@ABCDEFGHIJKLMNOPQRSTUVWXYZ[\\]^_`abcdefghijklmnopqrstuvwxyz{|}~"))) [1]) tNil))))

def t__law_cell (K : PySem.W.Frag)  : TS :=
  (tSeq (tIfS (tTest (tOp (rLtU) (tVar 1) (tCB (rLenU K) (tCons (tVar 0) tNil)))) (tRet (tOp (rIxU K) (tVar 0) (tVar 1))) tNext)
    (tRet (tOp (rAdd K) (tOp (rMul K) (tC (.int 7919)) (tVar 1)) (tC (.int 31)))))

def t__law_box (K : PySem.W.Frag)  : TS :=
  (tRet (tLst (tCons (tCB (rMax2) (tCons (tC (.int 0)) (tCons (tOp (rSub) (tVar 0) (tOp (rPow) (tC (.int 10)) (tC (.int 18)))) tNil))) (tCons (tOp (rMod) (tVar 0) (tC (.int 2147483647))) (tCons (tC (.int 0)) tNil)))))

def t__law_take (K : PySem.W.Frag)  : TS :=
  (tSeq (tIfS (tTest (tOp (rGtI) (tOp (rIxU K) (tVar 0) (tC (.int 0))) (tC (.int 0)))) (tSeq (tAsg (tOp (rMod) (tOp (rIxU K) (tVar 0) (tC (.int 0))) (tVar 1)) (gName 2))
    (tSeq (tAsg (tOp (rDiv) (tOp (rIxU K) (tVar 0) (tC (.int 0))) (tVar 1)) (gSub (tVar 0) (tC (.int 0)) rSetL))
    (tRet (tVar 2)))) tNext)
    (tSeq (tAsg (tOp (rAdd K) (tOp (rIxU K) (tVar 0) (tC (.int 2))) (tC (.int 1))) (gSub (tVar 0) (tC (.int 2)) rSetL))
    (tSeq (tAsg (tOp (rMod) (tOp (rPow) (tOp (rAdd K) (tOp (rAdd K) (tOp (rIxU K) (tVar 0) (tC (.int 1))) (tOp (rMul K) (tC (.int 7919)) (tOp (rIxU K) (tVar 0) (tC (.int 2))))) (tC (.int 17))) (tC (.int 5))) (tC (.int 2147483629))) (gName 3))
    (tSeq (tAsg (tOp (rMod) (tOp (rPow) (tOp (rAdd K) (tOp (rMul K) (tVar 3) (tOp (rAdd K) (tC (.int 16807)) (tOp (rIxU K) (tVar 0) (tC (.int 2))))) (tC (.int 11))) (tC (.int 3))) (tC (.int 2147483587))) (gName 3))
    (tRet (tOp (rMod) (tOp (rDiv) (tVar 3) (tC (.int 8))) (tVar 1)))))))

def t__law_signs (K : PySem.W.Frag)  : TS :=
  (tRet (tC (.str " !\"#$&'()*+,-./0123456789:;<=>?@ABCDEFGHIJKLMNOPQRSTUVWXYZ[\\]^_`abcdefghijklmnopqrstuvwxyz{|}~")))

def t__law_spoilt (K : PySem.W.Frag) (sp__law_take : Sp) (sp__law_signs : Sp) : TS :=
  (tSeq (tAsg (tCall sp__law_take [] E0 (tCons (tVar 0) (tCons (tC (.int 4)) tNil))) (gName 2))
    (tSeq (tAsg (tCall sp__law_take [] E0 (tCons (tVar 0) (tCons (tOp (rAdd K) (tCB (rLenU K) (tCons (tVar 1) tNil)) (tC (.int 1))) tNil))) (gName 3))
    (tSeq (tAsg (tOp (rAdd K) (tCall sp__law_signs [] E0 tNil) (tC (.str "\n"))) (gName 4))
    (tSeq (tAsg (tOp (rIxU K) (tVar 4) (tCall sp__law_take [] E0 (tCons (tVar 0) (tCons (tC (.int 95)) tNil)))) (gName 5))
    (tSeq (tIfS (tTest (tOp (rEqU K) (tVar 2) (tC (.int 0)))) (tRet (tVar 1)) tNext)
    (tSeq (tIfS (tTest (tOp (rEqU K) (tVar 2) (tC (.int 1)))) (tRet (tOp (rAdd K) (tOp (rAdd K) (tSl (rSlU K) (tVar 1) tNoPart (tPart (tVar 3))) (tVar 5)) (tSl (rSlU K) (tVar 1) (tPart (tOp (rAdd K) (tVar 3) (tC (.int 1)))) tNoPart))) tNext)
    (tRet (tOp (rAdd K) (tOp (rAdd K) (tSl (rSlU K) (tVar 1) tNoPart (tPart (tVar 3))) (tVar 5)) (tSl (rSlU K) (tVar 1) (tPart (tVar 3)) tNoPart)))))))))

def t__law_figures (K : PySem.W.Frag) (sp__law_take : Sp) : TS :=
  (tSeq (tAsg (tOp (rAdd K) (tC (.int 1)) (tCall sp__law_take [] E0 (tCons (tVar 0) (tCons (tC (.int 19)) tNil)))) (gName 1))
    (tSeq (tAsg (tC (.int 0)) (gName 2))
    (tSeq (tFor (iRng1 (tCons (tVar 1) tNil)) (gName 3) (tAsg (tOp (rAdd K) (tOp (rMul K) (tVar 2) (tC (.int 10))) (tCall sp__law_take [] E0 (tCons (tVar 0) (tCons (tC (.int 10)) tNil)))) (gName 2)))
    (tRet (tOp (rMul K) (tVar 2) (tOp (rIxU K) (tLst (tCons (tC (.int 1)) (tCons (tUn rNeg (tC (.int 1))) tNil))) (tCall sp__law_take [] E0 (tCons (tVar 0) (tCons (tC (.int 2)) tNil)))))))))

def t__law_odd (K : PySem.W.Frag) (sp__law_take : Sp) : TS :=
  (tSeq (tAsg (tLst (tCons (tVar 1) tNil)) (gName 2))
    (tSeq (tFor (iRng1 (tCons (tC (.int 11)) tNil)) (gName 3) (tAsg (tLst (tCons (tVar 2) tNil)) (gName 2)))
    (tSeq (tAsg (tOp (rAdd K) (tOp (rMul K) (tOp (rPow) (tC (.int 10)) (tC (.int 50))) (tOp (rPow) (tC (.int 10)) (tC (.int 49)))) (tCall sp__law_take [] E0 (tCons (tVar 0) (tCons (tC (.int 99)) tNil)))) (gName 4))
    (tSeq (tAsg (tLst (tCons (tC .non) (tCons (tC (.bl true)) (tCons (tC (.bl false)) (tCons (tLst (tCons (tVar 1) tNil)) (tCons (tTup (tCons (tVar 1) tNil)) (tCons (tDisp (((tVar 1), (tC (.int 1))) :: [])) (tCons (tLst tNil) (tCons (tTup tNil) (tCons tDNewK (tCons (tVar 4) (tCons (tOp (rSub) (tC (.int 0)) (tVar 4)) (tCons (tVar 2) (tCons (tM0 rUpper (tVar 1)) (tCons (tLst (tCons (tC (.int 7)) tNil)) tNil))))))))))))))) (gName 5))
    (tRet (tOp (rIxU K) (tVar 5) (tCall sp__law_take [] E0 (tCons (tVar 0) (tCons (tC (.int 14)) tNil)))))))))

def t__law_things (K : PySem.W.Frag) (sp__law_signs : Sp) (sp__law_take : Sp) (sp__law_figures : Sp) (sp__law_spoilt : Sp) (sp__law_odd : Sp) : TS :=
  (tSeq (tAsg (tC (.str "abcdefghijklmnopqrstuvwxyz")) (gName 1))
    (tSeq (tAsg (tCall sp__law_signs [] E0 tNil) (gName 2))
    (tSeq (tAsg (tCall sp__law_take [] E0 (tCons (tVar 0) (tCons (tC (.int 26)) tNil))) (gName 3))
    (tSeq (tAsg (tCall sp__law_take [] E0 (tCons (tVar 0) (tCons (tC (.int 26)) tNil))) (gName 4))
    (tSeq (tAsg (tM1 (rJoin K) (tC (.str "")) (tLc (iRng1 (tCons (tCall sp__law_take [] E0 (tCons (tVar 0) (tCons (tC (.int 10)) tNil))) tNil)) (gName 6) tYes (tOp (rIxU K) (tVar 1) (tOp (rMod) (tOp (rAdd K) (tVar 3) (tOp (rMul K) (tVar 4) (tVar 6))) (tC (.int 26)))) [6])) (gName 5))
    (tSeq (tAsg (tCall sp__law_take [] E0 (tCons (tVar 0) (tCons (tC (.int 94)) tNil))) (gName 3))
    (tSeq (tAsg (tOp (rIxU K) (tLst (tCons (tCall sp__law_take [] E0 (tCons (tVar 0) (tCons (tC (.int 43)) tNil))) (tCons (tOp (rAdd K) (tC (.int 39)) (tCall sp__law_take [] E0 (tCons (tVar 0) (tCons (tC (.int 3)) tNil)))) tNil))) (tCall sp__law_take [] E0 (tCons (tVar 0) (tCons (tC (.int 2)) tNil)))) (gName 7))
    (tSeq (tAsg (tM1 (rJoin K) (tC (.str "")) (tLc (iRng1 (tCons (tVar 7) tNil)) (gName 6) tYes (tOp (rIxU K) (tVar 2) (tOp (rMod) (tOp (rAdd K) (tVar 3) (tOp (rMul K) (tVar 4) (tVar 6))) (tC (.int 94)))) [6])) (gName 8))
    (tSeq (tAsg (tOp (rIxU K) (tLst (tCons (tOp (rPow) (tC (.int 10)) (tC (.int 18))) (tCons (tOp (rSub) (tOp (rPow) (tC (.int 10)) (tC (.int 18))) (tC (.int 1))) (tCons (tOp (rSub) (tC (.int 0)) (tOp (rPow) (tC (.int 10)) (tC (.int 18)))) (tCons (tOp (rSub) (tC (.int 1)) (tOp (rPow) (tC (.int 10)) (tC (.int 18)))) tNil))))) (tCall sp__law_take [] E0 (tCons (tVar 0) (tCons (tC (.int 4)) tNil)))) (gName 9))
    (tSeq (tAsg (tLst (tCons (tVar 5) (tCons (tCall sp__law_spoilt [] E0 (tCons (tVar 0) (tCons (tVar 5) tNil))) (tCons (tVar 8) (tCons (tCall sp__law_spoilt [] E0 (tCons (tVar 0) (tCons (tVar 8) tNil))) (tCons (tCall sp__law_figures [] E0 (tCons (tVar 0) tNil)) (tCons (tVar 9) tNil))))))) (gName 10))
    (tRet (tOp (rAdd K) (tVar 10) (tLst (tCons (tCall sp__law_odd [] E0 (tCons (tVar 0) (tCons (tVar 5) tNil))) (tCons (tCB (rStrU) (tCons (tCall sp__law_figures [] E0 (tCons (tVar 0) tNil)) tNil)) tNil)))))))))))))))

def t__law_all_in (K : PySem.W.Frag)  : TS :=
  (tRet (tOp (rEqU K) (tLc (iStr (tVar 0)) (gName 2) (tTest (tOp (rNotInU K) (tVar 2) (tVar 1))) (tVar 2) [2]) (tLst tNil)))

def t__law_due (K : PySem.W.Frag) (sp__law_all_in : Sp) (sp__law_signs : Sp) : TS :=
  (tSeq (tAsg (tAndV (tCB (rIsi K) (tCons (tVar 0) (tCons (tC (.ty "int")) tNil))) (tNotV (tCB (rIsi K) (tCons (tVar 0) (tCons (tC (.ty "bool")) tNil))))) (gName 1))
    (tSeq (tAsg (tAndV (tVar 1) (tChain (rLtU) (rLtU) (tOp (rSub) (tC (.int 0)) (tOp (rPow) (tC (.int 10)) (tC (.int 18)))) (tVar 0) (tOp (rPow) (tC (.int 10)) (tC (.int 18))))) (gName 2))
    (tSeq (tAsg (tC (.bl false)) (gName 3))
    (tSeq (tAsg (tC (.bl false)) (gName 4))
    (tSeq (tIfS (tB (tCB (rIsi K) (tCons (tVar 0) (tCons (tC (.ty "str")) tNil)))) (tSeq (tAsg (tAndV (tChain (rLtU) (rLtU) (tC (.int 0)) (tCB (rLenU K) (tCons (tVar 0) tNil)) (tC (.int 9))) (tCall sp__law_all_in [] E0 (tCons (tVar 0) (tCons (tC (.str "abcdefghijklmnopqrstuvwxyz")) tNil)))) (gName 3))
    (tAsg (tAndV (tOp (rLtU) (tCB (rLenU K) (tCons (tVar 0) tNil)) (tC (.int 41))) (tCall sp__law_all_in [] E0 (tCons (tVar 0) (tCons (tCall sp__law_signs [] E0 tNil) tNil)))) (gName 4))) tNext)
    (tRet (tLst (tCons (tVar 1) (tCons (tVar 3) (tCons (tVar 2) (tCons (tVar 4) tNil)))))))))))

def t__law_right (K : PySem.W.Frag) (sp_is_text : Sp) (sp_is_number : Sp) (sp_is_name : Sp) (sp_is_whole : Sp) (sp__law_due : Sp) : TS :=
  (tSeq (tAsg (tLst (tCons (tCall sp_is_whole [] E0 (tCons (tVar 0) tNil)) (tCons (tCall sp_is_name [] E0 (tCons (tVar 0) tNil)) (tCons (tCall sp_is_number [] E0 (tCons (tVar 0) tNil)) (tCons (tCall sp_is_text [] E0 (tCons (tVar 0) tNil)) tNil))))) (gName 1))
    (tRet (tAndV (tOp (rEqU K) (tLc (iList K (tVar 1)) (gName 2) (tNot (tB (tCB (rIsi K) (tCons (tVar 2) (tCons (tC (.ty "bool")) tNil))))) (tVar 2) [2]) (tLst tNil)) (tOp (rEqU K) (tVar 1) (tCall sp__law_due [] E0 (tCons (tVar 0) tNil))))))

def t_law (K : PySem.W.Frag) (sp__law_things : Sp) (sp__law_box : Sp) (sp__law_cell : Sp) (sp__law_right : Sp) : TS :=
  (tSeq (tAsg (tLst tNil) (gName 1))
    (tSeq (tFor (iRng1 (tCons (tCB (rMax2) (tCons (tC (.int 2)) (tCons (tCB (rMin2) (tCons (tC (.int 40)) (tCons (tCB (rLenU K) (tCons (tVar 0) tNil)) tNil))) tNil))) tNil)) (gName 2) (tFor (iList K (tCall sp__law_things [] E0 (tCons (tCall sp__law_box [] E0 (tCons (tCall sp__law_cell [] E0 (tCons (tVar 0) (tCons (tVar 2) tNil))) tNil)) tNil))) (gName 3) (tSeq (tIfS (tNot (tB (tCall sp__law_right [] E0 (tCons (tVar 3) tNil)))) (tRet (tC (.bl false))) tNext)
    (tDrop (tBM K "list" rAppend (tVar 1) (tCons (tVar 3) tNil))))))
    (tSeq (tFor (iList K (tVar 1)) (gName 3) (tIfS (tNot (tB (tCall sp__law_right [] E0 (tCons (tVar 3) tNil)))) (tRet (tC (.bl false))) tNext))
    (tRet (tC (.bl true))))))
end Hk

namespace Hk
open PySem PySem.Spec PyProof.Rows L2 He
local macro_rules | `(tactic| wtm_at "hp") => `(tactic| first | with_reducible assumption | ((with_reducible refine' get_same ?ga ?gb); (case ga => with_reducible assumption); (case gb => wtm_at "hp")) | ((with_reducible refine' get_keep ?ga ?gc ?gb); (case ga => with_reducible assumption); (case gc => wtm_at "ne"); (case gb => wtm_at "hp")))
local macro_rules | `(tactic| wtm_at "hs") => `(tactic| first | with_reducible assumption | ((with_reducible refine' get_same ?ga ?gb); (case ga => with_reducible assumption); (case gb => wtm_at "hs")) | ((with_reducible refine' get_keep ?ga ?gc ?gb); (case ga => with_reducible assumption); (case gc => first | with_reducible assumption | (refine Ne.symm ?_; with_reducible assumption)); (case gb => wtm_at "hs")))
local macro_rules | `(tactic| wtm_at "ne") => `(tactic| first | with_reducible assumption | (refine Ne.symm ?_; with_reducible assumption) | ((with_reducible refine' ne_new ?ga ?gb); (case ga => with_reducible assumption); (case gb => wtm_at "hs")) | (refine Ne.symm ?_; (with_reducible refine' ne_new ?ga ?gb); (case ga => with_reducible assumption); (case gb => wtm_at "hs")) | wtm_at "ne2" | (refine Ne.symm ?_; wtm_at "ne2"))
local macro_rules | `(tactic| wtm_at "free") => `(tactic| first | with_reducible assumption | ((with_reducible refine' free_same ?ga ?gb); (case ga => with_reducible assumption); (case gb => wtm_at "same")) | ((with_reducible refine' free_keep ?ga ?gc ?gb); (case ga => with_reducible assumption); (case gb => wtm_at "keep"); (case gc => wtm_at "hp")) | wtm_at "free2")
local macro_rules | `(tactic| wtm_at "side") => `(tactic| first | assumption | decide | omega)
local macro_rules | `(tactic| wtm_at "kb") => `(tactic| first | exact kb_NoneType_int | exact kb_NoneType_bool | exact kb_NoneType_str | exact kb_NoneType_list | exact kb_NoneType_tuple | exact kb_NoneType_dict | exact kb_bool_int | exact kb_bool_bool | exact kb_bool_str | exact kb_bool_list | exact kb_bool_tuple | exact kb_bool_dict | exact kb_int_int | exact kb_int_bool | exact kb_int_str | exact kb_int_list | exact kb_int_tuple | exact kb_int_dict | exact kb_str_int | exact kb_str_bool | exact kb_str_str | exact kb_str_list | exact kb_str_tuple | exact kb_str_dict | exact kb_list_int | exact kb_list_bool | exact kb_list_str | exact kb_list_list | exact kb_list_tuple | exact kb_list_dict | exact kb_tuple_int | exact kb_tuple_bool | exact kb_tuple_str | exact kb_tuple_list | exact kb_tuple_tuple | exact kb_tuple_dict | exact kb_dict_int | exact kb_dict_bool | exact kb_dict_str | exact kb_dict_list | exact kb_dict_tuple | exact kb_dict_dict)
local macro_rules | `(tactic| wtm_at "w") => `(tactic| (first
  | (with_reducible refine w_seq ?_) | (with_reducible refine w_asg ?_) | (with_reducible refine w_name ?_) | (with_reducible refine w_var rfl ?_) | (with_reducible refine w_c ?_)
  | (with_reducible refine w_op ?_) | (with_reducible refine w_ret ?_) | (with_reducible refine w_if ?_) | (with_reducible refine w_test ?_) | (with_reducible refine w_bl ?_) | (with_reducible refine w_cb ?_)
  | (with_reducible refine w_call ?_) | (with_reducible refine w_nil ?_) | (with_reducible refine w_cons ?_) | (with_reducible refine w_drop ?_) | (with_reducible refine w_next ?_)
  | (with_reducible refine w_tB ?_) | (with_reducible refine w_and ?_) | (with_reducible refine w_or ?_) | (with_reducible refine w_not ?_) | (with_reducible refine w_andV ?_) | (with_reducible refine w_orV ?_)
  | (with_reducible refine w_notV ?_) | (with_reducible refine w_chain ?_) | (with_reducible refine w_ifE ?_) | (with_reducible refine w_un ?_) | (with_reducible refine w_sl ?_) | (with_reducible refine w_noPart ?_)
  | (with_reducible refine w_part ?_) | (with_reducible refine w_int ?_) | (with_reducible refine w_sub ?_) | (with_reducible refine w_bm ?_) | (with_reducible refine w_tM0 ?_) | (with_reducible refine w_tM1 ?_) | (with_reducible refine w_strA ?_)
  | ((with_reducible refine w_disp ?_); intro p' H' hp' sm' ep') | (with_reducible refine w_pnil ?_) | ((with_reducible refine w_dend ?s0 ?s1 ?s2 ?_); (case s0 => wtm_at "hp"); (case s1 => rfl); (case s2 => exact Nat.le_of_ble_eq_true rfl); intro H' kp' ep') | (with_reducible refine w_pcons ?_) | ((with_reducible refine w_dnew ?_); intro p' H' hp' sm' ep')
  | (with_reducible refine w_lst ?_) | (with_reducible refine w_tup ?_) | ((with_reducible refine w_new ?s ?_); (case s => exact Nat.le_of_ble_eq_true rfl); intro p' H' hp' sm' ep')
  | (with_reducible refine iteT ?_) | (with_reducible refine iteF ?_) | ((with_reducible refine iteTrue ?s ?_); (case s => rfl)) | ((with_reducible refine iteFalse ?s ?_); (case s => rfl))
  | (with_reducible refine v_addI ?_) | (with_reducible refine v_sub ?_) | (with_reducible refine v_neg ?_) | (with_reducible refine v_le ?_) | (with_reducible refine v_gt ?_) | (with_reducible refine v_ge ?_) | (with_reducible refine v_lt ?_)
  | (with_reducible refine v_eqI ?_) | (with_reducible refine v_inT ?_) | (with_reducible refine v_notInT ?_) | (with_reducible refine v_max2 ?_) | (with_reducible refine v_min2 ?_) | (with_reducible refine v_tyS ?_)
  | ((with_reducible refine v_mod ?s ?_); (case s => wtm_at "side"))
  | ((with_reducible refine v_mulI ?s ?_); (case s => first | exact s_mul (by omega) (by omega) | (unfold CMulW; decide +kernel)))
  | ((with_reducible refine v_div ?s ?_); (case s => exact s_div (by omega) (by omega)))
  | ((with_reducible refine v_pow ?s ?_); (case s => exact s_pow (by decide) (by decide) (by omega)))
  | ((with_reducible refine' v_ixSo ?s1 ?s2 ?s3 ?_); (case s1 => wtm_at "size"); (case s2 => omega); (case s3 => first | omega | (simp only [show _ = _ from by assumption]; omega)); intro c' hc' hc2)
  | ((with_reducible refine' v_ixL ?s1 ?s2 ?_); (case s1 => wtm_at "hp"); (case s2 => rfl))
  | ((with_reducible refine' v_setL ?s1 ?s2 ?_); (case s1 => wtm_at "hp"); (case s2 => rfl); intro H' kp' ep')
  | ((with_reducible refine' v_tyL ?s1 ?_); (case s1 => wtm_at "hp"))
  | (with_reducible refine w_yes ?_) | (with_reducible refine w_lc ?_) | (with_reducible refine w_iStr ?_) | (with_reducible refine w_str ?_) | (with_reducible refine w_iList ?_) | (with_reducible refine w_iRng1 ?_) | (with_reducible refine w_for ?_)
  | ((with_reducible refine' w_refL ?s1 ?_); (case s1 => wtm_at "hp"))
  | ((with_reducible refine' w_rng1 ?s1 ?s2 ?_); (case s1 => omega); (case s2 => omega))
  | ((with_reducible refine' v_isiI ?s1 ?_); (case s1 => wtm_at "kb")) | ((with_reducible refine' v_isiS ?s1 ?_); (case s1 => wtm_at "kb")) | ((with_reducible refine' v_isiB ?s1 ?_); (case s1 => wtm_at "kb")) | ((with_reducible refine' v_isiN ?s1 ?_); (case s1 => wtm_at "kb"))
  | ((with_reducible refine' v_isiL ?s1 ?s2 ?_); (case s1 => wtm_at "hp"); (case s2 => wtm_at "kb")) | ((with_reducible refine' v_isiU ?s1 ?s2 ?_); (case s1 => wtm_at "hp"); (case s2 => wtm_at "kb")) | ((with_reducible refine' v_isiD ?s1 ?s2 ?_); (case s1 => wtm_at "hp"); (case s2 => wtm_at "kb"))
  | ((with_reducible refine v_upper ?s1 ?_); (case s1 => omega))
  | ((with_reducible refine' v_lenS ?s1 ?_); (case s1 => wtm_at "size"))
  | ((with_reducible refine' v_lenL ?s1 ?_); (case s1 => wtm_at "hp"))
  | ((with_reducible refine' v_addT ?s1 ?_); (case s1 => wtm_at "size"))
  | ((with_reducible refine' v_slS ?s1 ?_); (case s1 => wtm_at "size"))))
local macro_rules | `(tactic| wtm_at "ln") => `(tactic| first | omega | exact len_one (by omega) | (refine len_cut ?_; wtm_at "ln") | (refine len_app ?_ ?_ <;> wtm_at "ln") | decide +kernel)
local macro_rules | `(tactic| wtm_at "size") => `(tactic| first | assumption | (refine len_line1 ?_; wtm_at "ln") | (refine len_line ?_ ?_ <;> wtm_at "ln") | decide +kernel)
local macro_rules | `(tactic| wtm_at "keep") => `(tactic| first | with_reducible exact Keep.refl _ _ | with_reducible assumption | ((with_reducible refine' keep_afterS ?ga ?gb); (case ga => with_reducible assumption); (case gb => wtm_at "keep")) | ((with_reducible refine' Keep.after ?ga ?gb); (case ga => with_reducible assumption); (case gb => wtm_at "keep")) | ((with_reducible refine' keep_afterN ?ga ?gc ?gb); (case ga => with_reducible assumption); (case gb => wtm_at "keep"); (case gc => wtm_at "free")))
local macro_rules | `(tactic| wtm_at "same") => `(tactic| first | with_reducible exact Same.refl _ | with_reducible assumption | ((with_reducible refine' same_after ?ga ?gb); (case ga => with_reducible assumption); (case gb => wtm_at "same")) | ((with_reducible refine' same_afterN ?ga ?gc ?gb); (case ga => with_reducible assumption); (case gb => wtm_at "same"); (case gc => wtm_at "free")))
/-- the box: what is left of the cell, its remainder, how often it was asked -/
def BoxAt (H : Hp) (b : Addr) (n : Nat) : Prop := ∃ a c m : Int, H b = some (.lst [.int a, .int c, .int m]) ∧ 0 ≤ a ∧ 0 ≤ c ∧ c < 2147483647 ∧ 0 ≤ m ∧ m ≤ n
def sp_take : Sp := fun vs H Q _ => ∃ (b : Addr) (m : Int) (n : Nat), vs = [.ref b, .int m] ∧ BoxAt H b n ∧ n ≤ 1000000 ∧ 0 < m ∧ m ≤ 1000000 ∧
  ∀ (r : Int) (H' : Hp), 0 ≤ r → r < m → Keep b H H' → BoxAt H' b (n + 1) → Q (.int r) H'
theorem pure_take {K : PySem.W.Frag} (vs : List V) (H : Hp) (Q : VK) (E : XK) (h : sp_take vs H Q E) : t__law_take K { nx := fun _ H' => Q .non H', rt := Q } (start ["_law_box_here", "_law_many", "_law_digit", "_law_number"] vs) H := by
  obtain ⟨b, m, n, rfl, ⟨a, c, k, hb, ha, hc, hc2, hk, hk2⟩, hn, hm, hm2, q⟩ := h
  unfold t__law_take
  repeat wtm_at "w"
  refine ite2 (fun c1 => ?_) (fun c1 => ?_)
  · repeat wtm_at "w"
    exact q _ _ (Int.emod_nonneg _ (by omega)) (Int.emod_lt_of_pos _ hm) (by wtm_at "keep") ⟨a / m, c, k, by assumption, Int.ediv_nonneg ha (by omega), hc, hc2, hk, by omega⟩
  · repeat wtm_at "w"
    generalize hz : (c + 7919 * (k + 1) + 17) ^ Int.toNat 5 % 2147483629 = z
    have hz1 : 0 ≤ z := by rw [← hz]; exact Int.emod_nonneg _ (by decide)
    have hz2 : z < 2147483629 := by rw [← hz]; exact Int.emod_lt_of_pos _ (by decide)
    refine v_pow (s_pow (by decide) (by decide) ?_) ?_
    · have h1 : z * (16807 + (k + 1)) ≤ 2147483629 * 2000000 := Int.mul_le_mul (by omega) (by omega) (by omega) (by decide)
      have h2 : 0 ≤ z * (16807 + (k + 1)) := Int.mul_nonneg hz1 (by omega)
      omega
    · repeat wtm_at "w"
      exact q _ _ (Int.emod_nonneg _ (by omega)) (Int.emod_lt_of_pos _ hm) (by wtm_at "keep") ⟨a, c, k + 1, by assumption, ha, hc, hc2, by omega, by omega⟩
end Hk

namespace Hk
open PySem PySem.Spec PyProof.Rows L2 He
local macro_rules | `(tactic| wtm_at "hp") => `(tactic| first | with_reducible assumption | ((with_reducible refine' get_same ?ga ?gb); (case ga => with_reducible assumption); (case gb => wtm_at "hp")) | ((with_reducible refine' get_keep ?ga ?gc ?gb); (case ga => with_reducible assumption); (case gc => wtm_at "ne"); (case gb => wtm_at "hp")))
local macro_rules | `(tactic| wtm_at "hs") => `(tactic| first | with_reducible assumption | ((with_reducible refine' get_same ?ga ?gb); (case ga => with_reducible assumption); (case gb => wtm_at "hs")) | ((with_reducible refine' get_keep ?ga ?gc ?gb); (case ga => with_reducible assumption); (case gc => first | with_reducible assumption | (refine Ne.symm ?_; with_reducible assumption)); (case gb => wtm_at "hs")))
local macro_rules | `(tactic| wtm_at "ne") => `(tactic| first | with_reducible assumption | (refine Ne.symm ?_; with_reducible assumption) | ((with_reducible refine' ne_new ?ga ?gb); (case ga => with_reducible assumption); (case gb => wtm_at "hs")) | (refine Ne.symm ?_; (with_reducible refine' ne_new ?ga ?gb); (case ga => with_reducible assumption); (case gb => wtm_at "hs")) | wtm_at "ne2" | (refine Ne.symm ?_; wtm_at "ne2"))
local macro_rules | `(tactic| wtm_at "free") => `(tactic| first | with_reducible assumption | ((with_reducible refine' free_same ?ga ?gb); (case ga => with_reducible assumption); (case gb => wtm_at "same")) | ((with_reducible refine' free_keep ?ga ?gc ?gb); (case ga => with_reducible assumption); (case gb => wtm_at "keep"); (case gc => wtm_at "hp")) | wtm_at "free2")
local macro_rules | `(tactic| wtm_at "side") => `(tactic| first | assumption | decide | omega)
local macro_rules | `(tactic| wtm_at "kb") => `(tactic| first | exact kb_NoneType_int | exact kb_NoneType_bool | exact kb_NoneType_str | exact kb_NoneType_list | exact kb_NoneType_tuple | exact kb_NoneType_dict | exact kb_bool_int | exact kb_bool_bool | exact kb_bool_str | exact kb_bool_list | exact kb_bool_tuple | exact kb_bool_dict | exact kb_int_int | exact kb_int_bool | exact kb_int_str | exact kb_int_list | exact kb_int_tuple | exact kb_int_dict | exact kb_str_int | exact kb_str_bool | exact kb_str_str | exact kb_str_list | exact kb_str_tuple | exact kb_str_dict | exact kb_list_int | exact kb_list_bool | exact kb_list_str | exact kb_list_list | exact kb_list_tuple | exact kb_list_dict | exact kb_tuple_int | exact kb_tuple_bool | exact kb_tuple_str | exact kb_tuple_list | exact kb_tuple_tuple | exact kb_tuple_dict | exact kb_dict_int | exact kb_dict_bool | exact kb_dict_str | exact kb_dict_list | exact kb_dict_tuple | exact kb_dict_dict)
local macro_rules | `(tactic| wtm_at "w") => `(tactic| (first
  | (with_reducible refine w_seq ?_) | (with_reducible refine w_asg ?_) | (with_reducible refine w_name ?_) | (with_reducible refine w_var rfl ?_) | (with_reducible refine w_c ?_)
  | (with_reducible refine w_op ?_) | (with_reducible refine w_ret ?_) | (with_reducible refine w_if ?_) | (with_reducible refine w_test ?_) | (with_reducible refine w_bl ?_) | (with_reducible refine w_cb ?_)
  | (with_reducible refine w_call ?_) | (with_reducible refine w_nil ?_) | (with_reducible refine w_cons ?_) | (with_reducible refine w_drop ?_) | (with_reducible refine w_next ?_)
  | (with_reducible refine w_tB ?_) | (with_reducible refine w_and ?_) | (with_reducible refine w_or ?_) | (with_reducible refine w_not ?_) | (with_reducible refine w_andV ?_) | (with_reducible refine w_orV ?_)
  | (with_reducible refine w_notV ?_) | (with_reducible refine w_chain ?_) | (with_reducible refine w_ifE ?_) | (with_reducible refine w_un ?_) | (with_reducible refine w_sl ?_) | (with_reducible refine w_noPart ?_)
  | (with_reducible refine w_part ?_) | (with_reducible refine w_int ?_) | (with_reducible refine w_sub ?_) | (with_reducible refine w_bm ?_) | (with_reducible refine w_tM0 ?_) | (with_reducible refine w_tM1 ?_) | (with_reducible refine w_strA ?_)
  | ((with_reducible refine w_disp ?_); intro p' H' hp' sm' ep') | (with_reducible refine w_pnil ?_) | ((with_reducible refine w_dend ?s0 ?s1 ?s2 ?_); (case s0 => wtm_at "hp"); (case s1 => rfl); (case s2 => exact Nat.le_of_ble_eq_true rfl); intro H' kp' ep') | (with_reducible refine w_pcons ?_) | ((with_reducible refine w_dnew ?_); intro p' H' hp' sm' ep')
  | (with_reducible refine w_lst ?_) | (with_reducible refine w_tup ?_) | ((with_reducible refine w_new ?s ?_); (case s => exact Nat.le_of_ble_eq_true rfl); intro p' H' hp' sm' ep')
  | (with_reducible refine iteT ?_) | (with_reducible refine iteF ?_) | ((with_reducible refine iteTrue ?s ?_); (case s => rfl)) | ((with_reducible refine iteFalse ?s ?_); (case s => rfl))
  | (with_reducible refine v_addI ?_) | (with_reducible refine v_sub ?_) | (with_reducible refine v_neg ?_) | (with_reducible refine v_le ?_) | (with_reducible refine v_gt ?_) | (with_reducible refine v_ge ?_) | (with_reducible refine v_lt ?_)
  | (with_reducible refine v_eqI ?_) | (with_reducible refine v_inT ?_) | (with_reducible refine v_notInT ?_) | (with_reducible refine v_max2 ?_) | (with_reducible refine v_min2 ?_) | (with_reducible refine v_tyS ?_)
  | ((with_reducible refine v_mod ?s ?_); (case s => wtm_at "side"))
  | ((with_reducible refine v_mulI ?s ?_); (case s => first | exact s_mul (by omega) (by omega) | (unfold CMulW; decide +kernel)))
  | ((with_reducible refine v_div ?s ?_); (case s => exact s_div (by omega) (by omega)))
  | ((with_reducible refine v_pow ?s ?_); (case s => exact s_pow (by decide) (by decide) (by omega)))
  | ((with_reducible refine' v_ixSo ?s1 ?s2 ?s3 ?_); (case s1 => wtm_at "size"); (case s2 => omega); (case s3 => first | omega | (simp only [show _ = _ from by assumption]; omega)); intro c' hc' hc2)
  | ((with_reducible refine' v_ixL ?s1 ?s2 ?_); (case s1 => wtm_at "hp"); (case s2 => rfl))
  | ((with_reducible refine' v_setL ?s1 ?s2 ?_); (case s1 => wtm_at "hp"); (case s2 => rfl); intro H' kp' ep')
  | ((with_reducible refine' v_tyL ?s1 ?_); (case s1 => wtm_at "hp"))
  | (with_reducible refine w_yes ?_) | (with_reducible refine w_lc ?_) | (with_reducible refine w_iStr ?_) | (with_reducible refine w_str ?_) | (with_reducible refine w_iList ?_) | (with_reducible refine w_iRng1 ?_) | (with_reducible refine w_for ?_)
  | ((with_reducible refine' w_refL ?s1 ?_); (case s1 => wtm_at "hp"))
  | ((with_reducible refine' w_rng1 ?s1 ?s2 ?_); (case s1 => omega); (case s2 => omega))
  | ((with_reducible refine' v_isiI ?s1 ?_); (case s1 => wtm_at "kb")) | ((with_reducible refine' v_isiS ?s1 ?_); (case s1 => wtm_at "kb")) | ((with_reducible refine' v_isiB ?s1 ?_); (case s1 => wtm_at "kb")) | ((with_reducible refine' v_isiN ?s1 ?_); (case s1 => wtm_at "kb"))
  | ((with_reducible refine' v_isiL ?s1 ?s2 ?_); (case s1 => wtm_at "hp"); (case s2 => wtm_at "kb")) | ((with_reducible refine' v_isiU ?s1 ?s2 ?_); (case s1 => wtm_at "hp"); (case s2 => wtm_at "kb")) | ((with_reducible refine' v_isiD ?s1 ?s2 ?_); (case s1 => wtm_at "hp"); (case s2 => wtm_at "kb"))
  | ((with_reducible refine v_upper ?s1 ?_); (case s1 => omega))
  | ((with_reducible refine' v_lenS ?s1 ?_); (case s1 => wtm_at "size"))
  | ((with_reducible refine' v_lenL ?s1 ?_); (case s1 => wtm_at "hp"))
  | ((with_reducible refine' v_addT ?s1 ?_); (case s1 => wtm_at "size"))
  | ((with_reducible refine' v_slS ?s1 ?_); (case s1 => wtm_at "size"))))
local macro_rules | `(tactic| wtm_at "ln") => `(tactic| first | omega | exact len_one (by omega) | (refine len_cut ?_; wtm_at "ln") | (refine len_app ?_ ?_ <;> wtm_at "ln") | decide +kernel)
local macro_rules | `(tactic| wtm_at "size") => `(tactic| first | assumption | (refine len_line1 ?_; wtm_at "ln") | (refine len_line ?_ ?_ <;> wtm_at "ln") | decide +kernel)
local macro_rules | `(tactic| wtm_at "keep") => `(tactic| first | with_reducible exact Keep.refl _ _ | with_reducible assumption | ((with_reducible refine' keep_afterS ?ga ?gb); (case ga => with_reducible assumption); (case gb => wtm_at "keep")) | ((with_reducible refine' Keep.after ?ga ?gb); (case ga => with_reducible assumption); (case gb => wtm_at "keep")) | ((with_reducible refine' keep_afterN ?ga ?gc ?gb); (case ga => with_reducible assumption); (case gb => wtm_at "keep"); (case gc => wtm_at "free")))
local macro_rules | `(tactic| wtm_at "same") => `(tactic| first | with_reducible exact Same.refl _ | with_reducible assumption | ((with_reducible refine' same_after ?ga ?gb); (case ga => with_reducible assumption); (case gb => wtm_at "same")) | ((with_reducible refine' same_afterN ?ga ?gc ?gb); (case ga => with_reducible assumption); (case gb => wtm_at "same"); (case gc => wtm_at "free")))
/-- a thing: none, a truth, a number, a text, a list, a tuple, a dict -/
inductive Th (H : Hp) : V → Prop where
  | non : Th H .non
  | bl (b : Bool) : Th H (.bl b)
  | int (i : Int) : Th H (.int i)
  | str (s : Str) (h : s.length ≤ 10000) (ok : Cs (· < 0x110000) s) : Th H (.str s)
  | lst {a : Addr} {xs : List V} (e : H a = some (.lst xs)) : Th H (.ref a)
  | tup {a : Addr} {xs : List V} (e : H a = some (.tup xs)) : Th H (.ref a)
  | dK {a : Addr} {kvs : List (Key × V)} (e : H a = some (.dK kvs)) : Th H (.ref a)
theorem Th.same {H H' : Hp} {x : V} (h : Th H x) (s : Same H H') : Th H' x := by
  cases h with
  | non => exact .non
  | bl b => exact .bl b
  | int i => exact .int i
  | str z hz ok => exact .str z hz ok
  | lst e => exact .lst (s _ _ e)
  | tup e => exact .tup (s _ _ e)
  | dK e => exact .dK (s _ _ e)
abbrev letters : Str := "abcdefghijklmnopqrstuvwxyz"
abbrev signs : Str := " !\"#$&'()*+,-./0123456789:;<=>?@ABCDEFGHIJKLMNOPQRSTUVWXYZ[\\]^_`abcdefghijklmnopqrstuvwxyz{|}~"
def allIn (z w : Str) : Bool := z.cps.toList.all fun c => decide (c ∈ w.cps.toList)
def wholeV : V → Bool
  | .int _ => true
  | _ => false
def numberV : V → Bool
  | .int i => decide (-1000000000000000000 < i) && decide (i < 1000000000000000000)
  | _ => false
def nameV : V → Bool
  | .str z => decide (1 ≤ (z.length : Int)) && (decide ((z.length : Int) ≤ 8) && allIn z letters)
  | _ => false
def textV : V → Bool
  | .str z => decide ((z.length : Int) ≤ 40) && allIn z signs
  | _ => false
theorem numberV_int (i : Int) : numberV (.int i) = (decide (-1000000000000000000 < i) && decide (i < 1000000000000000000)) := rfl
theorem nameV_str (z : Str) : nameV (.str z) = (decide (1 ≤ (z.length : Int)) && (decide ((z.length : Int) ≤ 8) && allIn z letters)) := rfl
theorem textV_str (z : Str) : textV (.str z) = (decide ((z.length : Int) ≤ 40) && allIn z signs) := rfl
theorem all_map_id (z : Str) (w : Str) : (z.cps.toList.map fun c => decide (c ∈ w.cps.toList)).all id = allIn z w := by unfold allIn; rw [List.all_map]; rfl
/-- of a thing a truth is told -/
def spB (f : V → Bool) : Sp := fun vs H Q _ => ∃ x, vs = [x] ∧ Th H x ∧ ∀ H', Same H H' → Q (.bl (f x)) H'
theorem u_B {f : V → Bool} {H : Hp} {Q : VK} {E : XK} {x : V} (hx : Th H x) (h : ∀ H', Same H H' → Q (.bl (f x)) H') : spB f ([x] ++ []) H Q E := ⟨x, rfl, hx, h⟩
variable {K : PySem.W.Frag}
theorem pure_whole (vs : List V) (H : Hp) (Q : VK) (E : XK) (h : spB wholeV vs H Q E) : t_is_whole K { nx := fun _ H' => Q .non H', rt := Q } (start ["thing"] vs) H := by
  obtain ⟨x, rfl, hx, q⟩ := h
  unfold t_is_whole
  cases hx
  all_goals (repeat wtm_at "w"); exact q _ (Same.refl H)
theorem pure_number (vs : List V) (H : Hp) (Q : VK) (E : XK) (h : spB numberV vs H Q E) : t_is_number K (spB wholeV) { nx := fun _ H' => Q .non H', rt := Q } (start ["thing"] vs) H := by
  obtain ⟨x, rfl, hx, q⟩ := h
  unfold t_is_number
  repeat wtm_at "w"
  refine u_B hx fun H1 s1 => ?_
  cases hx
  case int i =>
    repeat wtm_at "w"
    refine iteB (fun c => ?_) (fun c => ?_)
    · repeat wtm_at "w"
      exact q_bl (by rw [numberV_int, c]; rfl) (q _ s1)
    · exact q_bl (by rw [numberV_int, c]; rfl) (q _ s1)
  all_goals (repeat wtm_at "w"); exact q _ s1
/-- the loop over the signs -/
theorem all_signs {z w : Str} {σ : L2.St} {H : Hp} {Q : VK} {vs : List Nat} {j : Nat} (hz : z.length ≤ 10000) (hw : ∀ x, wipe ((wipe σ vs).set j (some x)) vs = wipe σ vs) (hj : ∀ x, ((wipe σ vs).set j (some x))[j]? = some (some x))
    (q : ∀ D H', Same H H' → H' D = some (.lst ((z.cps.toList.map fun c => decide (c ∈ w.cps.toList)).map V.bl)) → Q (.ref D) H') : LcD (Its z) (gName j) tYes (tOp (rInU K) (tVar j) (tC (.str w))) vs σ H Q := by
  refine lc_pure walk_strAt (fun _ => true) (fun x => match x with | .str ⟨#[c]⟩ => .bl (decide (c ∈ w.cps.toList)) | _ => .non) (by rw [strItems_len]; show z.length ≤ _; omega) (fun _ _ => trivial) hw (fun x hx => yes_t (x := x)) (fun x hx _ H1 R s1 k => ?_) (fun D H' hD s' e => ?_)
  · obtain ⟨c, hc, rfl⟩ := mem_str hx
    refine w_op ?_
    refine w_var (hj _) ?_
    repeat wtm_at "w"
    exact k H1 (Same.refl H1)
  · refine q D H' s' ?_
    rw [e]
    unfold strItems
    rw [List.filter_eq_self.mpr (fun _ _ => rfl), List.map_map, List.map_map]
    rfl
theorem pure_name (vs : List V) (H : Hp) (Q : VK) (E : XK) (h : spB nameV vs H Q E) : t_is_name K { nx := fun _ H' => Q .non H', rt := Q } (start ["thing", "sign"] vs) H := by
  obtain ⟨x, rfl, hx, q⟩ := h
  unfold t_is_name
  cases hx
  case str z hz ok =>
    repeat wtm_at "w"
    refine iteB (fun c => ?_) (fun c => ?_)
    · repeat wtm_at "w"
      refine iteB (fun c2 => ?_) (fun c2 => ?_)
      · repeat wtm_at "w"
        exact q_bl (by rw [nameV_str, c]; cases e : decide ((z.length : Int) ≤ 8) with | true => rw [e] at c2; cases c2 | false => rfl) (q _ (Same.refl H))
      · repeat wtm_at "w"
        refine all_signs hz (fun _ => rfl) (fun _ => rfl) fun D H' s' e => ?_
        repeat wtm_at "w"
        refine ⟨D, _, rfl, .inl (.inl e), ?_⟩
        refine q_bl ?_ (q _ s')
        have e8 : decide ((z.length : Int) ≤ 8) = true := by cases e9 : decide ((z.length : Int) ≤ 8) with | true => rfl | false => rw [e9] at c2; cases c2
        rw [nameV_str, c, e8]
        exact (all_map_id z letters).symm
    · repeat wtm_at "w"
      exact q_bl (by rw [nameV_str, c]; rfl) (q _ (Same.refl H))
  all_goals (repeat wtm_at "w"); exact q _ (Same.refl H)
theorem pure_text (vs : List V) (H : Hp) (Q : VK) (E : XK) (h : spB textV vs H Q E) : t_is_text K { nx := fun _ H' => Q .non H', rt := Q } (start ["thing", "sign"] vs) H := by
  obtain ⟨x, rfl, hx, q⟩ := h
  unfold t_is_text
  cases hx
  case str z hz ok =>
    repeat wtm_at "w"
    refine iteB (fun c => ?_) (fun c => ?_)
    · repeat wtm_at "w"
      refine q_bl ?_ (q _ (Same.refl H))
      have e : decide ((z.length : Int) ≤ 40) = false := decide_eq_false (by have := of_decide_eq_true c; omega)
      rw [textV_str, e]; rfl
    · repeat wtm_at "w"
      refine all_signs hz (fun _ => rfl) (fun _ => rfl) fun D H' s' e => ?_
      repeat wtm_at "w"
      refine ⟨D, _, rfl, .inl (.inl e), ?_⟩
      refine q_bl ?_ (q _ s')
      have e8 : decide ((z.length : Int) ≤ 40) = true := decide_eq_true (by have := of_decide_eq_false c; omega)
      rw [textV_str, e8]
      exact (all_map_id z signs).symm
  all_goals (repeat wtm_at "w"); exact q _ (Same.refl H)
end Hk

namespace Hk
open PySem PySem.Spec PyProof.Rows L2 He
local macro_rules | `(tactic| wtm_at "hp") => `(tactic| first | with_reducible assumption | ((with_reducible refine' get_same ?ga ?gb); (case ga => with_reducible assumption); (case gb => wtm_at "hp")) | ((with_reducible refine' get_keep ?ga ?gc ?gb); (case ga => with_reducible assumption); (case gc => wtm_at "ne"); (case gb => wtm_at "hp")))
local macro_rules | `(tactic| wtm_at "hs") => `(tactic| first | with_reducible assumption | ((with_reducible refine' get_same ?ga ?gb); (case ga => with_reducible assumption); (case gb => wtm_at "hs")) | ((with_reducible refine' get_keep ?ga ?gc ?gb); (case ga => with_reducible assumption); (case gc => first | with_reducible assumption | (refine Ne.symm ?_; with_reducible assumption)); (case gb => wtm_at "hs")))
local macro_rules | `(tactic| wtm_at "ne") => `(tactic| first | with_reducible assumption | (refine Ne.symm ?_; with_reducible assumption) | ((with_reducible refine' ne_new ?ga ?gb); (case ga => with_reducible assumption); (case gb => wtm_at "hs")) | (refine Ne.symm ?_; (with_reducible refine' ne_new ?ga ?gb); (case ga => with_reducible assumption); (case gb => wtm_at "hs")) | wtm_at "ne2" | (refine Ne.symm ?_; wtm_at "ne2"))
local macro_rules | `(tactic| wtm_at "free") => `(tactic| first | with_reducible assumption | ((with_reducible refine' free_same ?ga ?gb); (case ga => with_reducible assumption); (case gb => wtm_at "same")) | ((with_reducible refine' free_keep ?ga ?gc ?gb); (case ga => with_reducible assumption); (case gb => wtm_at "keep"); (case gc => wtm_at "hp")) | wtm_at "free2")
local macro_rules | `(tactic| wtm_at "side") => `(tactic| first | assumption | decide | omega)
local macro_rules | `(tactic| wtm_at "kb") => `(tactic| first | exact kb_NoneType_int | exact kb_NoneType_bool | exact kb_NoneType_str | exact kb_NoneType_list | exact kb_NoneType_tuple | exact kb_NoneType_dict | exact kb_bool_int | exact kb_bool_bool | exact kb_bool_str | exact kb_bool_list | exact kb_bool_tuple | exact kb_bool_dict | exact kb_int_int | exact kb_int_bool | exact kb_int_str | exact kb_int_list | exact kb_int_tuple | exact kb_int_dict | exact kb_str_int | exact kb_str_bool | exact kb_str_str | exact kb_str_list | exact kb_str_tuple | exact kb_str_dict | exact kb_list_int | exact kb_list_bool | exact kb_list_str | exact kb_list_list | exact kb_list_tuple | exact kb_list_dict | exact kb_tuple_int | exact kb_tuple_bool | exact kb_tuple_str | exact kb_tuple_list | exact kb_tuple_tuple | exact kb_tuple_dict | exact kb_dict_int | exact kb_dict_bool | exact kb_dict_str | exact kb_dict_list | exact kb_dict_tuple | exact kb_dict_dict)
local macro_rules | `(tactic| wtm_at "w") => `(tactic| (first
  | (with_reducible refine w_seq ?_) | (with_reducible refine w_asg ?_) | (with_reducible refine w_name ?_) | (with_reducible refine w_var rfl ?_) | (with_reducible refine w_c ?_)
  | (with_reducible refine w_op ?_) | (with_reducible refine w_ret ?_) | (with_reducible refine w_if ?_) | (with_reducible refine w_test ?_) | (with_reducible refine w_bl ?_) | (with_reducible refine w_cb ?_)
  | (with_reducible refine w_call ?_) | (with_reducible refine w_nil ?_) | (with_reducible refine w_cons ?_) | (with_reducible refine w_drop ?_) | (with_reducible refine w_next ?_)
  | (with_reducible refine w_tB ?_) | (with_reducible refine w_and ?_) | (with_reducible refine w_or ?_) | (with_reducible refine w_not ?_) | (with_reducible refine w_andV ?_) | (with_reducible refine w_orV ?_)
  | (with_reducible refine w_notV ?_) | (with_reducible refine w_chain ?_) | (with_reducible refine w_ifE ?_) | (with_reducible refine w_un ?_) | (with_reducible refine w_sl ?_) | (with_reducible refine w_noPart ?_)
  | (with_reducible refine w_part ?_) | (with_reducible refine w_int ?_) | (with_reducible refine w_sub ?_) | (with_reducible refine w_bm ?_) | (with_reducible refine w_tM0 ?_) | (with_reducible refine w_tM1 ?_) | (with_reducible refine w_strA ?_)
  | ((with_reducible refine w_disp ?_); intro p' H' hp' sm' ep') | (with_reducible refine w_pnil ?_) | ((with_reducible refine w_dend ?s0 ?s1 ?s2 ?_); (case s0 => wtm_at "hp"); (case s1 => rfl); (case s2 => exact Nat.le_of_ble_eq_true rfl); intro H' kp' ep') | (with_reducible refine w_pcons ?_) | ((with_reducible refine w_dnew ?_); intro p' H' hp' sm' ep')
  | (with_reducible refine w_lst ?_) | (with_reducible refine w_tup ?_) | ((with_reducible refine w_new ?s ?_); (case s => exact Nat.le_of_ble_eq_true rfl); intro p' H' hp' sm' ep')
  | (with_reducible refine iteT ?_) | (with_reducible refine iteF ?_) | ((with_reducible refine iteTrue ?s ?_); (case s => rfl)) | ((with_reducible refine iteFalse ?s ?_); (case s => rfl))
  | (with_reducible refine v_addI ?_) | (with_reducible refine v_sub ?_) | (with_reducible refine v_neg ?_) | (with_reducible refine v_le ?_) | (with_reducible refine v_gt ?_) | (with_reducible refine v_ge ?_) | (with_reducible refine v_lt ?_)
  | (with_reducible refine v_eqI ?_) | (with_reducible refine v_inT ?_) | (with_reducible refine v_notInT ?_) | (with_reducible refine v_max2 ?_) | (with_reducible refine v_min2 ?_) | (with_reducible refine v_tyS ?_)
  | ((with_reducible refine v_mod ?s ?_); (case s => wtm_at "side"))
  | ((with_reducible refine v_mulI ?s ?_); (case s => first | exact s_mul (by omega) (by omega) | (unfold CMulW; decide +kernel)))
  | ((with_reducible refine v_div ?s ?_); (case s => exact s_div (by omega) (by omega)))
  | ((with_reducible refine v_pow ?s ?_); (case s => exact s_pow (by decide) (by decide) (by omega)))
  | ((with_reducible refine' v_ixSo ?s1 ?s2 ?s3 ?_); (case s1 => wtm_at "size"); (case s2 => omega); (case s3 => first | omega | (simp only [show _ = _ from by assumption]; omega)); intro c' hc' hc2)
  | ((with_reducible refine' v_ixL ?s1 ?s2 ?_); (case s1 => wtm_at "hp"); (case s2 => rfl))
  | ((with_reducible refine' v_setL ?s1 ?s2 ?_); (case s1 => wtm_at "hp"); (case s2 => rfl); intro H' kp' ep')
  | ((with_reducible refine' v_tyL ?s1 ?_); (case s1 => wtm_at "hp"))
  | (with_reducible refine w_yes ?_) | (with_reducible refine w_lc ?_) | (with_reducible refine w_iStr ?_) | (with_reducible refine w_str ?_) | (with_reducible refine w_iList ?_) | (with_reducible refine w_iRng1 ?_) | (with_reducible refine w_for ?_)
  | ((with_reducible refine' w_refL ?s1 ?_); (case s1 => wtm_at "hp"))
  | ((with_reducible refine' w_rng1 ?s1 ?s2 ?_); (case s1 => omega); (case s2 => omega))
  | ((with_reducible refine' v_isiI ?s1 ?_); (case s1 => wtm_at "kb")) | ((with_reducible refine' v_isiS ?s1 ?_); (case s1 => wtm_at "kb")) | ((with_reducible refine' v_isiB ?s1 ?_); (case s1 => wtm_at "kb")) | ((with_reducible refine' v_isiN ?s1 ?_); (case s1 => wtm_at "kb"))
  | ((with_reducible refine' v_isiL ?s1 ?s2 ?_); (case s1 => wtm_at "hp"); (case s2 => wtm_at "kb")) | ((with_reducible refine' v_isiU ?s1 ?s2 ?_); (case s1 => wtm_at "hp"); (case s2 => wtm_at "kb")) | ((with_reducible refine' v_isiD ?s1 ?s2 ?_); (case s1 => wtm_at "hp"); (case s2 => wtm_at "kb"))
  | ((with_reducible refine v_upper ?s1 ?_); (case s1 => omega))
  | ((with_reducible refine' v_lenS ?s1 ?_); (case s1 => wtm_at "size"))
  | ((with_reducible refine' v_lenL ?s1 ?_); (case s1 => wtm_at "hp"))
  | ((with_reducible refine' v_addT ?s1 ?_); (case s1 => wtm_at "size"))
  | ((with_reducible refine' v_slS ?s1 ?_); (case s1 => wtm_at "size"))))
local macro_rules | `(tactic| wtm_at "ln") => `(tactic| first | omega | exact len_one (by omega) | (refine len_cut ?_; wtm_at "ln") | (refine len_app ?_ ?_ <;> wtm_at "ln") | decide +kernel)
local macro_rules | `(tactic| wtm_at "size") => `(tactic| first | assumption | (refine len_line1 ?_; wtm_at "ln") | (refine len_line ?_ ?_ <;> wtm_at "ln") | decide +kernel)
local macro_rules | `(tactic| wtm_at "keep") => `(tactic| first | with_reducible exact Keep.refl _ _ | with_reducible assumption | ((with_reducible refine' keep_afterS ?ga ?gb); (case ga => with_reducible assumption); (case gb => wtm_at "keep")) | ((with_reducible refine' Keep.after ?ga ?gb); (case ga => with_reducible assumption); (case gb => wtm_at "keep")) | ((with_reducible refine' keep_afterN ?ga ?gc ?gb); (case ga => with_reducible assumption); (case gb => wtm_at "keep"); (case gc => wtm_at "free")))
local macro_rules | `(tactic| wtm_at "same") => `(tactic| first | with_reducible exact Same.refl _ | with_reducible assumption | ((with_reducible refine' same_after ?ga ?gb); (case ga => with_reducible assumption); (case gb => wtm_at "same")) | ((with_reducible refine' same_afterN ?ga ?gc ?gb); (case ga => with_reducible assumption); (case gb => wtm_at "same"); (case gc => wtm_at "free")))
theorem BoxAt.same {H H' : Hp} {b : Addr} {n : Nat} (s : Same H H') (h : BoxAt H b n) : BoxAt H' b n := by
  obtain ⟨a, c, m, e, r⟩ := h
  exact ⟨a, c, m, s _ _ e, r⟩
theorem BoxAt.keep {H H' : Hp} {b p : Addr} {n : Nat} (s : Keep p H H') (hn : b ≠ p) (h : BoxAt H b n) : BoxAt H' b n := by
  obtain ⟨a, c, m, e, r⟩ := h
  exact ⟨a, c, m, s _ _ hn e, r⟩
theorem BoxAt.ne {H : Hp} {b p : Addr} {n : Nat} (h : BoxAt H b n) (hp : H p = none) : b ≠ p := by
  obtain ⟨a, c, m, e, r⟩ := h
  exact ne_of_none e hp
theorem free_box {H H1 : Hp} {p b : Addr} {n : Nat} (hp : H1 p = none) (hb : BoxAt H1 b n) (x : Keep b H H1) : H p = none := by
  obtain ⟨a, c, m, e, r⟩ := hb
  exact x.free hp (by rw [e]; exact fun z => by cases z)
theorem BoxAt.mono {H : Hp} {b : Addr} {n m : Nat} (h : BoxAt H b n) (hn : n ≤ m) : BoxAt H b m := by
  obtain ⟨a, c, k, e, h1, h2, h3, h4, h5⟩ := h
  exact ⟨a, c, k, e, h1, h2, h3, h4, by omega⟩
theorem BoxAt.some {H : Hp} {b : Addr} {n : Nat} (h : BoxAt H b n) : H b ≠ none := by
  obtain ⟨a, c, k, e, _⟩ := h
  rw [e]; exact fun z => by cases z
theorem Th.keep {H H' : Hp} {b : Addr} {n : Nat} {x : V} (h : Th H x) (s : Keep b H H') (hb : BoxAt H' b n) : Th H' x := by
  obtain ⟨a0, c0, m0, e0, _⟩ := hb
  cases h with
  | non => exact .non
  | bl b => exact .bl b
  | int i => exact .int i
  | str z hz ok => exact .str z hz ok
  | @lst a xs e => by_cases h : a = b
                   · subst h; exact .lst e0
                   · exact .lst (s _ _ h e)
  | @tup a xs e => by_cases h : a = b
                   · subst h; exact .lst e0
                   · exact .tup (s _ _ h e)
  | @dK a kvs e => by_cases h : a = b
                   · subst h; exact .lst e0
                   · exact .dK (s _ _ h e)
theorem up1_lt {c : Nat} (h : c < 128) : up1 c < 0x110000 := by
  have := (by decide +kernel : ∀ c, c < 128 → up1 c < 0x110000) c h
  exact this
/-! promises of the law's helpers -/
def sp_cell (K : PySem.W.Frag) : Sp := fun vs H Q _ => ∃ (a : Addr) (ns : List Int) (k : Int), vs = [.ref a, .int k] ∧ SqL K H a (ns.map V.int) ∧ ns.length ≤ 63 ∧ 0 ≤ k ∧ k ≤ 1000000 ∧ ∀ c, Q (.int c) H
def sp_box : Sp := fun vs H Q _ => ∃ c : Int, vs = [.int c] ∧ ∀ b, H b = none → ∀ H', Same H H' → BoxAt H' b 0 → Q (.ref b) H'
def sp_signs : Sp := fun vs H Q _ => vs = [] ∧ Q (.str signs) H
def sp_spoilt : Sp := fun vs H Q _ => ∃ (b : Addr) (z : Str) (n : Nat), vs = [.ref b, .str z] ∧ z.length ≤ 100 ∧ Cs (· < 0x110000) z ∧ BoxAt H b n ∧ n ≤ 100000 ∧ ∀ (z' : Str) (H' : Hp), z'.length ≤ 2 * z.length + 1 → Cs (· < 0x110000) z' → Keep b H H' → BoxAt H' b (n + 3) → Q (.str z') H'
def sp_figures : Sp := fun vs H Q _ => ∃ (b : Addr) (n : Nat), vs = [.ref b] ∧ BoxAt H b n ∧ n ≤ 100000 ∧ ∀ (i : Int) (H' : Hp), -100000000000000000000 ≤ i → i ≤ 100000000000000000000 → Keep b H H' → BoxAt H' b (n + 21) → Q (.int i) H'
def sp_odd : Sp := fun vs H Q _ => ∃ (b : Addr) (z : Str) (n : Nat), vs = [.ref b, .str z] ∧ z.length ≤ 100 ∧ Cs (· < 128) z ∧ BoxAt H b n ∧ n ≤ 100000 ∧ ∀ (x : V) (H' : Hp), Th H' x → Keep b H H' → BoxAt H' b (n + 2) → Q x H'
variable {K : PySem.W.Frag} {H : Hp} {Q : VK} {E : XK}
theorem u_cell {a : Addr} {ns : List Int} {k : Int} (hs : SqL K H a (ns.map V.int)) (hl : ns.length ≤ 63) (h0 : 0 ≤ k) (h1 : k ≤ 1000000) (h : ∀ c, Q (.int c) H) : sp_cell K ([.ref a, .int k] ++ []) H Q E := ⟨a, ns, k, rfl, hs, hl, h0, h1, h⟩
theorem u_box {c : Int} (h : ∀ b, H b = none → ∀ H', Same H H' → BoxAt H' b 0 → Q (.ref b) H') : sp_box ([.int c] ++ []) H Q E := ⟨c, rfl, h⟩
theorem u_take {b : Addr} {m : Int} {n : Nat} (hb : BoxAt H b n) (hn : n ≤ 1000000) (h0 : 0 < m) (h1 : m ≤ 1000000) (h : ∀ (r : Int) (H' : Hp), 0 ≤ r → r < m → Keep b H H' → BoxAt H' b (n + 1) → Q (.int r) H') : sp_take ([.ref b, .int m] ++ []) H Q E :=
  ⟨b, m, n, rfl, hb, hn, h0, h1, h⟩
theorem u_spoilt {b : Addr} {z : Str} {n : Nat} (hz : z.length ≤ 100) (hc : Cs (· < 0x110000) z) (hb : BoxAt H b n) (hn : n ≤ 100000) (h : ∀ (z' : Str) (H' : Hp), z'.length ≤ 2 * z.length + 1 → Cs (· < 0x110000) z' → Keep b H H' → BoxAt H' b (n + 3) → Q (.str z') H') : sp_spoilt ([.ref b, .str z] ++ []) H Q E := ⟨b, z, n, rfl, hz, hc, hb, hn, h⟩
theorem u_figures {b : Addr} {n : Nat} (hb : BoxAt H b n) (hn : n ≤ 100000) (h : ∀ (i : Int) (H' : Hp), -100000000000000000000 ≤ i → i ≤ 100000000000000000000 → Keep b H H' → BoxAt H' b (n + 21) → Q (.int i) H') : sp_figures ([.ref b] ++ []) H Q E := ⟨b, n, rfl, hb, hn, h⟩
theorem u_odd {b : Addr} {z : Str} {n : Nat} (hz : z.length ≤ 100) (hc : Cs (· < 128) z) (hb : BoxAt H b n) (hn : n ≤ 100000) (h : ∀ (x : V) (H' : Hp), Th H' x → Keep b H H' → BoxAt H' b (n + 2) → Q x H') : sp_odd ([.ref b, .str z] ++ []) H Q E := ⟨b, z, n, rfl, hz, hc, hb, hn, h⟩
theorem u_signs (h : Q (.str signs) H) : sp_signs ([] ++ []) H Q E := ⟨rfl, h⟩
local macro_rules | `(tactic| wtm_at "box") => `(tactic| first | with_reducible assumption | ((with_reducible refine' BoxAt.same ?ga ?gb); (case ga => with_reducible assumption); (case gb => wtm_at "box")) | ((with_reducible refine' BoxAt.keep ?ga ?gc ?gb); (case ga => with_reducible assumption); (case gb => wtm_at "box"); (case gc => wtm_at "ne")))
local macro_rules | `(tactic| wtm_at "ne2") => `(tactic| ((with_reducible refine' BoxAt.ne ?ga ?gb); (case gb => with_reducible assumption); (case ga => wtm_at "box")))
local macro_rules | `(tactic| wtm_at "free2") => `(tactic| ((with_reducible refine' free_box ?ga ?gc ?gb); (case ga => with_reducible assumption); (case gc => wtm_at "box"); (case gb => wtm_at "keep")))
local macro_rules | `(tactic| wtm_at "u") => `(tactic| first
  | ((with_reducible refine' u_take ?s1 ?s2 ?s3 ?s4 ?_); (case s1 => wtm_at "box"); (case s2 => omega); (case s3 => omega); (case s4 => omega); intro r' H' hr0 hr1 kp bx)
  | ((with_reducible refine' u_spoilt ?s1 ?s0 ?s2 ?s3 ?_); (case s1 => omega); (case s0 => assumption); (case s2 => wtm_at "box"); (case s3 => omega); intro z' H' hz' cz' kp bx)
  | ((with_reducible refine' u_figures ?s2 ?s3 ?_); (case s2 => wtm_at "box"); (case s3 => omega); intro i' H' hi1 hi2 kp bx)
  | ((with_reducible refine' u_odd ?s1 ?s0 ?s2 ?s3 ?_); (case s1 => omega); (case s0 => assumption); (case s2 => wtm_at "box"); (case s3 => omega); intro x' H' hx' kp bx)
  | (with_reducible refine u_signs ?_))
theorem pure_cell (vs : List V) (H : Hp) (Q : VK) (E : XK) (h : sp_cell K vs H Q E) : t__law_cell K { nx := fun _ H' => Q .non H', rt := Q } (start ["_law_script", "_law_k"] vs) H := by
  obtain ⟨a, ns, k, rfl, hs, hl, h0, h1, q⟩ := h
  unfold t__law_cell
  repeat wtm_at "w"
  refine v_lenQ hs ?_
  repeat wtm_at "w"
  refine iteB (fun c => ?_) (fun c => ?_)
  · repeat wtm_at "w"
    have hk : k < ((ns.map V.int).length : Nat) := of_decide_eq_true c
    rw [List.length_map] at hk
    have hk2 : k.toNat < ns.length := by omega
    refine v_ixQo hs h0 (by rw [List.length_map]; omega) fun v hv _ => ?_
    obtain ⟨i, _, rfl⟩ := List.mem_map.mp hv
    exact q _
  · repeat wtm_at "w"
    exact q _
theorem pure_box (vs : List V) (H : Hp) (Q : VK) (E : XK) (h : sp_box vs H Q E) : t__law_box K { nx := fun _ H' => Q .non H', rt := Q } (start ["_law_cell_here"] vs) H := by
  obtain ⟨c, rfl, q⟩ := h
  unfold t__law_box
  repeat wtm_at "w"
  rename_i b H1 hb sm e
  refine q b hb _ sm ⟨_, _, _, e, ?_, Int.emod_nonneg _ (by decide), Int.emod_lt_of_pos _ (by decide), Int.le_refl 0, Int.le_refl 0⟩
  split <;> omega
theorem pure_signs (vs : List V) (H : Hp) (Q : VK) (E : XK) (h : sp_signs vs H Q E) : t__law_signs K { nx := fun _ H' => Q .non H', rt := Q } (start [] vs) H := by
  obtain ⟨rfl, q⟩ := h
  exact q
theorem pure_spoilt (vs : List V) (H : Hp) (Q : VK) (E : XK) (h : sp_spoilt vs H Q E) : t__law_spoilt K sp_take sp_signs { nx := fun _ H' => Q .non H', rt := Q } (start ["_law_box_here", "_law_text", "_law_way", "_law_at", "_law_signs_here", "_law_sign"] vs) H := by
  obtain ⟨b, z, n, rfl, hz, hcs, hb, hn, q⟩ := h
  unfold t__law_spoilt
  have h95 : Cs (· < 0x110000) (signs ++ Str.ofString "\n") := (cs_ofString _).app (cs_ofString _)
  have e95 : (signs ++ Str.ofString "\n").length = 95 := by decide +kernel
  repeat (first | wtm_at "w" | wtm_at "u")
  refine iteB (fun c1 => ?_) (fun c1 => ?_)
  · repeat wtm_at "w"
    exact q z _ (by omega) hcs (by wtm_at "keep") (by assumption)
  · repeat wtm_at "w"
    refine iteB (fun c2 => ?_) (fun c2 => ?_)
    · repeat wtm_at "w"
      refine q _ _ ?_ (((hcs.cut _ _).app (Cs.one (h95 _ (by assumption)))).app (hcs.cut _ _)) (by wtm_at "keep") (by assumption)
      rw [str_app, str_app, one_len]
      exact (by omega : ∀ a b : Nat, a ≤ z.length → b ≤ z.length → a + 1 + b ≤ 2 * z.length + 1) _ _ (cutS_le _ _ _) (cutS_le _ _ _)
    · repeat wtm_at "w"
      refine q _ _ ?_ (((hcs.cut _ _).app (Cs.one (h95 _ (by assumption)))).app (hcs.cut _ _)) (by wtm_at "keep") (by assumption)
      rw [str_app, str_app, one_len]
      exact (by omega : ∀ a b : Nat, a ≤ z.length → b ≤ z.length → a + 1 + b ≤ 2 * z.length + 1) _ _ (cutS_le _ _ _) (cutS_le _ _ _)
theorem pure_figures (vs : List V) (H : Hp) (Q : VK) (E : XK) (h : sp_figures vs H Q E) : t__law_figures K sp_take { nx := fun _ H' => Q .non H', rt := Q } (start ["_law_box_here", "_law_many", "_law_number", "_law_k"] vs) H := by
  obtain ⟨b, n, rfl, hb, hn, q⟩ := h
  unfold t__law_figures
  repeat (first | wtm_at "w" | wtm_at "u")
  rename_i r H1 hr0 hr1 kp bx
  refine for_rel walk_rngAt (fun i σ H' => ∃ (v : Int) (k : Option V), σ = [some (.ref b), some (.int (1 + r)), some (.int v), k] ∧ 0 ≤ v ∧ v < ((10 ^ i : Nat) : Int) ∧ Keep b H H' ∧ BoxAt H' b (n + 1 + i))
    ⟨0, none, rfl, Int.le_refl 0, by decide, kp, bx⟩ (fun _ _ _ _ _ => trivial) ?_ ?_
  · rintro i x σ H2 hi hx ⟨v, k, rfl, hv0, hv1, kp2, bx2⟩
    rw [rngItems_len] at hi
    have hp : 10 ^ i ≤ 10 ^ 19 := Nat.pow_le_pow_right (by decide) (by omega)
    have hps : 10 ^ (i + 1) = 10 ^ i * 10 := Nat.pow_succ ..
    generalize 10 ^ i = t at hv1 hp hps
    rw [show (10 : Nat) ^ 19 = 10000000000000000000 from rfl] at hp
    repeat (first | wtm_at "w" | wtm_at "u")
    exact ⟨_, _, rfl, by omega, by rw [hps]; omega, by wtm_at "keep", by assumption⟩
  · rintro σ H2 ⟨v, k, rfl, hv0, hv1, kp2, bx2⟩
    rw [rngItems_len] at hv1 bx2
    have hp : 10 ^ (1 + r).toNat ≤ 10 ^ 19 := Nat.pow_le_pow_right (by decide) (by omega)
    generalize 10 ^ (1 + r).toNat = t at hv1 hp
    rw [show (10 : Nat) ^ 19 = 10000000000000000000 from rfl] at hp
    repeat (first | wtm_at "w" | wtm_at "u")
    rename_i p2 H2' hp2 sm2 ep2 r2 H3 hr20 hr21 kp3 bx3
    have np : b ≠ p2 := bx2.ne hp2
    refine v_ixLo (xs := [.int 1, .int (-1)]) (by wtm_at "hp") hr20 (lt_len 2 rfl (by omega)) fun y hy _ => ?_
    have k4 : Keep b H H3 := by wtm_at "keep"
    simp only [List.mem_cons, List.mem_nil_iff, or_false] at hy
    rcases hy with rfl | rfl
    all_goals
      repeat wtm_at "w"
      exact q _ _ (by omega) (by omega) k4 (bx3.mono (by omega))
theorem pure_odd (vs : List V) (H : Hp) (Q : VK) (E : XK) (h : sp_odd vs H Q E) : t__law_odd K sp_take { nx := fun _ H' => Q .non H', rt := Q } (start ["_law_box_here", "_law_name", "_law_nested", "_law_k", "_law_number", "_law_some"] vs) H := by
  obtain ⟨b, z, n, rfl, hz, hcs, hb, hn, q⟩ := h
  unfold t__law_odd
  repeat (first | wtm_at "w" | wtm_at "u")
  rename_i p H1 hp sm1 ep1
  refine for_rel walk_rngAt (fun i σ H' => ∃ (p : Addr) (xs : List V) (k : Option V), σ = [some (.ref b), some (.str z), some (.ref p), k, none, none] ∧ H' p = some (.lst xs) ∧ Same H H' ∧ BoxAt H' b n ∧ b ≠ p)
    ⟨p, _, none, rfl, ep1, sm1, by wtm_at "box", by wtm_at "ne"⟩ (fun _ _ _ _ _ => trivial) ?_ ?_
  · rintro i x σ H2 hi hx ⟨p, xs, k, rfl, e2, kp2, bx2, ne2⟩
    repeat (first | wtm_at "w" | wtm_at "u")
    exact ⟨_, _, _, rfl, by assumption, by wtm_at "same", by wtm_at "box", by wtm_at "ne"⟩
  · rintro σ H2 ⟨p, xs, k, rfl, e2, kp2, bx2, ne2⟩
    repeat (first | wtm_at "w" | wtm_at "u")
    rename_i p8 H8 hp8 sm8 ep8 r2 H4 hr20 hr21 kp4 bx4
    refine' v_ixLo ?e1 hr20 ?e2 ?_
    (case e1 => wtm_at "hp")
    (case e2 => exact lt_len 14 rfl (by omega))
    intro y hy _
    refine q y H4 (Th.keep ?_ kp4 bx4) (by wtm_at "keep") bx4
    have hu : (Txt.upper z).length ≤ 10000 := Nat.le_trans (len_upper z) (by omega)
    have hu2 : Cs (· < 0x110000) (Txt.upper z) := by
      rw [upper_ascii hcs]
      intro c hc
      have hc' : c ∈ z.cps.toList.map up1 := by simpa using hc
      obtain ⟨d, hd, rfl⟩ := List.mem_map.mp hc'
      exact up1_lt (hcs d hd)
    simp only [List.mem_cons, List.mem_nil_iff, or_false] at hy
    rcases hy with rfl | rfl | rfl | rfl | rfl | rfl | rfl | rfl | rfl | rfl | rfl | rfl | rfl | rfl
    all_goals first | exact .non | exact .bl _ | exact .int _ | exact .str _ hu hu2 | (refine' Th.lst ?g; (case g => wtm_at "hp")) | (refine' Th.tup ?g; (case g => wtm_at "hp")) | (refine' Th.dK ?g; (case g => wtm_at "hp"))
end Hk

namespace Hk
open PySem PySem.Spec PyProof.Rows L2 He
local macro_rules | `(tactic| wtm_at "hp") => `(tactic| first | with_reducible assumption | ((with_reducible refine' get_same ?ga ?gb); (case ga => with_reducible assumption); (case gb => wtm_at "hp")) | ((with_reducible refine' get_keep ?ga ?gc ?gb); (case ga => with_reducible assumption); (case gc => wtm_at "ne"); (case gb => wtm_at "hp")))
local macro_rules | `(tactic| wtm_at "hs") => `(tactic| first | with_reducible assumption | ((with_reducible refine' get_same ?ga ?gb); (case ga => with_reducible assumption); (case gb => wtm_at "hs")) | ((with_reducible refine' get_keep ?ga ?gc ?gb); (case ga => with_reducible assumption); (case gc => first | with_reducible assumption | (refine Ne.symm ?_; with_reducible assumption)); (case gb => wtm_at "hs")))
local macro_rules | `(tactic| wtm_at "ne") => `(tactic| first | with_reducible assumption | (refine Ne.symm ?_; with_reducible assumption) | ((with_reducible refine' ne_new ?ga ?gb); (case ga => with_reducible assumption); (case gb => wtm_at "hs")) | (refine Ne.symm ?_; (with_reducible refine' ne_new ?ga ?gb); (case ga => with_reducible assumption); (case gb => wtm_at "hs")) | wtm_at "ne2" | (refine Ne.symm ?_; wtm_at "ne2"))
local macro_rules | `(tactic| wtm_at "free") => `(tactic| first | with_reducible assumption | ((with_reducible refine' free_same ?ga ?gb); (case ga => with_reducible assumption); (case gb => wtm_at "same")) | ((with_reducible refine' free_keep ?ga ?gc ?gb); (case ga => with_reducible assumption); (case gb => wtm_at "keep"); (case gc => wtm_at "hp")) | wtm_at "free2")
local macro_rules | `(tactic| wtm_at "side") => `(tactic| first | assumption | decide | omega)
local macro_rules | `(tactic| wtm_at "kb") => `(tactic| first | exact kb_NoneType_int | exact kb_NoneType_bool | exact kb_NoneType_str | exact kb_NoneType_list | exact kb_NoneType_tuple | exact kb_NoneType_dict | exact kb_bool_int | exact kb_bool_bool | exact kb_bool_str | exact kb_bool_list | exact kb_bool_tuple | exact kb_bool_dict | exact kb_int_int | exact kb_int_bool | exact kb_int_str | exact kb_int_list | exact kb_int_tuple | exact kb_int_dict | exact kb_str_int | exact kb_str_bool | exact kb_str_str | exact kb_str_list | exact kb_str_tuple | exact kb_str_dict | exact kb_list_int | exact kb_list_bool | exact kb_list_str | exact kb_list_list | exact kb_list_tuple | exact kb_list_dict | exact kb_tuple_int | exact kb_tuple_bool | exact kb_tuple_str | exact kb_tuple_list | exact kb_tuple_tuple | exact kb_tuple_dict | exact kb_dict_int | exact kb_dict_bool | exact kb_dict_str | exact kb_dict_list | exact kb_dict_tuple | exact kb_dict_dict)
local macro_rules | `(tactic| wtm_at "w") => `(tactic| (first
  | (with_reducible refine w_seq ?_) | (with_reducible refine w_asg ?_) | (with_reducible refine w_name ?_) | (with_reducible refine w_var rfl ?_) | (with_reducible refine w_c ?_)
  | (with_reducible refine w_op ?_) | (with_reducible refine w_ret ?_) | (with_reducible refine w_if ?_) | (with_reducible refine w_test ?_) | (with_reducible refine w_bl ?_) | (with_reducible refine w_cb ?_)
  | (with_reducible refine w_call ?_) | (with_reducible refine w_nil ?_) | (with_reducible refine w_cons ?_) | (with_reducible refine w_drop ?_) | (with_reducible refine w_next ?_)
  | (with_reducible refine w_tB ?_) | (with_reducible refine w_and ?_) | (with_reducible refine w_or ?_) | (with_reducible refine w_not ?_) | (with_reducible refine w_andV ?_) | (with_reducible refine w_orV ?_)
  | (with_reducible refine w_notV ?_) | (with_reducible refine w_chain ?_) | (with_reducible refine w_ifE ?_) | (with_reducible refine w_un ?_) | (with_reducible refine w_sl ?_) | (with_reducible refine w_noPart ?_)
  | (with_reducible refine w_part ?_) | (with_reducible refine w_int ?_) | (with_reducible refine w_sub ?_) | (with_reducible refine w_bm ?_) | (with_reducible refine w_tM0 ?_) | (with_reducible refine w_tM1 ?_) | (with_reducible refine w_strA ?_)
  | ((with_reducible refine w_disp ?_); intro p' H' hp' sm' ep') | (with_reducible refine w_pnil ?_) | ((with_reducible refine w_dend ?s0 ?s1 ?s2 ?_); (case s0 => wtm_at "hp"); (case s1 => rfl); (case s2 => exact Nat.le_of_ble_eq_true rfl); intro H' kp' ep') | (with_reducible refine w_pcons ?_) | ((with_reducible refine w_dnew ?_); intro p' H' hp' sm' ep')
  | (with_reducible refine w_lst ?_) | (with_reducible refine w_tup ?_) | ((with_reducible refine w_new ?s ?_); (case s => exact Nat.le_of_ble_eq_true rfl); intro p' H' hp' sm' ep')
  | (with_reducible refine iteT ?_) | (with_reducible refine iteF ?_) | ((with_reducible refine iteTrue ?s ?_); (case s => rfl)) | ((with_reducible refine iteFalse ?s ?_); (case s => rfl))
  | (with_reducible refine v_addI ?_) | (with_reducible refine v_sub ?_) | (with_reducible refine v_neg ?_) | (with_reducible refine v_le ?_) | (with_reducible refine v_gt ?_) | (with_reducible refine v_ge ?_) | (with_reducible refine v_lt ?_)
  | (with_reducible refine v_eqI ?_) | (with_reducible refine v_inT ?_) | (with_reducible refine v_notInT ?_) | (with_reducible refine v_max2 ?_) | (with_reducible refine v_min2 ?_) | (with_reducible refine v_tyS ?_)
  | ((with_reducible refine v_mod ?s ?_); (case s => wtm_at "side"))
  | ((with_reducible refine v_mulI ?s ?_); (case s => first | exact s_mul (by omega) (by omega) | (unfold CMulW; decide +kernel)))
  | ((with_reducible refine v_div ?s ?_); (case s => exact s_div (by omega) (by omega)))
  | ((with_reducible refine v_pow ?s ?_); (case s => exact s_pow (by decide) (by decide) (by omega)))
  | ((with_reducible refine' v_ixSo ?s1 ?s2 ?s3 ?_); (case s1 => wtm_at "size"); (case s2 => omega); (case s3 => first | omega | (simp only [show _ = _ from by assumption]; omega)); intro c' hc' hc2)
  | ((with_reducible refine' v_ixL ?s1 ?s2 ?_); (case s1 => wtm_at "hp"); (case s2 => rfl))
  | ((with_reducible refine' v_setL ?s1 ?s2 ?_); (case s1 => wtm_at "hp"); (case s2 => rfl); intro H' kp' ep')
  | ((with_reducible refine' v_tyL ?s1 ?_); (case s1 => wtm_at "hp"))
  | (with_reducible refine w_yes ?_) | (with_reducible refine w_lc ?_) | (with_reducible refine w_iStr ?_) | (with_reducible refine w_str ?_) | (with_reducible refine w_iList ?_) | (with_reducible refine w_iRng1 ?_) | (with_reducible refine w_for ?_)
  | ((with_reducible refine' w_refL ?s1 ?_); (case s1 => wtm_at "hp"))
  | ((with_reducible refine' w_rng1 ?s1 ?s2 ?_); (case s1 => omega); (case s2 => omega))
  | ((with_reducible refine' v_isiI ?s1 ?_); (case s1 => wtm_at "kb")) | ((with_reducible refine' v_isiS ?s1 ?_); (case s1 => wtm_at "kb")) | ((with_reducible refine' v_isiB ?s1 ?_); (case s1 => wtm_at "kb")) | ((with_reducible refine' v_isiN ?s1 ?_); (case s1 => wtm_at "kb"))
  | ((with_reducible refine' v_isiL ?s1 ?s2 ?_); (case s1 => wtm_at "hp"); (case s2 => wtm_at "kb")) | ((with_reducible refine' v_isiU ?s1 ?s2 ?_); (case s1 => wtm_at "hp"); (case s2 => wtm_at "kb")) | ((with_reducible refine' v_isiD ?s1 ?s2 ?_); (case s1 => wtm_at "hp"); (case s2 => wtm_at "kb"))
  | ((with_reducible refine v_upper ?s1 ?_); (case s1 => omega))
  | ((with_reducible refine' v_lenS ?s1 ?_); (case s1 => wtm_at "size"))
  | ((with_reducible refine' v_lenL ?s1 ?_); (case s1 => wtm_at "hp"))
  | ((with_reducible refine' v_addT ?s1 ?_); (case s1 => wtm_at "size"))
  | ((with_reducible refine' v_slS ?s1 ?_); (case s1 => wtm_at "size"))))
local macro_rules | `(tactic| wtm_at "ln") => `(tactic| first | omega | exact len_one (by omega) | (refine len_cut ?_; wtm_at "ln") | (refine len_app ?_ ?_ <;> wtm_at "ln") | decide +kernel)
local macro_rules | `(tactic| wtm_at "size") => `(tactic| first | assumption | (refine len_line1 ?_; wtm_at "ln") | (refine len_line ?_ ?_ <;> wtm_at "ln") | decide +kernel)
local macro_rules | `(tactic| wtm_at "keep") => `(tactic| first | with_reducible exact Keep.refl _ _ | with_reducible assumption | ((with_reducible refine' keep_afterS ?ga ?gb); (case ga => with_reducible assumption); (case gb => wtm_at "keep")) | ((with_reducible refine' Keep.after ?ga ?gb); (case ga => with_reducible assumption); (case gb => wtm_at "keep")) | ((with_reducible refine' keep_afterN ?ga ?gc ?gb); (case ga => with_reducible assumption); (case gb => wtm_at "keep"); (case gc => wtm_at "free")))
local macro_rules | `(tactic| wtm_at "same") => `(tactic| first | with_reducible exact Same.refl _ | with_reducible assumption | ((with_reducible refine' same_after ?ga ?gb); (case ga => with_reducible assumption); (case gb => wtm_at "same")) | ((with_reducible refine' same_afterN ?ga ?gc ?gb); (case ga => with_reducible assumption); (case gb => wtm_at "same"); (case gc => wtm_at "free")))
def sgn : V → Nat
  | .str z => z.cps.getD 0 0
  | _ => 0
theorem flt_all (S : List Nat) : ∀ l : List Nat, ((l.map fun c => V.str ⟨#[c]⟩).filter fun x => !decide (sgn x ∈ S)).isEmpty = l.all fun c => decide (c ∈ S)
  | [] => rfl
  | c :: r => by
    have ih := flt_all S r
    have e : sgn (V.str ⟨#[c]⟩) = c := rfl
    rw [List.map_cons, List.filter_cons, e, List.all_cons]
    by_cases h : c ∈ S
    · simp only [h, decide_true, Bool.not_true, Bool.false_eq_true, if_false, Bool.true_and]
      exact ih
    · simp only [h, decide_false, Bool.not_false, if_true, Bool.false_and, List.isEmpty_cons]
def sp_all_in : Sp := fun vs H Q _ => ∃ z w : Str, vs = [.str z, .str w] ∧ z.length ≤ 10000 ∧ Cs (· < 0x110000) z ∧ ∀ H', Same H H' → Q (.bl (allIn z w)) H'
def sp_due : Sp := fun vs H Q _ => ∃ x, vs = [x] ∧ Th H x ∧ ∀ p H', H p = none → Same H H' → H' p = some (.lst [.bl (wholeV x), .bl (nameV x), .bl (numberV x), .bl (textV x)]) → Q (.ref p) H'
def sp_right : Sp := fun vs H Q _ => ∃ x, vs = [x] ∧ Th H x ∧ ∀ H', Same H H' → Q (.bl true) H'
variable {K : PySem.W.Frag} {H : Hp} {Q : VK} {E : XK}
theorem u_all_in {z w : Str} (hz : z.length ≤ 10000) (hc : Cs (· < 0x110000) z) (h : ∀ H', Same H H' → Q (.bl (allIn z w)) H') : sp_all_in ([.str z, .str w] ++ []) H Q E := ⟨z, w, rfl, hz, hc, h⟩
theorem u_due {x : V} (hx : Th H x) (h : ∀ p H', H p = none → Same H H' → H' p = some (.lst [.bl (wholeV x), .bl (nameV x), .bl (numberV x), .bl (textV x)]) → Q (.ref p) H') : sp_due ([x] ++ []) H Q E := ⟨x, rfl, hx, h⟩
theorem u_right {x : V} (hx : Th H x) (h : ∀ H', Same H H' → Q (.bl true) H') : sp_right ([x] ++ []) H Q E := ⟨x, rfl, hx, h⟩
local macro_rules | `(tactic| wtm_at "th") => `(tactic| first | with_reducible assumption | (refine' Th.same ?ga ?gb; (case ga => with_reducible assumption); (case gb => wtm_at "same")))
local macro_rules | `(tactic| wtm_at "u") => `(tactic| first
  | ((with_reducible refine' u_all_in ?s1 ?s2 ?_); (case s1 => omega); (case s2 => assumption); intro H' sm')
  | (with_reducible refine u_signs ?_)
  | ((with_reducible refine' u_B ?s1 ?_); (case s1 => wtm_at "th"); intro H' sm')
  | ((with_reducible refine' u_due ?s1 ?_); (case s1 => wtm_at "th"); intro p' H' hp' sm' ep'))
theorem pure_all_in (vs : List V) (H : Hp) (Q : VK) (E : XK) (h : sp_all_in vs H Q E) : t__law_all_in K { nx := fun _ H' => Q .non H', rt := Q } (start ["_law_thing", "_law_signs_here", "_law_sign"] vs) H := by
  obtain ⟨z, w, rfl, hz, hc, q⟩ := h
  unfold t__law_all_in
  repeat wtm_at "w"
  refine lc_pure walk_strAt (fun x => !decide (sgn x ∈ w.cps.toList)) id (by rw [strItems_len]; show z.length ≤ _; omega) (fun _ _ => trivial) (fun _ => rfl) (fun x hx H1 R s1 k => ?_) (fun x hx _ H1 R s1 k => ?_) (fun D H' hD s' e => ?_)
  · obtain ⟨c, hc, rfl⟩ := mem_str hx
    repeat wtm_at "w"
    exact k H1 (Same.refl H1)
  · obtain ⟨c, hc, rfl⟩ := mem_str hx
    repeat wtm_at "w"
    exact k H1 (Same.refl H1)
  · repeat wtm_at "w"
    rename_i p2 H2 hp2 sm2 ep2
    have ok : ∀ x, x ∈ ((strItems z).filter (fun x => !decide (sgn x ∈ w.cps.toList))).map id → okD x := by
      intro x hx
      rw [List.map_id] at hx
      obtain ⟨c, hc2, rfl⟩ := mem_str (List.mem_filter.mp hx).1
      exact Cs.one (hc c hc2)
    refine v_eqL (sm2 _ _ e) ep2 ok (fun x hx => nomatch hx) ?_
    rw [eqvAll_nil]
    refine q_bl ?_ (q _ (s'.trans sm2))
    unfold allIn strItems
    rw [List.map_id, flt_all]
theorem pure_due (vs : List V) (H : Hp) (Q : VK) (E : XK) (h : sp_due vs H Q E) : t__law_due K sp_all_in sp_signs { nx := fun _ H' => Q .non H', rt := Q } (start ["_law_thing", "_law_whole", "_law_number", "_law_name", "_law_text"] vs) H := by
  obtain ⟨x, rfl, hx, q⟩ := h
  unfold t__law_due
  cases hx
  case str z hz ok =>
    have fin : ∀ (H1 : Hp) (a b : Bool), ∀ p H', H' p = some (.lst [.bl false, .bl a, .bl false, .bl b]) → Same H1 H' → H1 p = none → Same H H1 → nameV (.str z) = a → textV (.str z) = b → Q (.ref p) H' := by
      intro H1 a b p H' e s2 hp s1 e1 e2
      refine q p H' (free_same hp s1) (s1.trans s2) ?_
      rw [e1, e2]; exact e
    have tx : ∀ b : Bool, decide ((z.length : Int) < 41) = b → textV (.str z) = (b && allIn z signs) := by
      intro b hb
      rw [textV_str, ← hb]
      congr 1
      exact decide_eq_decide.mpr (by omega)
    have nm : ∀ a b : Bool, decide (0 < (z.length : Int)) = a → decide ((z.length : Int) < 9) = b → nameV (.str z) = (a && (b && allIn z letters)) := by
      intro a b ha hb
      rw [nameV_str, ← ha, ← hb]
      congr 1
      congr 1
      exact decide_eq_decide.mpr (by omega)
    repeat (first | wtm_at "w" | wtm_at "u")
    refine iteB (fun c1 => ?_) (fun c1 => ?_)
    · repeat (first | wtm_at "w" | wtm_at "u")
      refine iteB (fun c2 => ?_) (fun c2 => ?_)
      · repeat (first | wtm_at "w" | wtm_at "u")
        refine iteB (fun c3 => ?_) (fun c3 => ?_)
        · repeat (first | wtm_at "w" | wtm_at "u")
          refine' fin _ _ _ _ _ ?g1 ?g2 ?g3 ?g4 (nm _ _ c1 c2) (tx _ c3)
          (case g1 => assumption); (case g2 => with_reducible assumption); (case g3 => with_reducible assumption); (case g4 => wtm_at "same")
        · repeat (first | wtm_at "w" | wtm_at "u")
          refine' fin _ _ _ _ _ ?g1 ?g2 ?g3 ?g4 (nm _ _ c1 c2) (tx _ c3)
          (case g1 => assumption); (case g2 => with_reducible assumption); (case g3 => with_reducible assumption); (case g4 => wtm_at "same")
      · repeat (first | wtm_at "w" | wtm_at "u")
        refine iteB (fun c3 => ?_) (fun c3 => ?_)
        · repeat (first | wtm_at "w" | wtm_at "u")
          refine' fin _ _ _ _ _ ?g1 ?g2 ?g3 ?g4 (nm _ _ c1 c2) (tx _ c3)
          (case g1 => assumption); (case g2 => with_reducible assumption); (case g3 => with_reducible assumption); (case g4 => wtm_at "same")
        · repeat (first | wtm_at "w" | wtm_at "u")
          refine' fin _ _ _ _ _ ?g1 ?g2 ?g3 ?g4 (nm _ _ c1 c2) (tx _ c3)
          (case g1 => assumption); (case g2 => with_reducible assumption); (case g3 => with_reducible assumption); (case g4 => wtm_at "same")
    · repeat (first | wtm_at "w" | wtm_at "u")
      refine iteB (fun c3 => ?_) (fun c3 => ?_)
      · repeat (first | wtm_at "w" | wtm_at "u")
        refine' fin _ _ _ _ _ ?g1 ?g2 ?g3 ?g4 (nm _ _ c1 rfl) (tx _ c3)
        (case g1 => assumption); (case g2 => with_reducible assumption); (case g3 => with_reducible assumption); (case g4 => wtm_at "same")
      · repeat (first | wtm_at "w" | wtm_at "u")
        refine' fin _ _ _ _ _ ?g1 ?g2 ?g3 ?g4 (nm _ _ c1 rfl) (tx _ c3)
        (case g1 => assumption); (case g2 => with_reducible assumption); (case g3 => with_reducible assumption); (case g4 => wtm_at "same")
  case int i =>
    have fin : ∀ (a b : Bool), decide (-1000000000000000000 < i) = a → decide (i < 1000000000000000000) = b → ∀ p H', H p = none → Same H H' → H' p = some (.lst [.bl true, .bl false, .bl (a && b), .bl false]) → Q (.ref p) H' := by
      intro a b ha hb p H' hp s2 e
      refine q p H' hp s2 ?_
      rw [numberV_int, ha, hb]; exact e
    repeat (first | wtm_at "w" | wtm_at "u")
    refine iteB (fun c1 => ?_) (fun c1 => ?_)
    · repeat (first | wtm_at "w" | wtm_at "u")
      exact fin _ _ c1 rfl _ _ (by assumption) (by assumption) (by assumption)
    · repeat (first | wtm_at "w" | wtm_at "u")
      exact fin _ _ c1 rfl _ _ (by assumption) (by assumption) (by assumption)
  all_goals (repeat (first | wtm_at "w" | wtm_at "u")); exact q _ _ (by wtm_at "free") (by wtm_at "same") (by assumption)
theorem pure_right (vs : List V) (H : Hp) (Q : VK) (E : XK) (h : sp_right vs H Q E) : t__law_right K (spB textV) (spB numberV) (spB nameV) (spB wholeV) sp_due { nx := fun _ H' => Q .non H', rt := Q } (start ["_law_thing", "_law_found", "_law_one"] vs) H := by
  obtain ⟨x, rfl, hx, q⟩ := h
  unfold t__law_right
  repeat (first | wtm_at "w" | wtm_at "u")
  rename_i p H5 hp sm ep
  refine lc_pure (src := [.bl (wholeV x), .bl (nameV x), .bl (numberV x), .bl (textV x)]) (walk_list (K := K) (a := p)) (fun x => false) id (Nat.le_of_ble_eq_true rfl) (fun H' s' => .inl (.inl (s' _ _ ep))) (fun _ => rfl) (fun y hy H1 R s1 k => ?_) (fun y hy c => nomatch c) (fun D H' hD s' e => ?_)
  · simp only [List.mem_cons, List.mem_nil_iff, or_false] at hy
    rcases hy with rfl | rfl | rfl | rfl
    all_goals
      repeat wtm_at "w"
      exact k H1 (Same.refl H1)
  · repeat wtm_at "w"
    refine' v_eqL ?g1 ?g2 ?g3 ?g4 ?_
    (case g1 => wtm_at "hp"); (case g2 => wtm_at "hp")
    (case g3 => exact fun x hx => by simp at hx)
    (case g4 => exact fun x hx => nomatch hx)
    have e0 : PyData.eqvAll ((([V.bl (wholeV x), V.bl (nameV x), V.bl (numberV x), V.bl (textV x)].filter fun x => false).map id).map flatD) (([] : List V).map flatD) = true := rfl
    repeat (first | wtm_at "w" | wtm_at "u")
    rename_i p9 H9 hp9 sm9 ep9
    have okb : ∀ y, y ∈ [V.bl (wholeV x), V.bl (nameV x), V.bl (numberV x), V.bl (textV x)] → okD y := by
      intro y hy
      simp only [List.mem_cons, List.mem_nil_iff, or_false] at hy
      rcases hy with rfl | rfl | rfl | rfl <;> exact trivial
    refine' v_eqL ?g1 ?g2 okb okb ?_
    (case g1 => wtm_at "hp"); (case g2 => wtm_at "hp")
    refine q_bl (eqvAll_flat okb).symm (q _ (by wtm_at "same"))
end Hk

namespace Hk
open PySem PySem.Spec PyProof.Rows L2 He
local macro_rules | `(tactic| wtm_at "hp") => `(tactic| first | with_reducible assumption | ((with_reducible refine' get_same ?ga ?gb); (case ga => with_reducible assumption); (case gb => wtm_at "hp")) | ((with_reducible refine' get_keep ?ga ?gc ?gb); (case ga => with_reducible assumption); (case gc => wtm_at "ne"); (case gb => wtm_at "hp")))
local macro_rules | `(tactic| wtm_at "hs") => `(tactic| first | with_reducible assumption | ((with_reducible refine' get_same ?ga ?gb); (case ga => with_reducible assumption); (case gb => wtm_at "hs")) | ((with_reducible refine' get_keep ?ga ?gc ?gb); (case ga => with_reducible assumption); (case gc => first | with_reducible assumption | (refine Ne.symm ?_; with_reducible assumption)); (case gb => wtm_at "hs")))
local macro_rules | `(tactic| wtm_at "ne") => `(tactic| first | with_reducible assumption | (refine Ne.symm ?_; with_reducible assumption) | ((with_reducible refine' ne_new ?ga ?gb); (case ga => with_reducible assumption); (case gb => wtm_at "hs")) | (refine Ne.symm ?_; (with_reducible refine' ne_new ?ga ?gb); (case ga => with_reducible assumption); (case gb => wtm_at "hs")) | wtm_at "ne2" | (refine Ne.symm ?_; wtm_at "ne2"))
local macro_rules | `(tactic| wtm_at "free") => `(tactic| first | with_reducible assumption | ((with_reducible refine' free_same ?ga ?gb); (case ga => with_reducible assumption); (case gb => wtm_at "same")) | ((with_reducible refine' free_keep ?ga ?gc ?gb); (case ga => with_reducible assumption); (case gb => wtm_at "keep"); (case gc => wtm_at "hp")) | wtm_at "free2")
local macro_rules | `(tactic| wtm_at "side") => `(tactic| first | assumption | decide | omega)
local macro_rules | `(tactic| wtm_at "kb") => `(tactic| first | exact kb_NoneType_int | exact kb_NoneType_bool | exact kb_NoneType_str | exact kb_NoneType_list | exact kb_NoneType_tuple | exact kb_NoneType_dict | exact kb_bool_int | exact kb_bool_bool | exact kb_bool_str | exact kb_bool_list | exact kb_bool_tuple | exact kb_bool_dict | exact kb_int_int | exact kb_int_bool | exact kb_int_str | exact kb_int_list | exact kb_int_tuple | exact kb_int_dict | exact kb_str_int | exact kb_str_bool | exact kb_str_str | exact kb_str_list | exact kb_str_tuple | exact kb_str_dict | exact kb_list_int | exact kb_list_bool | exact kb_list_str | exact kb_list_list | exact kb_list_tuple | exact kb_list_dict | exact kb_tuple_int | exact kb_tuple_bool | exact kb_tuple_str | exact kb_tuple_list | exact kb_tuple_tuple | exact kb_tuple_dict | exact kb_dict_int | exact kb_dict_bool | exact kb_dict_str | exact kb_dict_list | exact kb_dict_tuple | exact kb_dict_dict)
local macro_rules | `(tactic| wtm_at "w") => `(tactic| (first
  | (with_reducible refine w_seq ?_) | (with_reducible refine w_asg ?_) | (with_reducible refine w_name ?_) | (with_reducible refine w_var rfl ?_) | (with_reducible refine w_c ?_)
  | (with_reducible refine w_op ?_) | (with_reducible refine w_ret ?_) | (with_reducible refine w_if ?_) | (with_reducible refine w_test ?_) | (with_reducible refine w_bl ?_) | (with_reducible refine w_cb ?_)
  | (with_reducible refine w_call ?_) | (with_reducible refine w_nil ?_) | (with_reducible refine w_cons ?_) | (with_reducible refine w_drop ?_) | (with_reducible refine w_next ?_)
  | (with_reducible refine w_tB ?_) | (with_reducible refine w_and ?_) | (with_reducible refine w_or ?_) | (with_reducible refine w_not ?_) | (with_reducible refine w_andV ?_) | (with_reducible refine w_orV ?_)
  | (with_reducible refine w_notV ?_) | (with_reducible refine w_chain ?_) | (with_reducible refine w_ifE ?_) | (with_reducible refine w_un ?_) | (with_reducible refine w_sl ?_) | (with_reducible refine w_noPart ?_)
  | (with_reducible refine w_part ?_) | (with_reducible refine w_int ?_) | (with_reducible refine w_sub ?_) | (with_reducible refine w_bm ?_) | (with_reducible refine w_tM0 ?_) | (with_reducible refine w_tM1 ?_) | (with_reducible refine w_strA ?_)
  | ((with_reducible refine w_disp ?_); intro p' H' hp' sm' ep') | (with_reducible refine w_pnil ?_) | ((with_reducible refine w_dend ?s0 ?s1 ?s2 ?_); (case s0 => wtm_at "hp"); (case s1 => rfl); (case s2 => exact Nat.le_of_ble_eq_true rfl); intro H' kp' ep') | (with_reducible refine w_pcons ?_) | ((with_reducible refine w_dnew ?_); intro p' H' hp' sm' ep')
  | (with_reducible refine w_lst ?_) | (with_reducible refine w_tup ?_) | ((with_reducible refine w_new ?s ?_); (case s => exact Nat.le_of_ble_eq_true rfl); intro p' H' hp' sm' ep')
  | (with_reducible refine iteT ?_) | (with_reducible refine iteF ?_) | ((with_reducible refine iteTrue ?s ?_); (case s => rfl)) | ((with_reducible refine iteFalse ?s ?_); (case s => rfl))
  | (with_reducible refine v_addI ?_) | (with_reducible refine v_sub ?_) | (with_reducible refine v_neg ?_) | (with_reducible refine v_le ?_) | (with_reducible refine v_gt ?_) | (with_reducible refine v_ge ?_) | (with_reducible refine v_lt ?_)
  | (with_reducible refine v_eqI ?_) | (with_reducible refine v_inT ?_) | (with_reducible refine v_notInT ?_) | (with_reducible refine v_max2 ?_) | (with_reducible refine v_min2 ?_) | (with_reducible refine v_tyS ?_)
  | ((with_reducible refine v_mod ?s ?_); (case s => wtm_at "side"))
  | ((with_reducible refine v_mulI ?s ?_); (case s => first | exact s_mul (by omega) (by omega) | (unfold CMulW; decide +kernel)))
  | ((with_reducible refine v_div ?s ?_); (case s => exact s_div (by omega) (by omega)))
  | ((with_reducible refine v_pow ?s ?_); (case s => exact s_pow (by decide) (by decide) (by omega)))
  | ((with_reducible refine' v_ixSo ?s1 ?s2 ?s3 ?_); (case s1 => wtm_at "size"); (case s2 => omega); (case s3 => first | omega | (simp only [show _ = _ from by assumption]; omega)); intro c' hc' hc2)
  | ((with_reducible refine' v_ixL ?s1 ?s2 ?_); (case s1 => wtm_at "hp"); (case s2 => rfl))
  | ((with_reducible refine' v_setL ?s1 ?s2 ?_); (case s1 => wtm_at "hp"); (case s2 => rfl); intro H' kp' ep')
  | ((with_reducible refine' v_tyL ?s1 ?_); (case s1 => wtm_at "hp"))
  | (with_reducible refine w_yes ?_) | (with_reducible refine w_lc ?_) | (with_reducible refine w_iStr ?_) | (with_reducible refine w_str ?_) | (with_reducible refine w_iList ?_) | (with_reducible refine w_iRng1 ?_) | (with_reducible refine w_for ?_)
  | ((with_reducible refine' w_refL ?s1 ?_); (case s1 => wtm_at "hp"))
  | ((with_reducible refine' w_rng1 ?s1 ?s2 ?_); (case s1 => omega); (case s2 => omega))
  | ((with_reducible refine' v_isiI ?s1 ?_); (case s1 => wtm_at "kb")) | ((with_reducible refine' v_isiS ?s1 ?_); (case s1 => wtm_at "kb")) | ((with_reducible refine' v_isiB ?s1 ?_); (case s1 => wtm_at "kb")) | ((with_reducible refine' v_isiN ?s1 ?_); (case s1 => wtm_at "kb"))
  | ((with_reducible refine' v_isiL ?s1 ?s2 ?_); (case s1 => wtm_at "hp"); (case s2 => wtm_at "kb")) | ((with_reducible refine' v_isiU ?s1 ?s2 ?_); (case s1 => wtm_at "hp"); (case s2 => wtm_at "kb")) | ((with_reducible refine' v_isiD ?s1 ?s2 ?_); (case s1 => wtm_at "hp"); (case s2 => wtm_at "kb"))
  | ((with_reducible refine v_upper ?s1 ?_); (case s1 => omega))
  | ((with_reducible refine' v_lenS ?s1 ?_); (case s1 => wtm_at "size"))
  | ((with_reducible refine' v_lenL ?s1 ?_); (case s1 => wtm_at "hp"))
  | ((with_reducible refine' v_addT ?s1 ?_); (case s1 => wtm_at "size"))
  | ((with_reducible refine' v_slS ?s1 ?_); (case s1 => wtm_at "size"))))
local macro_rules | `(tactic| wtm_at "ln") => `(tactic| first | omega | exact len_one (by omega) | (refine len_cut ?_; wtm_at "ln") | (refine len_app ?_ ?_ <;> wtm_at "ln") | decide +kernel)
local macro_rules | `(tactic| wtm_at "size") => `(tactic| first | assumption | (refine len_line1 ?_; wtm_at "ln") | (refine len_line ?_ ?_ <;> wtm_at "ln") | decide +kernel)
local macro_rules | `(tactic| wtm_at "keep") => `(tactic| first | with_reducible exact Keep.refl _ _ | with_reducible assumption | ((with_reducible refine' keep_afterS ?ga ?gb); (case ga => with_reducible assumption); (case gb => wtm_at "keep")) | ((with_reducible refine' Keep.after ?ga ?gb); (case ga => with_reducible assumption); (case gb => wtm_at "keep")) | ((with_reducible refine' keep_afterN ?ga ?gc ?gb); (case ga => with_reducible assumption); (case gb => wtm_at "keep"); (case gc => wtm_at "free")))
local macro_rules | `(tactic| wtm_at "same") => `(tactic| first | with_reducible exact Same.refl _ | with_reducible assumption | ((with_reducible refine' same_after ?ga ?gb); (case ga => with_reducible assumption); (case gb => wtm_at "same")) | ((with_reducible refine' same_afterN ?ga ?gc ?gb); (case ga => with_reducible assumption); (case gb => wtm_at "same"); (case gc => wtm_at "free")))
def sp_things : Sp := fun vs H Q _ => ∃ (b : Addr), vs = [.ref b] ∧ BoxAt H b 0 ∧ ∀ p xs H', H p = none → Keep b H H' → H' p = some (.lst xs) → xs.length ≤ 8 → (∀ x, x ∈ xs → Th H' x) → b ≠ p → Q (.ref p) H'
variable {K : PySem.W.Frag} {H : Hp} {Q : VK} {E : XK}
theorem v_join {p : Addr} {a : Str} {ys : List Str} (hp : H p = some (.lst (ys.map V.str))) (hz : (ys.map (·.length)).sum + ys.length * a.length ≤ 16777216) (h : Q (.str (Txt.join a ys)) H) : rJoin K (.str a) [.ref p] H Q := ⟨a, p, ys, rfl, rfl, .inl (.inl (.inl hp)), hz, h⟩
/-- a comprehension of signs of a text -/
theorem lc_chars {l : Str} {n : Nat} {σ : L2.St} {te : TE} {vs : List Nat} {j : Nat} (hn : n ≤ 100) (hw : ∀ x, wipe ((wipe σ vs).set j (some x)) vs = wipe σ vs)
    (he : ∀ (i : Nat) (H1 : Hp) (R : VK), i < n → (∀ c, c ∈ l.cps.toList → R (.str ⟨#[c]⟩) H1) → te ((wipe σ vs).set j (some (.int (0 + (i : Int))))) H1 R)
    (hd : ∀ D (ys : List Str) H', H D = none → Same H H' → H' D = some (.lst (ys.map V.str)) → (∀ y, y ∈ ys → ∃ c, c ∈ l.cps.toList ∧ y = ⟨#[c]⟩) → ys.length ≤ n → Q (.ref D) H') : LcD (Itr 0 n) (gName j) tYes te vs σ H Q := by
  refine lc_rel walk_rngAt (fun D i acc H' => Same H H' ∧ ∃ ys : List Str, acc = ys.map V.str ∧ (∀ y, y ∈ ys → ∃ c, c ∈ l.cps.toList ∧ y = ⟨#[c]⟩)) (fun D H' hD s e => ⟨s, [], rfl, fun y hy => nomatch hy⟩) (fun _ _ _ _ _ _ _ => trivial) hw ?_ ?_
  · rintro D i x acc H1 hD hi hx e hl ⟨s1, ys, rfl, hy⟩
    rw [rngItems_len] at hi
    obtain ⟨rfl⟩ : x = .int (0 + (i : Int)) := by
      unfold rngItems at hx
      rw [List.getElem?_map, List.getElem?_range hi] at hx
      exact (Option.some.inj hx).symm
    refine w_yes ?_
    with_reducible refine iteT ?_
    refine he i H1 _ hi fun c hc => ?_
    refine LcPut.mk e hl (by omega) fun H2 k2 e2 => ⟨fun a o ha => k2 a o (ne_of_none ha hD) (s1 a o ha), ys ++ [⟨#[c]⟩], by simp, fun y hy2 => ?_⟩
    rcases List.mem_append.mp hy2 with h | h
    · exact hy y h
    · exact ⟨c, hc, by simpa using h⟩
  · rintro D acc H' hD e hl ⟨s1, ys, rfl, hy⟩
    rw [rngItems_len, List.length_map] at hl
    exact hd D ys H' hD s1 e hy hl
theorem chars_sum {l : Str} : ∀ {ys : List Str}, (∀ y, y ∈ ys → ∃ c, c ∈ l.cps.toList ∧ y = ⟨#[c]⟩) → (ys.map (·.length)).sum = ys.length
  | [], _ => rfl
  | y :: r, h => by
    have ih := chars_sum (ys := r) fun z hz => h z (by simp [hz])
    obtain ⟨c, _, rfl⟩ := h y (by simp)
    rw [List.map_cons, List.sum_cons, ih, List.length_cons]
    show 1 + _ = _
    omega
theorem chars_join {l : Str} {P : Nat → Prop} (hl : Cs P l) {ys : List Str} (h : ∀ y, y ∈ ys → ∃ c, c ∈ l.cps.toList ∧ y = ⟨#[c]⟩) : (Txt.join "" ys).length = ys.length ∧ Cs P (Txt.join "" ys) := by
  rw [TL.join_eq]
  refine ⟨by rw [join0_len, chars_sum h], cs_join (fun c hc => nomatch hc) ys fun y hy => ?_⟩
  obtain ⟨c, hc, rfl⟩ := h y hy
  exact Cs.one (hl c hc)
theorem cs_letters : Cs (· < 128) letters := by
  intro c hc
  have := (by decide +kernel : ∀ c ∈ letters.cps.toList, c < 128) c hc
  exact this
local macro_rules | `(tactic| wtm_at "box") => `(tactic| first | with_reducible assumption | ((with_reducible refine' BoxAt.same ?ga ?gb); (case ga => with_reducible assumption); (case gb => wtm_at "box")) | ((with_reducible refine' BoxAt.keep ?ga ?gc ?gb); (case ga => with_reducible assumption); (case gb => wtm_at "box"); (case gc => wtm_at "ne")))
local macro_rules | `(tactic| wtm_at "ne2") => `(tactic| ((with_reducible refine' BoxAt.ne ?ga ?gb); (case gb => with_reducible assumption); (case ga => wtm_at "box")))
local macro_rules | `(tactic| wtm_at "free2") => `(tactic| ((with_reducible refine' free_box ?ga ?gc ?gb); (case ga => with_reducible assumption); (case gc => wtm_at "box"); (case gb => wtm_at "keep")))
local macro_rules | `(tactic| wtm_at "u") => `(tactic| first
  | ((with_reducible refine' u_take ?s1 ?s2 ?s3 ?s4 ?_); (case s1 => wtm_at "box"); (case s2 => omega); (case s3 => omega); (case s4 => omega); intro r' H' hr0 hr1 kp bx)
  | ((with_reducible refine' u_spoilt ?s1 ?s0 ?s2 ?s3 ?_); (case s1 => omega); (case s0 => assumption); (case s2 => wtm_at "box"); (case s3 => omega); intro z' H' hz' cz' kp bx)
  | ((with_reducible refine' u_figures ?s2 ?s3 ?_); (case s2 => wtm_at "box"); (case s3 => omega); intro i' H' hi1 hi2 kp bx)
  | ((with_reducible refine' u_odd ?s1 ?s0 ?s2 ?s3 ?_); (case s1 => omega); (case s0 => assumption); (case s2 => wtm_at "box"); (case s3 => omega); intro x' H' hx' kp bx)
  | (with_reducible refine u_signs ?_))
theorem pure_things (vs : List V) (H : Hp) (Q : VK) (E : XK) (h : sp_things vs H Q E) : t__law_things K sp_signs sp_take sp_figures sp_spoilt sp_odd { nx := fun _ H' => Q .non H', rt := Q } (start ["_law_box_here", "_law_letters", "_law_signs_here", "_law_first", "_law_step", "_law_name", "_law_k", "_law_size", "_law_text", "_law_edge", "_law_things_here"] vs) H := by
  obtain ⟨b, rfl, hb, q⟩ := h
  unfold t__law_things
  have e26 : letters.length = 26 := by decide +kernel
  have e94 : signs.length = 94 := by decide +kernel
  repeat (first | wtm_at "w" | wtm_at "u")
  refine lc_chars (l := letters) (by omega) (fun _ => rfl) ?_ ?_
  · intro i H1 R hi k
    repeat (first | wtm_at "w" | wtm_at "u")
    refine v_ixSo (z := letters) (by rw [e26]; decide) (Int.emod_nonneg _ (by decide)) (by rw [e26]; exact Int.emod_lt_of_pos _ (by decide)) fun c hc _ => k c hc
  · intro D ys H1 hD s1 e1 hy hl
    have hj := chars_join cs_letters hy
    repeat (first | wtm_at "w" | wtm_at "u")
    refine' v_join ?g1 ?g2 ?_
    (case g1 => wtm_at "hp")
    (case g2 => rw [chars_sum hy]; show ys.length + ys.length * 0 ≤ _; omega)
    obtain ⟨hj1, hj2⟩ := hj
    generalize Txt.join (Str.ofString "") ys = nm at hj1 hj2
    repeat (first | wtm_at "w" | wtm_at "u")
    rename_i r1 G1 hr10 hr11 kq1 by1 r2 G2 hr20 hr21 kq2 by2 r3 G3 hr30 hr31 kq3 by3 p3 G4 f4 m4 e4 r5 G5 hr50 hr51 kq5 by5
    refine' v_ixLo ?g1 hr50 ?g2 ?_
    (case g1 => wtm_at "hp")
    (case g2 => exact lt_len 2 rfl (by omega))
    intro y hy _
    obtain ⟨m, hm0, hm1, rfl⟩ : ∃ m : Int, 0 ≤ m ∧ m ≤ 42 ∧ y = .int m := by
      simp only [List.mem_cons, List.mem_nil_iff, or_false] at hy
      rcases hy with rfl | rfl
      · exact ⟨_, by omega, by omega, rfl⟩
      · exact ⟨_, by omega, by omega, rfl⟩
    repeat (first | wtm_at "w" | wtm_at "u")
    refine lc_chars (l := signs) (by omega) (fun _ => rfl) ?_ ?_
    · intro i H1 R hi k
      repeat (first | wtm_at "w" | wtm_at "u")
      exact k _ (by assumption)
    · intro D2 ys2 H6 hD2 s6 e6 hy2 hl2
      have hj := chars_join (cs_ofString _ : Cs (· < 0x110000) signs) hy2
      repeat (first | wtm_at "w" | wtm_at "u")
      refine' v_join ?g1 ?g2 ?_
      (case g1 => wtm_at "hp")
      (case g2 => rw [chars_sum hy2]; show ys2.length + ys2.length * 0 ≤ _; omega)
      obtain ⟨hk1, hk2⟩ := hj
      generalize Txt.join (Str.ofString "") ys2 = tx at hk1 hk2
      repeat (first | wtm_at "w" | wtm_at "u")
      rename_i p7 G7 f7 m7 e7 r8 G8 hr80 hr81 kq8 by8
      refine' v_ixLo ?g1 hr80 ?g2 ?_
      (case g1 => wtm_at "hp")
      (case g2 => exact lt_len 4 rfl (by omega))
      intro y hyy _
      obtain ⟨ed, rfl⟩ : ∃ m : Int, y = .int m := by
        simp only [List.mem_cons, List.mem_nil_iff, or_false] at hyy
        rcases hyy with rfl | rfl | rfl | rfl <;> exact ⟨_, rfl⟩
      have hj3 : Cs (· < 0x110000) nm := hj2.imp (fun c h => by omega)
      have hnm : nm.length ≤ 10 := by omega
      have htx : tx.length ≤ 42 := by omega
      clear hyy hy hy2 e1 e6
      repeat (first | wtm_at "w" | wtm_at "u")
      rename_i fi G9 hf1 hf2 kq9 by9
      have hlg : fi.natAbs.log2 < 1920 := Nat.lt_of_lt_of_le (PySem.Flt.log2_lt_of (k := 70) (by decide) (by omega)) (by decide)
      refine v_str hlg ?_
      have hsl := int_text_len_1921 hlg
      have hsc : Cs (· < 0x110000) (Str.ofString (toString fi)) := cs_ofString _
      generalize hgs : (toString fi : Str) = sf at hsl hsc
      repeat (first | wtm_at "w" | wtm_at "u")
      rename_i pL GL hpL smL epL
      rename_i z1 GA hz1 cz1 kpA bxA z2 GB hz2 cz2 kpB bxB fi0 GC hfa hfb kpC bxC pM GM hpM smM epM xo GO hxo kpO bxO
      refine' v_cat ?g1 ?g2 ?g3 ?_
      (case g1 => wtm_at "hp"); (case g2 => wtm_at "hp")
      (case g3 => exact Nat.le_of_ble_eq_true rfl)
      intro p H' hp sm ep
      refine q p _ H' (by wtm_at "free") (by wtm_at "keep") ep (Nat.le_of_ble_eq_true rfl) ?_ (by wtm_at "ne")
      intro x hx
      simp only [List.cons_append, List.nil_append, List.mem_cons, List.mem_nil_iff, or_false] at hx
      rcases hx with rfl | rfl | rfl | rfl | rfl | rfl | rfl | rfl
      · exact .str _ (by omega) hj3
      · exact .str _ (by omega) cz1
      · exact .str _ (by omega) hk2
      · exact .str _ (by omega) cz2
      · exact .int _
      · exact .int _
      · exact (hxo.keep kq9 by9).same (smL.trans sm)
      · exact .str _ (by omega) hsc
end Hk

namespace Hk
open PySem PySem.Spec PyProof.Rows L2 He
local macro_rules | `(tactic| wtm_at "hp") => `(tactic| first | with_reducible assumption | ((with_reducible refine' get_same ?ga ?gb); (case ga => with_reducible assumption); (case gb => wtm_at "hp")) | ((with_reducible refine' get_keep ?ga ?gc ?gb); (case ga => with_reducible assumption); (case gc => wtm_at "ne"); (case gb => wtm_at "hp")))
local macro_rules | `(tactic| wtm_at "hs") => `(tactic| first | with_reducible assumption | ((with_reducible refine' get_same ?ga ?gb); (case ga => with_reducible assumption); (case gb => wtm_at "hs")) | ((with_reducible refine' get_keep ?ga ?gc ?gb); (case ga => with_reducible assumption); (case gc => first | with_reducible assumption | (refine Ne.symm ?_; with_reducible assumption)); (case gb => wtm_at "hs")))
local macro_rules | `(tactic| wtm_at "ne") => `(tactic| first | with_reducible assumption | (refine Ne.symm ?_; with_reducible assumption) | ((with_reducible refine' ne_new ?ga ?gb); (case ga => with_reducible assumption); (case gb => wtm_at "hs")) | (refine Ne.symm ?_; (with_reducible refine' ne_new ?ga ?gb); (case ga => with_reducible assumption); (case gb => wtm_at "hs")) | wtm_at "ne2" | (refine Ne.symm ?_; wtm_at "ne2"))
local macro_rules | `(tactic| wtm_at "free") => `(tactic| first | with_reducible assumption | ((with_reducible refine' free_same ?ga ?gb); (case ga => with_reducible assumption); (case gb => wtm_at "same")) | ((with_reducible refine' free_keep ?ga ?gc ?gb); (case ga => with_reducible assumption); (case gb => wtm_at "keep"); (case gc => wtm_at "hp")) | wtm_at "free2")
local macro_rules | `(tactic| wtm_at "side") => `(tactic| first | assumption | decide | omega)
local macro_rules | `(tactic| wtm_at "kb") => `(tactic| first | exact kb_NoneType_int | exact kb_NoneType_bool | exact kb_NoneType_str | exact kb_NoneType_list | exact kb_NoneType_tuple | exact kb_NoneType_dict | exact kb_bool_int | exact kb_bool_bool | exact kb_bool_str | exact kb_bool_list | exact kb_bool_tuple | exact kb_bool_dict | exact kb_int_int | exact kb_int_bool | exact kb_int_str | exact kb_int_list | exact kb_int_tuple | exact kb_int_dict | exact kb_str_int | exact kb_str_bool | exact kb_str_str | exact kb_str_list | exact kb_str_tuple | exact kb_str_dict | exact kb_list_int | exact kb_list_bool | exact kb_list_str | exact kb_list_list | exact kb_list_tuple | exact kb_list_dict | exact kb_tuple_int | exact kb_tuple_bool | exact kb_tuple_str | exact kb_tuple_list | exact kb_tuple_tuple | exact kb_tuple_dict | exact kb_dict_int | exact kb_dict_bool | exact kb_dict_str | exact kb_dict_list | exact kb_dict_tuple | exact kb_dict_dict)
local macro_rules | `(tactic| wtm_at "w") => `(tactic| (first
  | (with_reducible refine w_seq ?_) | (with_reducible refine w_asg ?_) | (with_reducible refine w_name ?_) | (with_reducible refine w_var rfl ?_) | (with_reducible refine w_c ?_)
  | (with_reducible refine w_op ?_) | (with_reducible refine w_ret ?_) | (with_reducible refine w_if ?_) | (with_reducible refine w_test ?_) | (with_reducible refine w_bl ?_) | (with_reducible refine w_cb ?_)
  | (with_reducible refine w_call ?_) | (with_reducible refine w_nil ?_) | (with_reducible refine w_cons ?_) | (with_reducible refine w_drop ?_) | (with_reducible refine w_next ?_)
  | (with_reducible refine w_tB ?_) | (with_reducible refine w_and ?_) | (with_reducible refine w_or ?_) | (with_reducible refine w_not ?_) | (with_reducible refine w_andV ?_) | (with_reducible refine w_orV ?_)
  | (with_reducible refine w_notV ?_) | (with_reducible refine w_chain ?_) | (with_reducible refine w_ifE ?_) | (with_reducible refine w_un ?_) | (with_reducible refine w_sl ?_) | (with_reducible refine w_noPart ?_)
  | (with_reducible refine w_part ?_) | (with_reducible refine w_int ?_) | (with_reducible refine w_sub ?_) | (with_reducible refine w_bm ?_) | (with_reducible refine w_tM0 ?_) | (with_reducible refine w_tM1 ?_) | (with_reducible refine w_strA ?_)
  | ((with_reducible refine w_disp ?_); intro p' H' hp' sm' ep') | (with_reducible refine w_pnil ?_) | ((with_reducible refine w_dend ?s0 ?s1 ?s2 ?_); (case s0 => wtm_at "hp"); (case s1 => rfl); (case s2 => exact Nat.le_of_ble_eq_true rfl); intro H' kp' ep') | (with_reducible refine w_pcons ?_) | ((with_reducible refine w_dnew ?_); intro p' H' hp' sm' ep')
  | (with_reducible refine w_lst ?_) | (with_reducible refine w_tup ?_) | ((with_reducible refine w_new ?s ?_); (case s => exact Nat.le_of_ble_eq_true rfl); intro p' H' hp' sm' ep')
  | (with_reducible refine iteT ?_) | (with_reducible refine iteF ?_) | ((with_reducible refine iteTrue ?s ?_); (case s => rfl)) | ((with_reducible refine iteFalse ?s ?_); (case s => rfl))
  | (with_reducible refine v_addI ?_) | (with_reducible refine v_sub ?_) | (with_reducible refine v_neg ?_) | (with_reducible refine v_le ?_) | (with_reducible refine v_gt ?_) | (with_reducible refine v_ge ?_) | (with_reducible refine v_lt ?_)
  | (with_reducible refine v_eqI ?_) | (with_reducible refine v_inT ?_) | (with_reducible refine v_notInT ?_) | (with_reducible refine v_max2 ?_) | (with_reducible refine v_min2 ?_) | (with_reducible refine v_tyS ?_)
  | ((with_reducible refine v_mod ?s ?_); (case s => wtm_at "side"))
  | ((with_reducible refine v_mulI ?s ?_); (case s => first | exact s_mul (by omega) (by omega) | (unfold CMulW; decide +kernel)))
  | ((with_reducible refine v_div ?s ?_); (case s => exact s_div (by omega) (by omega)))
  | ((with_reducible refine v_pow ?s ?_); (case s => exact s_pow (by decide) (by decide) (by omega)))
  | ((with_reducible refine' v_ixSo ?s1 ?s2 ?s3 ?_); (case s1 => wtm_at "size"); (case s2 => omega); (case s3 => first | omega | (simp only [show _ = _ from by assumption]; omega)); intro c' hc' hc2)
  | ((with_reducible refine' v_ixL ?s1 ?s2 ?_); (case s1 => wtm_at "hp"); (case s2 => rfl))
  | ((with_reducible refine' v_setL ?s1 ?s2 ?_); (case s1 => wtm_at "hp"); (case s2 => rfl); intro H' kp' ep')
  | ((with_reducible refine' v_tyL ?s1 ?_); (case s1 => wtm_at "hp"))
  | (with_reducible refine w_yes ?_) | (with_reducible refine w_lc ?_) | (with_reducible refine w_iStr ?_) | (with_reducible refine w_str ?_) | (with_reducible refine w_iList ?_) | (with_reducible refine w_iRng1 ?_) | (with_reducible refine w_for ?_)
  | ((with_reducible refine' w_refL ?s1 ?_); (case s1 => wtm_at "hp"))
  | ((with_reducible refine' w_rng1 ?s1 ?s2 ?_); (case s1 => omega); (case s2 => omega))
  | ((with_reducible refine' v_isiI ?s1 ?_); (case s1 => wtm_at "kb")) | ((with_reducible refine' v_isiS ?s1 ?_); (case s1 => wtm_at "kb")) | ((with_reducible refine' v_isiB ?s1 ?_); (case s1 => wtm_at "kb")) | ((with_reducible refine' v_isiN ?s1 ?_); (case s1 => wtm_at "kb"))
  | ((with_reducible refine' v_isiL ?s1 ?s2 ?_); (case s1 => wtm_at "hp"); (case s2 => wtm_at "kb")) | ((with_reducible refine' v_isiU ?s1 ?s2 ?_); (case s1 => wtm_at "hp"); (case s2 => wtm_at "kb")) | ((with_reducible refine' v_isiD ?s1 ?s2 ?_); (case s1 => wtm_at "hp"); (case s2 => wtm_at "kb"))
  | ((with_reducible refine v_upper ?s1 ?_); (case s1 => omega))
  | ((with_reducible refine' v_lenS ?s1 ?_); (case s1 => wtm_at "size"))
  | ((with_reducible refine' v_lenL ?s1 ?_); (case s1 => wtm_at "hp"))
  | ((with_reducible refine' v_addT ?s1 ?_); (case s1 => wtm_at "size"))
  | ((with_reducible refine' v_slS ?s1 ?_); (case s1 => wtm_at "size"))))
local macro_rules | `(tactic| wtm_at "ln") => `(tactic| first | omega | exact len_one (by omega) | (refine len_cut ?_; wtm_at "ln") | (refine len_app ?_ ?_ <;> wtm_at "ln") | decide +kernel)
local macro_rules | `(tactic| wtm_at "size") => `(tactic| first | assumption | (refine len_line1 ?_; wtm_at "ln") | (refine len_line ?_ ?_ <;> wtm_at "ln") | decide +kernel)
local macro_rules | `(tactic| wtm_at "keep") => `(tactic| first | with_reducible exact Keep.refl _ _ | with_reducible assumption | ((with_reducible refine' keep_afterS ?ga ?gb); (case ga => with_reducible assumption); (case gb => wtm_at "keep")) | ((with_reducible refine' Keep.after ?ga ?gb); (case ga => with_reducible assumption); (case gb => wtm_at "keep")) | ((with_reducible refine' keep_afterN ?ga ?gc ?gb); (case ga => with_reducible assumption); (case gb => wtm_at "keep"); (case gc => wtm_at "free")))
local macro_rules | `(tactic| wtm_at "same") => `(tactic| first | with_reducible exact Same.refl _ | with_reducible assumption | ((with_reducible refine' same_after ?ga ?gb); (case ga => with_reducible assumption); (case gb => wtm_at "same")) | ((with_reducible refine' same_afterN ?ga ?gc ?gb); (case ga => with_reducible assumption); (case gb => wtm_at "same"); (case gc => wtm_at "free")))
def spLaw (K : PySem.W.Frag) : Sp := fun vs H Q _ => ∃ (a : Addr) (ns : List Int), vs = [.ref a] ∧ SqL K H a (ns.map V.int) ∧ ns.length ≤ 63 ∧ ∀ H', Q (.bl true) H'
variable {K : PySem.W.Frag} {H : Hp} {Q : VK} {E : XK}
theorem u_things {b : Addr} (hb : BoxAt H b 0) (h : ∀ p xs H', H p = none → Keep b H H' → H' p = some (.lst xs) → xs.length ≤ 8 → (∀ x, x ∈ xs → Th H' x) → b ≠ p → Q (.ref p) H') : sp_things ([.ref b] ++ []) H Q E := ⟨b, rfl, hb, h⟩
theorem Th.keepL {H H' : Hp} {l : Addr} {ys : List V} {x : V} (e : H' l = some (.lst ys)) (s : Keep l H H') (h : Th H x) : Th H' x := by
  cases h with
  | non => exact .non
  | bl b => exact .bl b
  | int i => exact .int i
  | str z hz ok => exact .str z hz ok
  | @lst a xs e1 => by_cases h : a = l
                    · subst h; exact .lst e
                    · exact .lst (s _ _ h e1)
  | @tup a xs e1 => by_cases h : a = l
                    · subst h; exact .lst e
                    · exact .tup (s _ _ h e1)
  | @dK a kvs e1 => by_cases h : a = l
                    · subst h; exact .lst e
                    · exact .dK (s _ _ h e1)
theorem pure_law (vs : List V) (H : Hp) (Q : VK) (E : XK) (h : spLaw K vs H Q E) : t_law K sp_things sp_box (sp_cell K) sp_right { nx := fun _ H' => Q .non H', rt := Q } (start ["_law_script", "_law_asked", "_law_k", "_law_thing"] vs) H := by
  obtain ⟨a, ns, rfl, hS, hl, q⟩ := h
  unfold t_law
  repeat wtm_at "w"
  rename_i l H1 hl1 sm1 el1
  have hS1 := sm1.seq hS
  refine v_lenQ hS1 ?_
  rw [List.length_map]
  repeat wtm_at "w"
  have hmn : ∃ n : Int, 0 ≤ n ∧ n ≤ 40 ∧ (if (if (ns.length : Int) < 40 then (ns.length : Int) else 40) > 2 then (if (ns.length : Int) < 40 then (ns.length : Int) else 40) else 2) = n := ⟨_, by split <;> split <;> omega, by split <;> split <;> omega, rfl⟩
  obtain ⟨n, hn0, hn1, hn⟩ := hmn
  rw [hn]
  repeat wtm_at "w"
  refine for_rel walk_rngAt (fun i σ H' => ∃ (k t : Option V) (ys : List V), σ = [some (.ref a), some (.ref l), k, t] ∧ Same H H' ∧ H' l = some (.lst ys) ∧ ys.length ≤ 8 * i ∧ ∀ y, y ∈ ys → Th H' y)
    ⟨none, none, [], rfl, sm1, el1, Nat.le_refl _, fun y hy => nomatch hy⟩ (fun _ _ _ _ _ => trivial) ?_ ?_
  · rintro i x σ H2 hi hx ⟨k, t, ys, rfl, s2, e2, hl2, th2⟩
    rw [rngItems_len] at hi
    obtain ⟨rfl⟩ : x = .int (0 + (i : Int)) := by
      unfold rngItems at hx
      rw [List.getElem?_map, List.getElem?_range hi] at hx
      exact (Option.some.inj hx).symm
    repeat wtm_at "w"
    refine u_cell (s2.seq hS) hl (by omega) (by omega) fun c => ?_
    repeat wtm_at "w"
    refine u_box fun b hb H3 s3 bx => ?_
    repeat wtm_at "w"
    refine u_things bx fun p xs H4 hp k4 e4 hl4 th4 nbp => ?_
    have s4 : Same H2 H4 := fun a o e => k4 a o (ne_of_none e hb) (s3 a o e)
    have nlp : l ≠ p := ne_of_none (s3 _ _ e2) hp
    repeat wtm_at "w"
    refine for_rel (walk_list (K := K) (a := p) (xs := xs)) (fun j σ H' => ∃ (t : Option V) (ys : List V), σ = [some (.ref a), some (.ref l), some (.int (0 + (i : Int))), t] ∧ Same H H' ∧ H' l = some (.lst ys) ∧ H' p = some (.lst xs) ∧ ys.length ≤ 8 * i + j ∧ (∀ y, y ∈ ys → Th H' y) ∧ ∀ y, y ∈ xs → Th H' y)
      ⟨t, ys, rfl, s2.trans s4, s4 _ _ e2, e4, hl2, fun y hy => (th2 y hy).same s4, th4⟩ (fun j σ H' _ ⟨_, _, _, _, _, e, _⟩ => .inl (.inl e)) ?_ ?_
    · rintro j x σ H5 hj hx ⟨t5, ys5, rfl, s5, el5, ep5, hl5, th5, tx5⟩
      have hxm : x ∈ xs := List.mem_of_getElem? hx
      repeat wtm_at "w"
      refine u_right (tx5 x hxm) fun H6 s6 => ?_
      repeat wtm_at "w"
      refine v_append (s6 _ _ el5) (Nat.lt_of_le_of_lt (by omega : _ ≤ 1000) (by decide)) fun H7 k7 e7 => ?_
      refine ⟨_, _, rfl, fun a o e => k7 a o (ne_of_none e hl1) (s6 a o (s5 a o e)), e7, k7 _ _ (Ne.symm nlp) (s6 _ _ ep5), by simp; omega, fun y hy => ?_, fun y hy => ((tx5 y hy).same s6).keepL e7 k7⟩
      rcases List.mem_append.mp hy with h | h
      · exact ((th5 y h).same s6).keepL e7 k7
      · have e : y = x := by simpa using h
        subst e
        exact ((tx5 y hxm).same s6).keepL e7 k7
    · rintro σ H5 ⟨t5, ys5, rfl, s5, el5, ep5, hl5, th5, tx5⟩
      exact ⟨_, _, ys5, rfl, s5, el5, by omega, th5⟩
  · rintro σ H2 ⟨k, t, ys, rfl, s2, e2, hl2, th2⟩
    repeat wtm_at "w"
    refine for_rel (walk_list (K := K) (a := l) (xs := ys)) (fun j σ H' => ∃ (t : Option V), σ = [some (.ref a), some (.ref l), k, t] ∧ H' l = some (.lst ys) ∧ ∀ y, y ∈ ys → Th H' y)
      ⟨t, rfl, e2, th2⟩ (fun j σ H' _ ⟨_, _, e, _⟩ => .inl (.inl e)) ?_ ?_
    · rintro j x σ H5 hj hx ⟨t5, rfl, el5, th5⟩
      have hxm : x ∈ ys := List.mem_of_getElem? hx
      repeat wtm_at "w"
      refine u_right (th5 x hxm) fun H6 s6 => ?_
      repeat wtm_at "w"
      exact ⟨_, rfl, s6 _ _ el5, fun y hy => (th5 y hy).same s6⟩
    · rintro σ H5 ⟨t5, rfl, el5, th5⟩
      repeat wtm_at "w"
      exact q _
end Hk

namespace Hk
open PySem PySem.Spec PyProof.Rows L2 He
def top (i : Nat) : Stmt := PySem.Challenge.pw_heapkinds_k01_words_of_anything.main.body.getD i (.Pass ⟨0, 0, 0, 0⟩)
structure Txt (K : PySem.W.Frag) (mg : Str → Option Value) : Prop where
  b_isinstance : mg "isinstance" = none
  b_int : mg "int" = none
  b_bool : mg "bool" = none
  b_str : mg "str" = none
  b_len : mg "len" = none
  b_all : mg "all" = none
  b_max : mg "max" = none
  b_range : mg "range" = none
  b_min : mg "min" = none
  g_LONGEST_NAME : ∃ t, mg "LONGEST_NAME" = some (.int 8 t)
  g_LETTERS : ∃ t, mg "LETTERS" = some (.str "abcdefghijklmnopqrstuvwxyz" t)
  g_BEYOND : ∃ t, mg "BEYOND" = some (.int 1000000000000000000 t)
  g_LONGEST_TEXT : ∃ t, mg "LONGEST_TEXT" = some (.int 40 t)
  g_SIGNS : ∃ t, mg "SIGNS" = some (.str " !\"#$&'()*+,-./0123456789:;<=>?@ABCDEFGHIJKLMNOPQRSTUVWXYZ[\\]^_`abcdefghijklmnopqrstuvwxyz{|}~" t)
section
variable {P : Program} {w : World} {K : PySem.W.Frag} {mg : Str → Option Value} {base : Heap}
abbrev s_is_whole : Stmt := top 6
theorem sc_is_whole : FnScope ["thing"] ["thing"] (defScope s_is_whole) := ⟨rfl, rfl, rfl, by decide +kernel, rfl, by decide +kernel, by decide +kernel⟩
theorem dv_is_whole {lv : Nat} (T : Txt K mg) {cdv : Value} {A : Around} {outer : List Env} {s : Shared} {H : Hp} {E : XK} {f : Addr} (hr : Room lv (A.deeper (envOfC "is_whole" (defScope s_is_whole) s.heap.objs.size f cdv))) :
    PSs (cxOf CX0 P w K mg base ["thing"] "is_whole" (defScope s_is_whole) f cdv A outer s H E).nox (defBody s_is_whole) (t_is_whole K) := by
  have hu := hr.units
  have nd := sc_is_whole.nd
  exact (pss_one (ps_ret (pe_and (pe_callB call_isi (by rfl) T.b_isinstance (by decide +kernel) (pa_cons (pv 0) (pa_cons (pe_bltn (v := .ty "int") rfl T.b_int (by decide +kernel) rfl) pa_nil))) (pe_one (pe_not (pe_callB call_isi (by rfl) T.b_isinstance (by decide +kernel) (pa_cons (pv 0) (pa_cons (pe_bltn (v := .ty "bool") rfl T.b_bool (by decide +kernel) rfl) pa_nil))))))))

abbrev s_is_name : Stmt := top 7
theorem sc_is_name : FnScope ["thing", "sign"] ["thing"] (defScope s_is_name) := ⟨rfl, rfl, rfl, by decide +kernel, rfl, by decide +kernel, by decide +kernel⟩
theorem dv_is_name {lv : Nat} (T : Txt K mg) {cdv : Value} {A : Around} {outer : List Env} {s : Shared} {H : Hp} {E : XK} {f : Addr} (hr : Room lv (A.deeper (envOfC "is_name" (defScope s_is_name) s.heap.objs.size f cdv))) :
    PSs (cxOf CX0 P w K mg base ["thing", "sign"] "is_name" (defScope s_is_name) f cdv A outer s H E).nox (defBody s_is_name) (t_is_name K) := by
  have hu := hr.units
  have nd := sc_is_name.nd
  exact (pss_cons (ps_if (PW.pt (pw_or (pt_not (pt_val (pe_callB call_isi (by rfl) T.b_isinstance (by decide +kernel) (pa_cons (pv 0) (pa_cons (pe_bltn (v := .ty "str") rfl T.b_str (by decide +kernel) rfl) pa_nil))))) (pw_or1 (pt_not (pt_chain op_le op_le pe_int (pe_callB call_lenU (by rfl) T.b_len (by decide +kernel) (pa_cons (pv 0) pa_nil)) (pe_glob rfl T.g_LONGEST_NAME.choose_spec ⟨_, rfl⟩)))))) (pss_one (ps_ret pe_bl)) pss_nil)
      (pss_one (ps_ret (pe_callB (cr_all rfl) (by rfl) T.b_all (by decide +kernel) (pa_cons (pe_lc (own := [("sign", 1)]) (g := (gName 1)) (tt := tYes) rfl nd (pi_str (pv 0)) (blkOk_by (own := [("sign", 1)]) (N := ["thing", "sign"]) (sc := defScope s_is_name) (by decide +kernel)) (fun _ _ _ _ _ => (pg_name (i := 1) nd rfl (by first | exact Or.inl rfl | exact Or.inr rfl))) (fun _ _ _ _ _ => pts_nil) (fun _ _ _ _ _ => (pe_cmpR (oIn hu) (pv 1) (pe_glob rfl T.g_LETTERS.choose_spec ⟨_, rfl⟩) (by rfl)))) pa_nil)))))

abbrev s_is_number : Stmt := top 8
theorem sc_is_number : FnScope ["thing"] ["thing"] (defScope s_is_number) := ⟨rfl, rfl, rfl, by decide +kernel, rfl, by decide +kernel, by decide +kernel⟩
theorem dv_is_number {lv : Nat} (T : Txt K mg) {sp_is_whole : Sp} (F_is_whole : FOk P w K mg base CX0 lv "is_whole" ["thing"] sp_is_whole) {cdv : Value} {A : Around} {outer : List Env} {s : Shared} {H : Hp} {E : XK} {f : Addr} (hr : Room lv (A.deeper (envOfC "is_number" (defScope s_is_number) s.heap.objs.size f cdv))) :
    PSs (cxOf CX0 P w K mg base ["thing"] "is_number" (defScope s_is_number) f cdv A outer s H E).nox (defBody s_is_number) (t_is_number K sp_is_whole) := by
  have hu := hr.units
  have nd := sc_is_number.nd
  exact (pss_one (ps_ret (pe_and (pe_callF F_is_whole hr rfl pass0 (pa_cons (pv 0) pa_nil)) (pe_one (pe_chain oLt oLt (pe_un un_neg (pe_glob rfl T.g_BEYOND.choose_spec ⟨_, rfl⟩)) (pv 0) (pe_glob rfl T.g_BEYOND.choose_spec ⟨_, rfl⟩))))))

abbrev s_is_text : Stmt := top 9
theorem sc_is_text : FnScope ["thing", "sign"] ["thing"] (defScope s_is_text) := ⟨rfl, rfl, rfl, by decide +kernel, rfl, by decide +kernel, by decide +kernel⟩
theorem dv_is_text {lv : Nat} (T : Txt K mg) {cdv : Value} {A : Around} {outer : List Env} {s : Shared} {H : Hp} {E : XK} {f : Addr} (hr : Room lv (A.deeper (envOfC "is_text" (defScope s_is_text) s.heap.objs.size f cdv))) :
    PSs (cxOf CX0 P w K mg base ["thing", "sign"] "is_text" (defScope s_is_text) f cdv A outer s H E).nox (defBody s_is_text) (t_is_text K) := by
  have hu := hr.units
  have nd := sc_is_text.nd
  exact (pss_cons (ps_if (PW.pt (pw_or (pt_not (pt_val (pe_callB call_isi (by rfl) T.b_isinstance (by decide +kernel) (pa_cons (pv 0) (pa_cons (pe_bltn (v := .ty "str") rfl T.b_str (by decide +kernel) rfl) pa_nil))))) (pw_or1 (pt_cmpR op_gt (pe_callB call_lenU (by rfl) T.b_len (by decide +kernel) (pa_cons (pv 0) pa_nil)) (pe_glob rfl T.g_LONGEST_TEXT.choose_spec ⟨_, rfl⟩) (nomark _))))) (pss_one (ps_ret pe_bl)) pss_nil)
      (pss_one (ps_ret (pe_callB (cr_all rfl) (by rfl) T.b_all (by decide +kernel) (pa_cons (pe_lc (own := [("sign", 1)]) (g := (gName 1)) (tt := tYes) rfl nd (pi_str (pv 0)) (blkOk_by (own := [("sign", 1)]) (N := ["thing", "sign"]) (sc := defScope s_is_text) (by decide +kernel)) (fun _ _ _ _ _ => (pg_name (i := 1) nd rfl (by first | exact Or.inl rfl | exact Or.inr rfl))) (fun _ _ _ _ _ => pts_nil) (fun _ _ _ _ _ => (pe_cmpR (oIn hu) (pv 1) (pe_glob rfl T.g_SIGNS.choose_spec ⟨_, rfl⟩) (by rfl)))) pa_nil)))))

abbrev s__law_cell : Stmt := top 11
theorem sc__law_cell : FnScope ["_law_script", "_law_k"] ["_law_script", "_law_k"] (defScope s__law_cell) := ⟨rfl, rfl, rfl, by decide +kernel, rfl, by decide +kernel, by decide +kernel⟩
theorem dv__law_cell {lv : Nat} (T : Txt K mg) {cdv : Value} {A : Around} {outer : List Env} {s : Shared} {H : Hp} {E : XK} {f : Addr} (hr : Room lv (A.deeper (envOfC "_law_cell" (defScope s__law_cell) s.heap.objs.size f cdv))) :
    PSs (cxOf CX0 P w K mg base ["_law_script", "_law_k"] "_law_cell" (defScope s__law_cell) f cdv A outer s H E).nox (defBody s__law_cell) (t__law_cell K) := by
  have hu := hr.units
  have nd := sc__law_cell.nd
  exact (pss_cons (ps_if (pt_cmpR oLt (pv 1) (pe_callB call_lenU (by rfl) T.b_len (by decide +kernel) (pa_cons (pv 0) pa_nil)) (nomark _)) (pss_one (ps_ret (pe_ix (ixAny hu) (pv 0) (pv 1) (fun _ _ => rfl)))) pss_nil)
      (pss_one (ps_ret (pe_op oAdd (pe_op oMul pe_int (pv 1)) pe_int))))

abbrev s__law_box : Stmt := top 12
theorem sc__law_box : FnScope ["_law_cell_here"] ["_law_cell_here"] (defScope s__law_box) := ⟨rfl, rfl, rfl, by decide +kernel, rfl, by decide +kernel, by decide +kernel⟩
theorem dv__law_box {lv : Nat} (T : Txt K mg) {cdv : Value} {A : Around} {outer : List Env} {s : Shared} {H : Hp} {E : XK} {f : Addr} (hr : Room lv (A.deeper (envOfC "_law_box" (defScope s__law_box) s.heap.objs.size f cdv))) :
    PSs (cxOf CX0 P w K mg base ["_law_cell_here"] "_law_box" (defScope s__law_box) f cdv A outer s H E).nox (defBody s__law_box) (t__law_box K) := by
  have hu := hr.units
  have nd := sc__law_box.nd
  exact (pss_one (ps_ret (pe_lst (pa_cons (pe_callB (call_max2 rfl) (by rfl) T.b_max (by decide +kernel) (pa_cons pe_int (pa_cons (pe_op op_sub (pv 0) (pe_op op_pow pe_int pe_int)) pa_nil))) (pa_cons (pe_op op_mod (pv 0) pe_int) (pa_cons pe_int pa_nil))))))

abbrev s__law_take : Stmt := top 13
theorem sc__law_take : FnScope ["_law_box_here", "_law_many", "_law_digit", "_law_number"] ["_law_box_here", "_law_many"] (defScope s__law_take) := ⟨rfl, rfl, rfl, by decide +kernel, rfl, by decide +kernel, by decide +kernel⟩
theorem dv__law_take {lv : Nat} (T : Txt K mg) {cdv : Value} {A : Around} {outer : List Env} {s : Shared} {H : Hp} {E : XK} {f : Addr} (hr : Room lv (A.deeper (envOfC "_law_take" (defScope s__law_take) s.heap.objs.size f cdv))) :
    PSs (cxOf CX0 P w K mg base ["_law_box_here", "_law_many", "_law_digit", "_law_number"] "_law_take" (defScope s__law_take) f cdv A outer s H E).nox (defBody s__law_take) (t__law_take K) := by
  have hu := hr.units
  have nd := sc__law_take.nd
  exact (pss_cons (ps_if (pt_cmpR op_gt (pe_ix (ixAny hu) (pv 0) pe_int (fun _ _ => rfl)) pe_int (nomark _)) (pss_cons (ps_set (i := 2) nd rfl (by first | exact Or.inl rfl | exact Or.inr rfl) (pe_op op_mod (pe_ix (ixAny hu) (pv 0) pe_int (fun _ _ => rfl)) (pv 1)))
      (pss_cons (ps_asg (pe_op op_fdivW (pe_ix (ixAny hu) (pv 0) pe_int (fun _ _ => rfl)) (pv 1)) (pg_sub (pv 0) pe_int set_list))
      (pss_one (ps_ret (pv 2))))) pss_nil)
      (pss_cons (ps_asg (pe_op oAdd (pe_ix (ixAny hu) (pv 0) pe_int (fun _ _ => rfl)) pe_int) (pg_sub (pv 0) pe_int set_list))
      (pss_cons (ps_set (i := 3) nd rfl (by first | exact Or.inl rfl | exact Or.inr rfl) (pe_op op_mod (pe_op op_pow (pe_op oAdd (pe_op oAdd (pe_ix (ixAny hu) (pv 0) pe_int (fun _ _ => rfl)) (pe_op oMul pe_int (pe_ix (ixAny hu) (pv 0) pe_int (fun _ _ => rfl)))) pe_int) pe_int) pe_int))
      (pss_cons (ps_set (i := 3) nd rfl (by first | exact Or.inl rfl | exact Or.inr rfl) (pe_op op_mod (pe_op op_pow (pe_op oAdd (pe_op oMul (pv 3) (pe_op oAdd pe_int (pe_ix (ixAny hu) (pv 0) pe_int (fun _ _ => rfl)))) pe_int) pe_int) pe_int))
      (pss_one (ps_ret (pe_op op_mod (pe_op op_fdivW (pv 3) pe_int) (pv 1))))))))

abbrev s__law_signs : Stmt := top 14
theorem sc__law_signs : FnScope [] [] (defScope s__law_signs) := ⟨rfl, rfl, rfl, by decide +kernel, rfl, by decide +kernel, by decide +kernel⟩
theorem dv__law_signs {lv : Nat} (T : Txt K mg) {cdv : Value} {A : Around} {outer : List Env} {s : Shared} {H : Hp} {E : XK} {f : Addr} (hr : Room lv (A.deeper (envOfC "_law_signs" (defScope s__law_signs) s.heap.objs.size f cdv))) :
    PSs (cxOf CX0 P w K mg base [] "_law_signs" (defScope s__law_signs) f cdv A outer s H E).nox (defBody s__law_signs) (t__law_signs K) := by
  have hu := hr.units
  have nd := sc__law_signs.nd
  exact (pss_one (ps_ret pe_str))

abbrev s__law_spoilt : Stmt := top 15
theorem sc__law_spoilt : FnScope ["_law_box_here", "_law_text", "_law_way", "_law_at", "_law_signs_here", "_law_sign"] ["_law_box_here", "_law_text"] (defScope s__law_spoilt) := ⟨rfl, rfl, rfl, by decide +kernel, rfl, by decide +kernel, by decide +kernel⟩
theorem dv__law_spoilt {lv : Nat} (T : Txt K mg) {sp__law_take : Sp} {sp__law_signs : Sp} (F__law_take : FOk P w K mg base CX0 lv "_law_take" ["_law_box_here", "_law_many"] sp__law_take) (F__law_signs : FOk P w K mg base CX0 lv "_law_signs" [] sp__law_signs) {cdv : Value} {A : Around} {outer : List Env} {s : Shared} {H : Hp} {E : XK} {f : Addr} (hr : Room lv (A.deeper (envOfC "_law_spoilt" (defScope s__law_spoilt) s.heap.objs.size f cdv))) :
    PSs (cxOf CX0 P w K mg base ["_law_box_here", "_law_text", "_law_way", "_law_at", "_law_signs_here", "_law_sign"] "_law_spoilt" (defScope s__law_spoilt) f cdv A outer s H E).nox (defBody s__law_spoilt) (t__law_spoilt K sp__law_take sp__law_signs) := by
  have hu := hr.units
  have nd := sc__law_spoilt.nd
  exact (pss_cons (ps_set (i := 2) nd rfl (by first | exact Or.inl rfl | exact Or.inr rfl) (pe_callF F__law_take hr rfl pass0 (pa_cons (pv 0) (pa_cons pe_int pa_nil))))
      (pss_cons (ps_set (i := 3) nd rfl (by first | exact Or.inl rfl | exact Or.inr rfl) (pe_callF F__law_take hr rfl pass0 (pa_cons (pv 0) (pa_cons (pe_op oAdd (pe_callB call_lenU (by rfl) T.b_len (by decide +kernel) (pa_cons (pv 1) pa_nil)) pe_int) pa_nil))))
      (pss_cons (ps_set (i := 4) nd rfl (by first | exact Or.inl rfl | exact Or.inr rfl) (pe_op oAdd (pe_callF0 F__law_signs hr rfl pass0) pe_str))
      (pss_cons (ps_set (i := 5) nd rfl (by first | exact Or.inl rfl | exact Or.inr rfl) (pe_ix (ixAny hu) (pv 4) (pe_callF F__law_take hr rfl pass0 (pa_cons (pv 0) (pa_cons pe_int pa_nil))) (fun _ _ => rfl)))
      (pss_cons (ps_if (pt_cmpR (oEq hu) (pv 2) pe_int (nomark _)) (pss_one (ps_ret (pv 1))) pss_nil)
      (pss_cons (ps_if (pt_cmpR (oEq hu) (pv 2) pe_int (nomark _)) (pss_one (ps_ret (pe_op oAdd (pe_op oAdd (pe_slice slAny (pv 1) po_none (po_some (pv 3))) (pv 5)) (pe_slice slAny (pv 1) (po_some (pe_op oAdd (pv 3) pe_int)) po_none)))) pss_nil)
      (pss_one (ps_ret (pe_op oAdd (pe_op oAdd (pe_slice slAny (pv 1) po_none (po_some (pv 3))) (pv 5)) (pe_slice slAny (pv 1) (po_some (pv 3)) po_none))))))))))

abbrev s__law_figures : Stmt := top 16
theorem sc__law_figures : FnScope ["_law_box_here", "_law_many", "_law_number", "_law_k"] ["_law_box_here"] (defScope s__law_figures) := ⟨rfl, rfl, rfl, by decide +kernel, rfl, by decide +kernel, by decide +kernel⟩
theorem dv__law_figures {lv : Nat} (T : Txt K mg) {sp__law_take : Sp} (F__law_take : FOk P w K mg base CX0 lv "_law_take" ["_law_box_here", "_law_many"] sp__law_take) {cdv : Value} {A : Around} {outer : List Env} {s : Shared} {H : Hp} {E : XK} {f : Addr} (hr : Room lv (A.deeper (envOfC "_law_figures" (defScope s__law_figures) s.heap.objs.size f cdv))) :
    PSs (cxOf CX0 P w K mg base ["_law_box_here", "_law_many", "_law_number", "_law_k"] "_law_figures" (defScope s__law_figures) f cdv A outer s H E).nox (defBody s__law_figures) (t__law_figures K sp__law_take) := by
  have hu := hr.units
  have nd := sc__law_figures.nd
  exact (pss_cons (ps_set (i := 1) nd rfl (by first | exact Or.inl rfl | exact Or.inr rfl) (pe_op oAdd pe_int (pe_callF F__law_take hr rfl pass0 (pa_cons (pv 0) (pa_cons pe_int pa_nil)))))
      (pss_cons (ps_set (i := 2) nd rfl (by first | exact Or.inl rfl | exact Or.inr rfl) pe_int)
      (pss_cons (ps_for PassesOwn.never rfl (pi_range1 rfl T.b_range (pa_cons (pv 1) pa_nil)) (pg_name (i := 3) nd rfl (by first | exact Or.inl rfl | exact Or.inr rfl)) (pss_one (ps_set (i := 2) nd rfl (by first | exact Or.inl rfl | exact Or.inr rfl) (pe_op oAdd (pe_op oMul (pv 2) pe_int) (pe_callF F__law_take hr rfl pass0 (pa_cons (pv 0) (pa_cons pe_int pa_nil)))))))
      (pss_one (ps_ret (pe_op oMul (pv 2) (pe_ix (ixAny hu) (pe_lst (pa_cons pe_int (pa_cons (pe_un un_neg pe_int) pa_nil))) (pe_callF F__law_take hr rfl pass0 (pa_cons (pv 0) (pa_cons pe_int pa_nil))) (fun _ _ => rfl))))))))

abbrev s__law_odd : Stmt := top 17
theorem sc__law_odd : FnScope ["_law_box_here", "_law_name", "_law_nested", "_law_k", "_law_number", "_law_some"] ["_law_box_here", "_law_name"] (defScope s__law_odd) := ⟨rfl, rfl, rfl, by decide +kernel, rfl, by decide +kernel, by decide +kernel⟩
theorem dv__law_odd {lv : Nat} (T : Txt K mg) {sp__law_take : Sp} (F__law_take : FOk P w K mg base CX0 lv "_law_take" ["_law_box_here", "_law_many"] sp__law_take) {cdv : Value} {A : Around} {outer : List Env} {s : Shared} {H : Hp} {E : XK} {f : Addr} (hr : Room lv (A.deeper (envOfC "_law_odd" (defScope s__law_odd) s.heap.objs.size f cdv))) :
    PSs (cxOf CX0 P w K mg base ["_law_box_here", "_law_name", "_law_nested", "_law_k", "_law_number", "_law_some"] "_law_odd" (defScope s__law_odd) f cdv A outer s H E).nox (defBody s__law_odd) (t__law_odd K sp__law_take) := by
  have hu := hr.units
  have nd := sc__law_odd.nd
  exact (pss_cons (ps_set (i := 2) nd rfl (by first | exact Or.inl rfl | exact Or.inr rfl) (pe_lst (pa_cons (pv 1) pa_nil)))
      (pss_cons (ps_for PassesOwn.never rfl (pi_range1 rfl T.b_range (pa_cons pe_int pa_nil)) (pg_name (i := 3) nd rfl (by first | exact Or.inl rfl | exact Or.inr rfl)) (pss_one (ps_set (i := 2) nd rfl (by first | exact Or.inl rfl | exact Or.inr rfl) (pe_lst (pa_cons (pv 2) pa_nil)))))
      (pss_cons (ps_set (i := 4) nd rfl (by first | exact Or.inl rfl | exact Or.inr rfl) (pe_op oAdd (pe_op oMul (pe_op op_pow pe_int pe_int) (pe_op op_pow pe_int pe_int)) (pe_callF F__law_take hr rfl pass0 (pa_cons (pv 0) (pa_cons pe_int pa_nil)))))
      (pss_cons (ps_set (i := 5) nd rfl (by first | exact Or.inl rfl | exact Or.inr rfl) (pe_lst (pa_cons pe_non (pa_cons pe_bl (pa_cons pe_bl (pa_cons (pe_lst (pa_cons (pv 1) pa_nil)) (pa_cons (pe_tup (pa_cons (pv 1) pa_nil)) (pa_cons (pe_disp (pps_cons (pv 1) pe_int pps_nil) (by rfl) (by rfl) (fun z => by cases z) (by decide)) (pa_cons (pe_lst pa_nil) (pa_cons (pe_tup pa_nil) (pa_cons pe_dnewK (pa_cons (pv 4) (pa_cons (pe_op op_sub pe_int (pv 4)) (pa_cons (pv 2) (pa_cons (pe_upper (pv 1)) (pa_cons (pe_lst (pa_cons pe_int pa_nil)) pa_nil))))))))))))))))
      (pss_one (ps_ret (pe_ix (ixAny hu) (pv 5) (pe_callF F__law_take hr rfl pass0 (pa_cons (pv 0) (pa_cons pe_int pa_nil))) (fun _ _ => rfl))))))))

abbrev s__law_things : Stmt := top 18
theorem sc__law_things : FnScope ["_law_box_here", "_law_letters", "_law_signs_here", "_law_first", "_law_step", "_law_name", "_law_k", "_law_size", "_law_text", "_law_edge", "_law_things_here"] ["_law_box_here"] (defScope s__law_things) := ⟨rfl, rfl, rfl, by decide +kernel, rfl, by decide +kernel, by decide +kernel⟩
theorem dv__law_things {lv : Nat} (T : Txt K mg) {sp__law_signs : Sp} {sp__law_take : Sp} {sp__law_figures : Sp} {sp__law_spoilt : Sp} {sp__law_odd : Sp} (F__law_signs : FOk P w K mg base CX0 lv "_law_signs" [] sp__law_signs) (F__law_take : FOk P w K mg base CX0 lv "_law_take" ["_law_box_here", "_law_many"] sp__law_take) (F__law_figures : FOk P w K mg base CX0 lv "_law_figures" ["_law_box_here"] sp__law_figures) (F__law_spoilt : FOk P w K mg base CX0 lv "_law_spoilt" ["_law_box_here", "_law_text"] sp__law_spoilt) (F__law_odd : FOk P w K mg base CX0 lv "_law_odd" ["_law_box_here", "_law_name"] sp__law_odd) {cdv : Value} {A : Around} {outer : List Env} {s : Shared} {H : Hp} {E : XK} {f : Addr} (hr : Room lv (A.deeper (envOfC "_law_things" (defScope s__law_things) s.heap.objs.size f cdv))) :
    PSs (cxOf CX0 P w K mg base ["_law_box_here", "_law_letters", "_law_signs_here", "_law_first", "_law_step", "_law_name", "_law_k", "_law_size", "_law_text", "_law_edge", "_law_things_here"] "_law_things" (defScope s__law_things) f cdv A outer s H E).nox (defBody s__law_things) (t__law_things K sp__law_signs sp__law_take sp__law_figures sp__law_spoilt sp__law_odd) := by
  have hu := hr.units
  have nd := sc__law_things.nd
  exact (pss_cons (ps_set (i := 1) nd rfl (by first | exact Or.inl rfl | exact Or.inr rfl) pe_str)
      (pss_cons (ps_set (i := 2) nd rfl (by first | exact Or.inl rfl | exact Or.inr rfl) (pe_callF0 F__law_signs hr rfl pass0))
      (pss_cons (ps_set (i := 3) nd rfl (by first | exact Or.inl rfl | exact Or.inr rfl) (pe_callF F__law_take hr rfl pass0 (pa_cons (pv 0) (pa_cons pe_int pa_nil))))
      (pss_cons (ps_set (i := 4) nd rfl (by first | exact Or.inl rfl | exact Or.inr rfl) (pe_callF F__law_take hr rfl pass0 (pa_cons (pv 0) (pa_cons pe_int pa_nil))))
      (pss_cons (ps_set (i := 5) nd rfl (by first | exact Or.inl rfl | exact Or.inr rfl) (pe_join pe_str (pe_lc (own := [("_law_k", 6)]) (g := (gName 6)) (tt := tYes) rfl nd (pi_range1 rfl T.b_range (pa_cons (pe_callF F__law_take hr rfl pass0 (pa_cons (pv 0) (pa_cons pe_int pa_nil))) pa_nil)) (blkOk_by (own := [("_law_k", 6)]) (N := ["_law_box_here", "_law_letters", "_law_signs_here", "_law_first", "_law_step", "_law_name", "_law_k", "_law_size", "_law_text", "_law_edge", "_law_things_here"]) (sc := defScope s__law_things) (by decide +kernel)) (fun _ _ _ _ _ => (pg_name (i := 6) nd rfl (by first | exact Or.inl rfl | exact Or.inr rfl))) (fun _ _ _ _ _ => pts_nil) (fun _ _ _ _ _ => (pe_ix (ixAny hu) (pv 1) (pe_op op_mod (pe_op oAdd (pv 3) (pe_op oMul (pv 4) (pv 6))) pe_int) (fun _ _ => rfl))))))
      (pss_cons (ps_set (i := 3) nd rfl (by first | exact Or.inl rfl | exact Or.inr rfl) (pe_callF F__law_take hr rfl pass0 (pa_cons (pv 0) (pa_cons pe_int pa_nil))))
      (pss_cons (ps_set (i := 7) nd rfl (by first | exact Or.inl rfl | exact Or.inr rfl) (pe_ix (ixAny hu) (pe_lst (pa_cons (pe_callF F__law_take hr rfl pass0 (pa_cons (pv 0) (pa_cons pe_int pa_nil))) (pa_cons (pe_op oAdd pe_int (pe_callF F__law_take hr rfl pass0 (pa_cons (pv 0) (pa_cons pe_int pa_nil)))) pa_nil))) (pe_callF F__law_take hr rfl pass0 (pa_cons (pv 0) (pa_cons pe_int pa_nil))) (fun _ _ => rfl)))
      (pss_cons (ps_set (i := 8) nd rfl (by first | exact Or.inl rfl | exact Or.inr rfl) (pe_join pe_str (pe_lc (own := [("_law_k", 6)]) (g := (gName 6)) (tt := tYes) rfl nd (pi_range1 rfl T.b_range (pa_cons (pv 7) pa_nil)) (blkOk_by (own := [("_law_k", 6)]) (N := ["_law_box_here", "_law_letters", "_law_signs_here", "_law_first", "_law_step", "_law_name", "_law_k", "_law_size", "_law_text", "_law_edge", "_law_things_here"]) (sc := defScope s__law_things) (by decide +kernel)) (fun _ _ _ _ _ => (pg_name (i := 6) nd rfl (by first | exact Or.inl rfl | exact Or.inr rfl))) (fun _ _ _ _ _ => pts_nil) (fun _ _ _ _ _ => (pe_ix (ixAny hu) (pv 2) (pe_op op_mod (pe_op oAdd (pv 3) (pe_op oMul (pv 4) (pv 6))) pe_int) (fun _ _ => rfl))))))
      (pss_cons (ps_set (i := 9) nd rfl (by first | exact Or.inl rfl | exact Or.inr rfl) (pe_ix (ixAny hu) (pe_lst (pa_cons (pe_op op_pow pe_int pe_int) (pa_cons (pe_op op_sub (pe_op op_pow pe_int pe_int) pe_int) (pa_cons (pe_op op_sub pe_int (pe_op op_pow pe_int pe_int)) (pa_cons (pe_op op_sub pe_int (pe_op op_pow pe_int pe_int)) pa_nil))))) (pe_callF F__law_take hr rfl pass0 (pa_cons (pv 0) (pa_cons pe_int pa_nil))) (fun _ _ => rfl)))
      (pss_cons (ps_set (i := 10) nd rfl (by first | exact Or.inl rfl | exact Or.inr rfl) (pe_lst (pa_cons (pv 5) (pa_cons (pe_callF F__law_spoilt hr rfl pass0 (pa_cons (pv 0) (pa_cons (pv 5) pa_nil))) (pa_cons (pv 8) (pa_cons (pe_callF F__law_spoilt hr rfl pass0 (pa_cons (pv 0) (pa_cons (pv 8) pa_nil))) (pa_cons (pe_callF F__law_figures hr rfl pass0 (pa_cons (pv 0) pa_nil)) (pa_cons (pv 9) pa_nil))))))))
      (pss_one (ps_ret (pe_op oAdd (pv 10) (pe_lst (pa_cons (pe_callF F__law_odd hr rfl pass0 (pa_cons (pv 0) (pa_cons (pv 5) pa_nil))) (pa_cons (pe_callTy call_strU (by rfl) T.b_str (by decide +kernel) (pa_cons (pe_callF F__law_figures hr rfl pass0 (pa_cons (pv 0) pa_nil)) pa_nil)) pa_nil))))))))))))))))

abbrev s__law_all_in : Stmt := top 19
theorem sc__law_all_in : FnScope ["_law_thing", "_law_signs_here", "_law_sign"] ["_law_thing", "_law_signs_here"] (defScope s__law_all_in) := ⟨rfl, rfl, rfl, by decide +kernel, rfl, by decide +kernel, by decide +kernel⟩
theorem dv__law_all_in {lv : Nat} (T : Txt K mg) {cdv : Value} {A : Around} {outer : List Env} {s : Shared} {H : Hp} {E : XK} {f : Addr} (hr : Room lv (A.deeper (envOfC "_law_all_in" (defScope s__law_all_in) s.heap.objs.size f cdv))) :
    PSs (cxOf CX0 P w K mg base ["_law_thing", "_law_signs_here", "_law_sign"] "_law_all_in" (defScope s__law_all_in) f cdv A outer s H E).nox (defBody s__law_all_in) (t__law_all_in K) := by
  have hu := hr.units
  have nd := sc__law_all_in.nd
  exact (pss_one (ps_ret (pe_cmpR (oEq hu) (pe_lc (own := [("_law_sign", 2)]) (g := (gName 2)) (tt := (tTest (tOp (rNotInU K) (tVar 2) (tVar 1)))) rfl nd (pi_str (pv 0)) (blkOk_by (own := [("_law_sign", 2)]) (N := ["_law_thing", "_law_signs_here", "_law_sign"]) (sc := defScope s__law_all_in) (by decide +kernel)) (fun _ _ _ _ _ => (pg_name (i := 2) nd rfl (by first | exact Or.inl rfl | exact Or.inr rfl))) (fun _ _ _ _ _ => (pts_one (pt_cmpR (oNotIn hu) (pv 2) (pv 1) (by rfl)))) (fun _ _ _ _ _ => (pv 2))) (pe_lst pa_nil) (nomark _))))

abbrev s__law_due : Stmt := top 20
theorem sc__law_due : FnScope ["_law_thing", "_law_whole", "_law_number", "_law_name", "_law_text"] ["_law_thing"] (defScope s__law_due) := ⟨rfl, rfl, rfl, by decide +kernel, rfl, by decide +kernel, by decide +kernel⟩
theorem dv__law_due {lv : Nat} (T : Txt K mg) {sp__law_all_in : Sp} {sp__law_signs : Sp} (F__law_all_in : FOk P w K mg base CX0 lv "_law_all_in" ["_law_thing", "_law_signs_here"] sp__law_all_in) (F__law_signs : FOk P w K mg base CX0 lv "_law_signs" [] sp__law_signs) {cdv : Value} {A : Around} {outer : List Env} {s : Shared} {H : Hp} {E : XK} {f : Addr} (hr : Room lv (A.deeper (envOfC "_law_due" (defScope s__law_due) s.heap.objs.size f cdv))) :
    PSs (cxOf CX0 P w K mg base ["_law_thing", "_law_whole", "_law_number", "_law_name", "_law_text"] "_law_due" (defScope s__law_due) f cdv A outer s H E).nox (defBody s__law_due) (t__law_due K sp__law_all_in sp__law_signs) := by
  have hu := hr.units
  have nd := sc__law_due.nd
  exact (pss_cons (ps_set (i := 1) nd rfl (by first | exact Or.inl rfl | exact Or.inr rfl) (pe_and (pe_callB call_isi (by rfl) T.b_isinstance (by decide +kernel) (pa_cons (pv 0) (pa_cons (pe_bltn (v := .ty "int") rfl T.b_int (by decide +kernel) rfl) pa_nil))) (pe_one (pe_not (pe_callB call_isi (by rfl) T.b_isinstance (by decide +kernel) (pa_cons (pv 0) (pa_cons (pe_bltn (v := .ty "bool") rfl T.b_bool (by decide +kernel) rfl) pa_nil)))))))
      (pss_cons (ps_set (i := 2) nd rfl (by first | exact Or.inl rfl | exact Or.inr rfl) (pe_and (pv 1) (pe_one (pe_chain oLt oLt (pe_op op_sub pe_int (pe_op op_pow pe_int pe_int)) (pv 0) (pe_op op_pow pe_int pe_int)))))
      (pss_cons (ps_set (i := 3) nd rfl (by first | exact Or.inl rfl | exact Or.inr rfl) pe_bl)
      (pss_cons (ps_set (i := 4) nd rfl (by first | exact Or.inl rfl | exact Or.inr rfl) pe_bl)
      (pss_cons (ps_if (pt_val (pe_callB call_isi (by rfl) T.b_isinstance (by decide +kernel) (pa_cons (pv 0) (pa_cons (pe_bltn (v := .ty "str") rfl T.b_str (by decide +kernel) rfl) pa_nil)))) (pss_cons (ps_set (i := 3) nd rfl (by first | exact Or.inl rfl | exact Or.inr rfl) (pe_and (pe_chain oLt oLt pe_int (pe_callB call_lenU (by rfl) T.b_len (by decide +kernel) (pa_cons (pv 0) pa_nil)) pe_int) (pe_one (pe_callF F__law_all_in hr rfl pass0 (pa_cons (pv 0) (pa_cons pe_str pa_nil))))))
      (pss_one (ps_set (i := 4) nd rfl (by first | exact Or.inl rfl | exact Or.inr rfl) (pe_and (pe_cmpR oLt (pe_callB call_lenU (by rfl) T.b_len (by decide +kernel) (pa_cons (pv 0) pa_nil)) pe_int (nomark _)) (pe_one (pe_callF F__law_all_in hr rfl pass0 (pa_cons (pv 0) (pa_cons (pe_callF0 F__law_signs hr rfl pass0) pa_nil)))))))) pss_nil)
      (pss_one (ps_ret (pe_lst (pa_cons (pv 1) (pa_cons (pv 3) (pa_cons (pv 2) (pa_cons (pv 4) pa_nil))))))))))))

abbrev s__law_right : Stmt := top 21
theorem sc__law_right : FnScope ["_law_thing", "_law_found", "_law_one"] ["_law_thing"] (defScope s__law_right) := ⟨rfl, rfl, rfl, by decide +kernel, rfl, by decide +kernel, by decide +kernel⟩
theorem dv__law_right {lv : Nat} (T : Txt K mg) {sp_is_text : Sp} {sp_is_number : Sp} {sp_is_name : Sp} {sp_is_whole : Sp} {sp__law_due : Sp} (F_is_text : FOk P w K mg base CX0 lv "is_text" ["thing"] sp_is_text) (F_is_number : FOk P w K mg base CX0 lv "is_number" ["thing"] sp_is_number) (F_is_name : FOk P w K mg base CX0 lv "is_name" ["thing"] sp_is_name) (F_is_whole : FOk P w K mg base CX0 lv "is_whole" ["thing"] sp_is_whole) (F__law_due : FOk P w K mg base CX0 lv "_law_due" ["_law_thing"] sp__law_due) {cdv : Value} {A : Around} {outer : List Env} {s : Shared} {H : Hp} {E : XK} {f : Addr} (hr : Room lv (A.deeper (envOfC "_law_right" (defScope s__law_right) s.heap.objs.size f cdv))) :
    PSs (cxOf CX0 P w K mg base ["_law_thing", "_law_found", "_law_one"] "_law_right" (defScope s__law_right) f cdv A outer s H E).nox (defBody s__law_right) (t__law_right K sp_is_text sp_is_number sp_is_name sp_is_whole sp__law_due) := by
  have hu := hr.units
  have nd := sc__law_right.nd
  exact (pss_cons (ps_set (i := 1) nd rfl (by first | exact Or.inl rfl | exact Or.inr rfl) (pe_lst (pa_cons (pe_callF F_is_whole hr rfl pass0 (pa_cons (pv 0) pa_nil)) (pa_cons (pe_callF F_is_name hr rfl pass0 (pa_cons (pv 0) pa_nil)) (pa_cons (pe_callF F_is_number hr rfl pass0 (pa_cons (pv 0) pa_nil)) (pa_cons (pe_callF F_is_text hr rfl pass0 (pa_cons (pv 0) pa_nil)) pa_nil))))))
      (pss_one (ps_ret (pe_and (pe_cmpR (oEq hu) (pe_lc (own := [("_law_one", 2)]) (g := (gName 2)) (tt := (tNot (tB (tCB (rIsi K) (tCons (tVar 2) (tCons (tC (.ty "bool")) tNil)))))) rfl nd (pi_list (pv 1)) (blkOk_by (own := [("_law_one", 2)]) (N := ["_law_thing", "_law_found", "_law_one"]) (sc := defScope s__law_right) (by decide +kernel)) (fun _ _ _ _ _ => (pg_name (i := 2) nd rfl (by first | exact Or.inl rfl | exact Or.inr rfl))) (fun _ _ _ _ _ => (pts_one (pt_not (pt_val (pe_callB call_isi (by rfl) T.b_isinstance (by decide +kernel) (pa_cons (pv 2) (pa_cons (pe_bltn (v := .ty "bool") rfl T.b_bool (by decide +kernel) rfl) pa_nil))))))) (fun _ _ _ _ _ => (pv 2))) (pe_lst pa_nil) (nomark _)) (pe_one (pe_cmpR (oEq hu) (pv 1) (pe_callF F__law_due hr rfl pass0 (pa_cons (pv 0) pa_nil)) (nomark _)))))))

abbrev s_law : Stmt := top 22
theorem sc_law : FnScope ["_law_script", "_law_asked", "_law_k", "_law_thing"] ["_law_script"] (defScope s_law) := ⟨rfl, rfl, rfl, by decide +kernel, rfl, by decide +kernel, by decide +kernel⟩
theorem dv_law {lv : Nat} (T : Txt K mg) {sp__law_things : Sp} {sp__law_box : Sp} {sp__law_cell : Sp} {sp__law_right : Sp} (F__law_things : FOk P w K mg base CX0 lv "_law_things" ["_law_box_here"] sp__law_things) (F__law_box : FOk P w K mg base CX0 lv "_law_box" ["_law_cell_here"] sp__law_box) (F__law_cell : FOk P w K mg base CX0 lv "_law_cell" ["_law_script", "_law_k"] sp__law_cell) (F__law_right : FOk P w K mg base CX0 lv "_law_right" ["_law_thing"] sp__law_right) {cdv : Value} {A : Around} {outer : List Env} {s : Shared} {H : Hp} {E : XK} {f : Addr} (hr : Room lv (A.deeper (envOfC "law" (defScope s_law) s.heap.objs.size f cdv))) :
    PSs (cxOf CX0 P w K mg base ["_law_script", "_law_asked", "_law_k", "_law_thing"] "law" (defScope s_law) f cdv A outer s H E).nox (defBody s_law) (t_law K sp__law_things sp__law_box sp__law_cell sp__law_right) := by
  have hu := hr.units
  have nd := sc_law.nd
  exact (pss_cons (ps_set (i := 1) nd rfl (by first | exact Or.inl rfl | exact Or.inr rfl) (pe_lst pa_nil))
      (pss_cons (ps_for PassesOwn.never rfl (pi_range1 rfl T.b_range (pa_cons (pe_callB (call_max2 rfl) (by rfl) T.b_max (by decide +kernel) (pa_cons pe_int (pa_cons (pe_callB (call_min2 rfl) (by rfl) T.b_min (by decide +kernel) (pa_cons pe_int (pa_cons (pe_callB call_lenU (by rfl) T.b_len (by decide +kernel) (pa_cons (pv 0) pa_nil)) pa_nil))) pa_nil))) pa_nil)) (pg_name (i := 2) nd rfl (by first | exact Or.inl rfl | exact Or.inr rfl)) (pss_one (ps_for PassesOwn.never rfl (pi_list (pe_callF F__law_things hr rfl pass0 (pa_cons (pe_callF F__law_box hr rfl pass0 (pa_cons (pe_callF F__law_cell hr rfl pass0 (pa_cons (pv 0) (pa_cons (pv 2) pa_nil))) pa_nil)) pa_nil))) (pg_name (i := 3) nd rfl (by first | exact Or.inl rfl | exact Or.inr rfl)) (pss_cons (ps_if (pt_not (pt_val (pe_callF F__law_right hr rfl pass0 (pa_cons (pv 3) pa_nil)))) (pss_one (ps_ret pe_bl)) pss_nil)
      (pss_one (ps_expr (pe_bm PySem.F.plainAttrs_list PySem.F.slot_list_append PySem.F.type_list_append mt_append (pv 1) (pa_cons (pv 3) pa_nil))))))))
      (pss_cons (ps_for PassesOwn.never rfl (pi_list (pv 1)) (pg_name (i := 3) nd rfl (by first | exact Or.inl rfl | exact Or.inr rfl)) (pss_one (ps_if (pt_not (pt_val (pe_callF F__law_right hr rfl pass0 (pa_cons (pv 3) pa_nil)))) (pss_one (ps_ret pe_bl)) pss_nil)))
      (pss_one (ps_ret pe_bl)))))
end
end Hk

namespace Hk
open PySem PySem.Spec PyProof.Rows L2 He
section
variable {P : Program} {w : World} {K : PySem.W.Frag} {mg : Str → Option Value} {base : Heap}
theorem ok_is_whole {lv : Nat} (T : Txt K mg) (F : ∃ fd, FnP K "is_whole" s_is_whole (ga K "is_whole") fd) (g : mg "is_whole" = some (.ref (ga K "is_whole"))) : FOk P w K mg base CX0 (lv + 1) "is_whole" ["thing"] (spB wholeV) :=
  mkF F g sc_is_whole (fun vs H Q E h => by first | (obtain ⟨rfl, _⟩ := h; rfl) | (obtain ⟨_, rfl, _⟩ := h; rfl) | (obtain ⟨_, _, rfl, _⟩ := h; rfl) | (obtain ⟨_, _, _, rfl, _⟩ := h; rfl) | (obtain ⟨_, _, _, _, rfl, _⟩ := h; rfl) | (obtain ⟨_, _, _, _, _, rfl, _⟩ := h; rfl)) (fun _ _ _ _ _ _ us hl => match us, hl with | [_], _ => rfl) (fun cdv A outer s H vs Q E hr h => ⟨_, dv_is_whole T hr, pure_whole vs H Q E h⟩)
theorem ok_is_name {lv : Nat} (T : Txt K mg) (F : ∃ fd, FnP K "is_name" s_is_name (ga K "is_name") fd) (g : mg "is_name" = some (.ref (ga K "is_name"))) : FOk P w K mg base CX0 (lv + 1) "is_name" ["thing"] (spB nameV) :=
  mkF F g sc_is_name (fun vs H Q E h => by first | (obtain ⟨rfl, _⟩ := h; rfl) | (obtain ⟨_, rfl, _⟩ := h; rfl) | (obtain ⟨_, _, rfl, _⟩ := h; rfl) | (obtain ⟨_, _, _, rfl, _⟩ := h; rfl) | (obtain ⟨_, _, _, _, rfl, _⟩ := h; rfl) | (obtain ⟨_, _, _, _, _, rfl, _⟩ := h; rfl)) (fun _ _ _ _ _ _ us hl => match us, hl with | [_], _ => rfl) (fun cdv A outer s H vs Q E hr h => ⟨_, dv_is_name T hr, pure_name vs H Q E h⟩)
theorem ok_is_number {lv : Nat} (T : Txt K mg) (F : ∃ fd, FnP K "is_number" s_is_number (ga K "is_number") fd) (g : mg "is_number" = some (.ref (ga K "is_number"))) (F_is_whole : FOk P w K mg base CX0 lv "is_whole" ["thing"] (spB wholeV)) : FOk P w K mg base CX0 (lv + 1) "is_number" ["thing"] (spB numberV) :=
  mkF F g sc_is_number (fun vs H Q E h => by first | (obtain ⟨rfl, _⟩ := h; rfl) | (obtain ⟨_, rfl, _⟩ := h; rfl) | (obtain ⟨_, _, rfl, _⟩ := h; rfl) | (obtain ⟨_, _, _, rfl, _⟩ := h; rfl) | (obtain ⟨_, _, _, _, rfl, _⟩ := h; rfl) | (obtain ⟨_, _, _, _, _, rfl, _⟩ := h; rfl)) (fun _ _ _ _ _ _ us hl => match us, hl with | [_], _ => rfl) (fun cdv A outer s H vs Q E hr h => ⟨_, dv_is_number T F_is_whole hr, pure_number vs H Q E h⟩)
theorem ok_is_text {lv : Nat} (T : Txt K mg) (F : ∃ fd, FnP K "is_text" s_is_text (ga K "is_text") fd) (g : mg "is_text" = some (.ref (ga K "is_text"))) : FOk P w K mg base CX0 (lv + 1) "is_text" ["thing"] (spB textV) :=
  mkF F g sc_is_text (fun vs H Q E h => by first | (obtain ⟨rfl, _⟩ := h; rfl) | (obtain ⟨_, rfl, _⟩ := h; rfl) | (obtain ⟨_, _, rfl, _⟩ := h; rfl) | (obtain ⟨_, _, _, rfl, _⟩ := h; rfl) | (obtain ⟨_, _, _, _, rfl, _⟩ := h; rfl) | (obtain ⟨_, _, _, _, _, rfl, _⟩ := h; rfl)) (fun _ _ _ _ _ _ us hl => match us, hl with | [_], _ => rfl) (fun cdv A outer s H vs Q E hr h => ⟨_, dv_is_text T hr, pure_text vs H Q E h⟩)
theorem ok__law_cell {lv : Nat} (T : Txt K mg) (F : ∃ fd, FnP K "_law_cell" s__law_cell (ga K "_law_cell") fd) (g : mg "_law_cell" = some (.ref (ga K "_law_cell"))) : FOk P w K mg base CX0 (lv + 1) "_law_cell" ["_law_script", "_law_k"] (sp_cell K) :=
  mkF F g sc__law_cell (fun vs H Q E h => by first | (obtain ⟨rfl, _⟩ := h; rfl) | (obtain ⟨_, rfl, _⟩ := h; rfl) | (obtain ⟨_, _, rfl, _⟩ := h; rfl) | (obtain ⟨_, _, _, rfl, _⟩ := h; rfl) | (obtain ⟨_, _, _, _, rfl, _⟩ := h; rfl) | (obtain ⟨_, _, _, _, _, rfl, _⟩ := h; rfl)) (fun _ _ _ _ _ _ us hl => match us, hl with | [_, _], _ => rfl) (fun cdv A outer s H vs Q E hr h => ⟨_, dv__law_cell T hr, pure_cell vs H Q E h⟩)
theorem ok__law_box {lv : Nat} (T : Txt K mg) (F : ∃ fd, FnP K "_law_box" s__law_box (ga K "_law_box") fd) (g : mg "_law_box" = some (.ref (ga K "_law_box"))) : FOk P w K mg base CX0 (lv + 1) "_law_box" ["_law_cell_here"] sp_box :=
  mkF F g sc__law_box (fun vs H Q E h => by first | (obtain ⟨rfl, _⟩ := h; rfl) | (obtain ⟨_, rfl, _⟩ := h; rfl) | (obtain ⟨_, _, rfl, _⟩ := h; rfl) | (obtain ⟨_, _, _, rfl, _⟩ := h; rfl) | (obtain ⟨_, _, _, _, rfl, _⟩ := h; rfl) | (obtain ⟨_, _, _, _, _, rfl, _⟩ := h; rfl)) (fun _ _ _ _ _ _ us hl => match us, hl with | [_], _ => rfl) (fun cdv A outer s H vs Q E hr h => ⟨_, dv__law_box T hr, pure_box vs H Q E h⟩)
theorem ok__law_take {lv : Nat} (T : Txt K mg) (F : ∃ fd, FnP K "_law_take" s__law_take (ga K "_law_take") fd) (g : mg "_law_take" = some (.ref (ga K "_law_take"))) : FOk P w K mg base CX0 (lv + 1) "_law_take" ["_law_box_here", "_law_many"] sp_take :=
  mkF F g sc__law_take (fun vs H Q E h => by first | (obtain ⟨rfl, _⟩ := h; rfl) | (obtain ⟨_, rfl, _⟩ := h; rfl) | (obtain ⟨_, _, rfl, _⟩ := h; rfl) | (obtain ⟨_, _, _, rfl, _⟩ := h; rfl) | (obtain ⟨_, _, _, _, rfl, _⟩ := h; rfl) | (obtain ⟨_, _, _, _, _, rfl, _⟩ := h; rfl)) (fun _ _ _ _ _ _ us hl => match us, hl with | [_, _], _ => rfl) (fun cdv A outer s H vs Q E hr h => ⟨_, dv__law_take T hr, pure_take vs H Q E h⟩)
theorem ok__law_signs {lv : Nat} (T : Txt K mg) (F : ∃ fd, FnP K "_law_signs" s__law_signs (ga K "_law_signs") fd) (g : mg "_law_signs" = some (.ref (ga K "_law_signs"))) : FOk P w K mg base CX0 (lv + 1) "_law_signs" [] sp_signs :=
  mkF F g sc__law_signs (fun vs H Q E h => by first | (obtain ⟨rfl, _⟩ := h; rfl) | (obtain ⟨_, rfl, _⟩ := h; rfl) | (obtain ⟨_, _, rfl, _⟩ := h; rfl) | (obtain ⟨_, _, _, rfl, _⟩ := h; rfl) | (obtain ⟨_, _, _, _, rfl, _⟩ := h; rfl) | (obtain ⟨_, _, _, _, _, rfl, _⟩ := h; rfl)) (fun _ _ _ _ _ _ us hl => match us, hl with | [], _ => rfl) (fun cdv A outer s H vs Q E hr h => ⟨_, dv__law_signs T hr, pure_signs vs H Q E h⟩)
theorem ok__law_spoilt {lv : Nat} (T : Txt K mg) (F : ∃ fd, FnP K "_law_spoilt" s__law_spoilt (ga K "_law_spoilt") fd) (g : mg "_law_spoilt" = some (.ref (ga K "_law_spoilt"))) (F__law_take : FOk P w K mg base CX0 lv "_law_take" ["_law_box_here", "_law_many"] sp_take) (F__law_signs : FOk P w K mg base CX0 lv "_law_signs" [] sp_signs) : FOk P w K mg base CX0 (lv + 1) "_law_spoilt" ["_law_box_here", "_law_text"] sp_spoilt :=
  mkF F g sc__law_spoilt (fun vs H Q E h => by first | (obtain ⟨rfl, _⟩ := h; rfl) | (obtain ⟨_, rfl, _⟩ := h; rfl) | (obtain ⟨_, _, rfl, _⟩ := h; rfl) | (obtain ⟨_, _, _, rfl, _⟩ := h; rfl) | (obtain ⟨_, _, _, _, rfl, _⟩ := h; rfl) | (obtain ⟨_, _, _, _, _, rfl, _⟩ := h; rfl)) (fun _ _ _ _ _ _ us hl => match us, hl with | [_, _], _ => rfl) (fun cdv A outer s H vs Q E hr h => ⟨_, dv__law_spoilt T F__law_take F__law_signs hr, pure_spoilt vs H Q E h⟩)
theorem ok__law_figures {lv : Nat} (T : Txt K mg) (F : ∃ fd, FnP K "_law_figures" s__law_figures (ga K "_law_figures") fd) (g : mg "_law_figures" = some (.ref (ga K "_law_figures"))) (F__law_take : FOk P w K mg base CX0 lv "_law_take" ["_law_box_here", "_law_many"] sp_take) : FOk P w K mg base CX0 (lv + 1) "_law_figures" ["_law_box_here"] sp_figures :=
  mkF F g sc__law_figures (fun vs H Q E h => by first | (obtain ⟨rfl, _⟩ := h; rfl) | (obtain ⟨_, rfl, _⟩ := h; rfl) | (obtain ⟨_, _, rfl, _⟩ := h; rfl) | (obtain ⟨_, _, _, rfl, _⟩ := h; rfl) | (obtain ⟨_, _, _, _, rfl, _⟩ := h; rfl) | (obtain ⟨_, _, _, _, _, rfl, _⟩ := h; rfl)) (fun _ _ _ _ _ _ us hl => match us, hl with | [_], _ => rfl) (fun cdv A outer s H vs Q E hr h => ⟨_, dv__law_figures T F__law_take hr, pure_figures vs H Q E h⟩)
theorem ok__law_odd {lv : Nat} (T : Txt K mg) (F : ∃ fd, FnP K "_law_odd" s__law_odd (ga K "_law_odd") fd) (g : mg "_law_odd" = some (.ref (ga K "_law_odd"))) (F__law_take : FOk P w K mg base CX0 lv "_law_take" ["_law_box_here", "_law_many"] sp_take) : FOk P w K mg base CX0 (lv + 1) "_law_odd" ["_law_box_here", "_law_name"] sp_odd :=
  mkF F g sc__law_odd (fun vs H Q E h => by first | (obtain ⟨rfl, _⟩ := h; rfl) | (obtain ⟨_, rfl, _⟩ := h; rfl) | (obtain ⟨_, _, rfl, _⟩ := h; rfl) | (obtain ⟨_, _, _, rfl, _⟩ := h; rfl) | (obtain ⟨_, _, _, _, rfl, _⟩ := h; rfl) | (obtain ⟨_, _, _, _, _, rfl, _⟩ := h; rfl)) (fun _ _ _ _ _ _ us hl => match us, hl with | [_, _], _ => rfl) (fun cdv A outer s H vs Q E hr h => ⟨_, dv__law_odd T F__law_take hr, pure_odd vs H Q E h⟩)
theorem ok__law_things {lv : Nat} (T : Txt K mg) (F : ∃ fd, FnP K "_law_things" s__law_things (ga K "_law_things") fd) (g : mg "_law_things" = some (.ref (ga K "_law_things"))) (F__law_signs : FOk P w K mg base CX0 lv "_law_signs" [] sp_signs) (F__law_take : FOk P w K mg base CX0 lv "_law_take" ["_law_box_here", "_law_many"] sp_take) (F__law_figures : FOk P w K mg base CX0 lv "_law_figures" ["_law_box_here"] sp_figures) (F__law_spoilt : FOk P w K mg base CX0 lv "_law_spoilt" ["_law_box_here", "_law_text"] sp_spoilt) (F__law_odd : FOk P w K mg base CX0 lv "_law_odd" ["_law_box_here", "_law_name"] sp_odd) : FOk P w K mg base CX0 (lv + 1) "_law_things" ["_law_box_here"] sp_things :=
  mkF F g sc__law_things (fun vs H Q E h => by first | (obtain ⟨rfl, _⟩ := h; rfl) | (obtain ⟨_, rfl, _⟩ := h; rfl) | (obtain ⟨_, _, rfl, _⟩ := h; rfl) | (obtain ⟨_, _, _, rfl, _⟩ := h; rfl) | (obtain ⟨_, _, _, _, rfl, _⟩ := h; rfl) | (obtain ⟨_, _, _, _, _, rfl, _⟩ := h; rfl)) (fun _ _ _ _ _ _ us hl => match us, hl with | [_], _ => rfl) (fun cdv A outer s H vs Q E hr h => ⟨_, dv__law_things T F__law_signs F__law_take F__law_figures F__law_spoilt F__law_odd hr, pure_things vs H Q E h⟩)
theorem ok__law_all_in {lv : Nat} (T : Txt K mg) (F : ∃ fd, FnP K "_law_all_in" s__law_all_in (ga K "_law_all_in") fd) (g : mg "_law_all_in" = some (.ref (ga K "_law_all_in"))) : FOk P w K mg base CX0 (lv + 1) "_law_all_in" ["_law_thing", "_law_signs_here"] sp_all_in :=
  mkF F g sc__law_all_in (fun vs H Q E h => by first | (obtain ⟨rfl, _⟩ := h; rfl) | (obtain ⟨_, rfl, _⟩ := h; rfl) | (obtain ⟨_, _, rfl, _⟩ := h; rfl) | (obtain ⟨_, _, _, rfl, _⟩ := h; rfl) | (obtain ⟨_, _, _, _, rfl, _⟩ := h; rfl) | (obtain ⟨_, _, _, _, _, rfl, _⟩ := h; rfl)) (fun _ _ _ _ _ _ us hl => match us, hl with | [_, _], _ => rfl) (fun cdv A outer s H vs Q E hr h => ⟨_, dv__law_all_in T hr, pure_all_in vs H Q E h⟩)
theorem ok__law_due {lv : Nat} (T : Txt K mg) (F : ∃ fd, FnP K "_law_due" s__law_due (ga K "_law_due") fd) (g : mg "_law_due" = some (.ref (ga K "_law_due"))) (F__law_all_in : FOk P w K mg base CX0 lv "_law_all_in" ["_law_thing", "_law_signs_here"] sp_all_in) (F__law_signs : FOk P w K mg base CX0 lv "_law_signs" [] sp_signs) : FOk P w K mg base CX0 (lv + 1) "_law_due" ["_law_thing"] sp_due :=
  mkF F g sc__law_due (fun vs H Q E h => by first | (obtain ⟨rfl, _⟩ := h; rfl) | (obtain ⟨_, rfl, _⟩ := h; rfl) | (obtain ⟨_, _, rfl, _⟩ := h; rfl) | (obtain ⟨_, _, _, rfl, _⟩ := h; rfl) | (obtain ⟨_, _, _, _, rfl, _⟩ := h; rfl) | (obtain ⟨_, _, _, _, _, rfl, _⟩ := h; rfl)) (fun _ _ _ _ _ _ us hl => match us, hl with | [_], _ => rfl) (fun cdv A outer s H vs Q E hr h => ⟨_, dv__law_due T F__law_all_in F__law_signs hr, pure_due vs H Q E h⟩)
theorem ok__law_right {lv : Nat} (T : Txt K mg) (F : ∃ fd, FnP K "_law_right" s__law_right (ga K "_law_right") fd) (g : mg "_law_right" = some (.ref (ga K "_law_right"))) (F_is_text : FOk P w K mg base CX0 lv "is_text" ["thing"] (spB textV)) (F_is_number : FOk P w K mg base CX0 lv "is_number" ["thing"] (spB numberV)) (F_is_name : FOk P w K mg base CX0 lv "is_name" ["thing"] (spB nameV)) (F_is_whole : FOk P w K mg base CX0 lv "is_whole" ["thing"] (spB wholeV)) (F__law_due : FOk P w K mg base CX0 lv "_law_due" ["_law_thing"] sp_due) : FOk P w K mg base CX0 (lv + 1) "_law_right" ["_law_thing"] sp_right :=
  mkF F g sc__law_right (fun vs H Q E h => by first | (obtain ⟨rfl, _⟩ := h; rfl) | (obtain ⟨_, rfl, _⟩ := h; rfl) | (obtain ⟨_, _, rfl, _⟩ := h; rfl) | (obtain ⟨_, _, _, rfl, _⟩ := h; rfl) | (obtain ⟨_, _, _, _, rfl, _⟩ := h; rfl) | (obtain ⟨_, _, _, _, _, rfl, _⟩ := h; rfl)) (fun _ _ _ _ _ _ us hl => match us, hl with | [_], _ => rfl) (fun cdv A outer s H vs Q E hr h => ⟨_, dv__law_right T F_is_text F_is_number F_is_name F_is_whole F__law_due hr, pure_right vs H Q E h⟩)
end
def d_is_whole : He.DefD := ⟨("is_whole", none), "is_whole", "is_whole", defArgs s_is_whole, defBody s_is_whole, defScope s_is_whole, [], []⟩
def d_is_name : He.DefD := ⟨("is_name", none), "is_name", "is_name", defArgs s_is_name, defBody s_is_name, defScope s_is_name, [], []⟩
def d_is_number : He.DefD := ⟨("is_number", none), "is_number", "is_number", defArgs s_is_number, defBody s_is_number, defScope s_is_number, [], []⟩
def d_is_text : He.DefD := ⟨("is_text", none), "is_text", "is_text", defArgs s_is_text, defBody s_is_text, defScope s_is_text, [], []⟩
def d__law_cell : He.DefD := ⟨("_law_cell", none), "_law_cell", "_law_cell", defArgs s__law_cell, defBody s__law_cell, defScope s__law_cell, [], []⟩
def d__law_box : He.DefD := ⟨("_law_box", none), "_law_box", "_law_box", defArgs s__law_box, defBody s__law_box, defScope s__law_box, [], []⟩
def d__law_take : He.DefD := ⟨("_law_take", none), "_law_take", "_law_take", defArgs s__law_take, defBody s__law_take, defScope s__law_take, [], []⟩
def d__law_signs : He.DefD := ⟨("_law_signs", none), "_law_signs", "_law_signs", defArgs s__law_signs, defBody s__law_signs, defScope s__law_signs, [], []⟩
def d__law_spoilt : He.DefD := ⟨("_law_spoilt", none), "_law_spoilt", "_law_spoilt", defArgs s__law_spoilt, defBody s__law_spoilt, defScope s__law_spoilt, [], []⟩
def d__law_figures : He.DefD := ⟨("_law_figures", none), "_law_figures", "_law_figures", defArgs s__law_figures, defBody s__law_figures, defScope s__law_figures, [], []⟩
def d__law_odd : He.DefD := ⟨("_law_odd", none), "_law_odd", "_law_odd", defArgs s__law_odd, defBody s__law_odd, defScope s__law_odd, [], []⟩
def d__law_things : He.DefD := ⟨("_law_things", none), "_law_things", "_law_things", defArgs s__law_things, defBody s__law_things, defScope s__law_things, [], []⟩
def d__law_all_in : He.DefD := ⟨("_law_all_in", none), "_law_all_in", "_law_all_in", defArgs s__law_all_in, defBody s__law_all_in, defScope s__law_all_in, [], []⟩
def d__law_due : He.DefD := ⟨("_law_due", none), "_law_due", "_law_due", defArgs s__law_due, defBody s__law_due, defScope s__law_due, [], []⟩
def d__law_right : He.DefD := ⟨("_law_right", none), "_law_right", "_law_right", defArgs s__law_right, defBody s__law_right, defScope s__law_right, [], []⟩
def d_law : He.DefD := ⟨("law", none), "law", "law", defArgs s_law, defBody s_law, defScope s_law, [], []⟩
def fn : List He.DefD := [d_is_whole, d_is_name, d_is_number, d_is_text, d__law_cell, d__law_box, d__law_take, d__law_signs, d__law_spoilt, d__law_figures, d__law_odd, d__law_things, d__law_all_in, d__law_due, d__law_right, d_law]
def fa : List He.Fa := [.free "isinstance", .free "int", .free "bool", .free "str", .free "len", .free "all", .free "max", .free "range", .free "min", .int "LONGEST_NAME" 8, .str "LETTERS" "abcdefghijklmnopqrstuvwxyz", .int "BEYOND" 1000000000000000000, .int "LONGEST_TEXT" 40, .str "SIGNS" " !\"#$&'()*+,-./0123456789:;<=>?@ABCDEFGHIJKLMNOPQRSTUVWXYZ[\\]^_`abcdefghijklmnopqrstuvwxyz{|}~", .glo "is_whole", .glo "is_name", .glo "is_number", .glo "is_text", .glo "_law_cell", .glo "_law_box", .glo "_law_take", .glo "_law_signs", .glo "_law_spoilt", .glo "_law_figures", .glo "_law_odd", .glo "_law_things", .glo "_law_all_in", .glo "_law_due", .glo "_law_right", .glo "law"]
def loose : List PySem.Str := ["LETTERS", "SIGNS", "BEYOND", "LONGEST_NAME", "LONGEST_TEXT", "is_whole", "is_name", "is_number", "is_text", "_law_cell", "_law_box", "_law_take", "_law_signs", "_law_spoilt", "_law_figures", "_law_odd", "_law_things", "_law_all_in", "_law_due", "_law_right"]
abbrev R : PySem.W.OpenRow := PySem.W.OpenLaw.row PySem.Challenge.rw_heapkinds_k01_words_of_anything
abbrev hk : PySem.W.Hook := He.hookD 4 fa fn
def ob (s : PySem.W.SharedT) : He.AlD := He.obsDG 4 fa fn (HandSHeadRun.getT s)
theorem ob_eq (s : PySem.W.SharedT) : ob s = hk.obs s.abs := He.obsDG_eq (HandSHeadRun.getT_eq s)
theorem run (w : World) : HandSHeadRun.RunEq R (PySem.W.view R.prog [22]) hk ob 4000 loose w := by
  intro os
  kernel_rfl
theorem okLaw {P : Program} {w : World} {K : PySem.W.Frag} {mg : Str → Option Value} {base : Heap} {fd : FuncData} {lv : Nat} (T : Txt K mg) (F : FnP K "law" s_law (ga K "law") fd) (F__law_things : FOk P w K mg base CX0 lv "_law_things" ["_law_box_here"] sp_things) (F__law_box : FOk P w K mg base CX0 lv "_law_box" ["_law_cell_here"] sp_box) (F__law_cell : FOk P w K mg base CX0 lv "_law_cell" ["_law_script", "_law_k"] (sp_cell K)) (F__law_right : FOk P w K mg base CX0 lv "_law_right" ["_law_thing"] sp_right) : FnOk P w K mg base CX0 (lv + 1) (ga K "law") fd ["_law_script"] (spLaw K) := by
  refine F.ok sc_law (fun vs H Q E h => by first | (obtain ⟨rfl, _⟩ := h; rfl) | (obtain ⟨_, rfl, _⟩ := h; rfl) | (obtain ⟨_, _, rfl, _⟩ := h; rfl) | (obtain ⟨_, _, _, rfl, _⟩ := h; rfl) | (obtain ⟨_, _, _, _, rfl, _⟩ := h; rfl) | (obtain ⟨_, _, _, _, _, rfl, _⟩ := h; rfl)) (fun cdv A outer s H vs Q E hr h => ⟨_, PSs.nox (dv_law T F__law_things F__law_box F__law_cell F__law_right hr), pure_law vs H Q E h⟩)
theorem facts {P : Program} {w : World} {K : PySem.W.Frag} {h : Heap} {mg : Str → Option Value} {f : Addr} (X : K.In h) (G : h.Ns mainGlobals mg) (hfa : mg ("law" : Str) = some (.ref f)) (c : He.SaysD fa fn K) :
    ∃ fd : FuncData, (∀ (s : Shared) (v : Value), BindsTo s fd ⟨[v], []⟩ [("_law_script", v)]) ∧ ∀ base : Heap, K.In base → base.Ns mainGlobals mg → FnOk P w K mg base CX0 4 f fd ["_law_script"] (spLaw K) := by
  have T : Txt K mg := ⟨He.free_ok X G (c.fact 0 rfl), He.free_ok X G (c.fact 1 rfl), He.free_ok X G (c.fact 2 rfl), He.free_ok X G (c.fact 3 rfl), He.free_ok X G (c.fact 4 rfl), He.free_ok X G (c.fact 5 rfl), He.free_ok X G (c.fact 6 rfl), He.free_ok X G (c.fact 7 rfl), He.free_ok X G (c.fact 8 rfl), He.int_ok X G (c.fact 9 rfl), He.str_ok X G (c.fact 10 rfl), He.int_ok X G (c.fact 11 rfl), He.int_ok X G (c.fact 12 rfl), He.str_ok X G (c.fact 13 rfl)⟩
  have g_is_whole := He.glo_ok X G (c.fact 14 (f := .glo "is_whole") rfl)
  have D_is_whole := c.def_ 0 (d := d_is_whole) rfl
  have g_is_name := He.glo_ok X G (c.fact 15 (f := .glo "is_name") rfl)
  have D_is_name := c.def_ 1 (d := d_is_name) rfl
  have g_is_number := He.glo_ok X G (c.fact 16 (f := .glo "is_number") rfl)
  have D_is_number := c.def_ 2 (d := d_is_number) rfl
  have g_is_text := He.glo_ok X G (c.fact 17 (f := .glo "is_text") rfl)
  have D_is_text := c.def_ 3 (d := d_is_text) rfl
  have g__law_cell := He.glo_ok X G (c.fact 18 (f := .glo "_law_cell") rfl)
  have D__law_cell := c.def_ 4 (d := d__law_cell) rfl
  have g__law_box := He.glo_ok X G (c.fact 19 (f := .glo "_law_box") rfl)
  have D__law_box := c.def_ 5 (d := d__law_box) rfl
  have g__law_take := He.glo_ok X G (c.fact 20 (f := .glo "_law_take") rfl)
  have D__law_take := c.def_ 6 (d := d__law_take) rfl
  have g__law_signs := He.glo_ok X G (c.fact 21 (f := .glo "_law_signs") rfl)
  have D__law_signs := c.def_ 7 (d := d__law_signs) rfl
  have g__law_spoilt := He.glo_ok X G (c.fact 22 (f := .glo "_law_spoilt") rfl)
  have D__law_spoilt := c.def_ 8 (d := d__law_spoilt) rfl
  have g__law_figures := He.glo_ok X G (c.fact 23 (f := .glo "_law_figures") rfl)
  have D__law_figures := c.def_ 9 (d := d__law_figures) rfl
  have g__law_odd := He.glo_ok X G (c.fact 24 (f := .glo "_law_odd") rfl)
  have D__law_odd := c.def_ 10 (d := d__law_odd) rfl
  have g__law_things := He.glo_ok X G (c.fact 25 (f := .glo "_law_things") rfl)
  have D__law_things := c.def_ 11 (d := d__law_things) rfl
  have g__law_all_in := He.glo_ok X G (c.fact 26 (f := .glo "_law_all_in") rfl)
  have D__law_all_in := c.def_ 12 (d := d__law_all_in) rfl
  have g__law_due := He.glo_ok X G (c.fact 27 (f := .glo "_law_due") rfl)
  have D__law_due := c.def_ 13 (d := d__law_due) rfl
  have g__law_right := He.glo_ok X G (c.fact 28 (f := .glo "_law_right") rfl)
  have D__law_right := c.def_ 14 (d := d__law_right) rfl
  have g_law := He.glo_ok X G (c.fact 29 (f := .glo "law") rfl)
  have D_law := c.def_ 15 (d := d_law) rfl
  have e := hfa.symm.trans g_law
  cases e
  obtain ⟨fd, F⟩ := id D_law
  have b := FunD.bindsA (ps := ["_law_script"]) F fun _ _ _ _ _ _ us hl => match us, hl with | [_], _ => rfl
  refine ⟨fd, fun s v => b s [v] rfl, fun base _ _ => ?_⟩
  have F_is_whole : FOk P w K mg base CX0 1 "is_whole" ["thing"] (spB wholeV) := ok_is_whole (lv := 0) T D_is_whole g_is_whole
  have F_is_name : FOk P w K mg base CX0 1 "is_name" ["thing"] (spB nameV) := ok_is_name (lv := 0) T D_is_name g_is_name
  have F_is_number : FOk P w K mg base CX0 2 "is_number" ["thing"] (spB numberV) := ok_is_number (lv := 1) T D_is_number g_is_number (F_is_whole.mono (by decide))
  have F_is_text : FOk P w K mg base CX0 1 "is_text" ["thing"] (spB textV) := ok_is_text (lv := 0) T D_is_text g_is_text
  have F__law_cell : FOk P w K mg base CX0 1 "_law_cell" ["_law_script", "_law_k"] (sp_cell K) := ok__law_cell (lv := 0) T D__law_cell g__law_cell
  have F__law_box : FOk P w K mg base CX0 1 "_law_box" ["_law_cell_here"] sp_box := ok__law_box (lv := 0) T D__law_box g__law_box
  have F__law_take : FOk P w K mg base CX0 1 "_law_take" ["_law_box_here", "_law_many"] sp_take := ok__law_take (lv := 0) T D__law_take g__law_take
  have F__law_signs : FOk P w K mg base CX0 1 "_law_signs" [] sp_signs := ok__law_signs (lv := 0) T D__law_signs g__law_signs
  have F__law_spoilt : FOk P w K mg base CX0 2 "_law_spoilt" ["_law_box_here", "_law_text"] sp_spoilt := ok__law_spoilt (lv := 1) T D__law_spoilt g__law_spoilt (F__law_take.mono (by decide)) (F__law_signs.mono (by decide))
  have F__law_figures : FOk P w K mg base CX0 2 "_law_figures" ["_law_box_here"] sp_figures := ok__law_figures (lv := 1) T D__law_figures g__law_figures (F__law_take.mono (by decide))
  have F__law_odd : FOk P w K mg base CX0 2 "_law_odd" ["_law_box_here", "_law_name"] sp_odd := ok__law_odd (lv := 1) T D__law_odd g__law_odd (F__law_take.mono (by decide))
  have F__law_things : FOk P w K mg base CX0 3 "_law_things" ["_law_box_here"] sp_things := ok__law_things (lv := 2) T D__law_things g__law_things (F__law_signs.mono (by decide)) (F__law_take.mono (by decide)) (F__law_figures.mono (by decide)) (F__law_spoilt.mono (by decide)) (F__law_odd.mono (by decide))
  have F__law_all_in : FOk P w K mg base CX0 1 "_law_all_in" ["_law_thing", "_law_signs_here"] sp_all_in := ok__law_all_in (lv := 0) T D__law_all_in g__law_all_in
  have F__law_due : FOk P w K mg base CX0 2 "_law_due" ["_law_thing"] sp_due := ok__law_due (lv := 1) T D__law_due g__law_due (F__law_all_in.mono (by decide)) (F__law_signs.mono (by decide))
  have F__law_right : FOk P w K mg base CX0 3 "_law_right" ["_law_thing"] sp_right := ok__law_right (lv := 2) T D__law_right g__law_right (F_is_text.mono (by decide)) (F_is_number.mono (by decide)) (F_is_name.mono (by decide)) (F_is_whole.mono (by decide)) (F__law_due.mono (by decide))
  exact okLaw (lv := 3) T F (F__law_things.mono (by decide)) (F__law_box.mono (by decide)) (F__law_cell.mono (by decide)) (F__law_right.mono (by decide))
end Hk
open PySem PySem.W PySem.Calls PyProof.Rows
set_option maxRecDepth 100000 in
set_option maxHeartbeats 0 in
theorem PySem.Challenge.cw_heapkinds_k01_words_of_anything_holds : PySem.Challenge.rw_heapkinds_k01_words_of_anything.Holds := by
  w_on; o_law
  refine HandSHeadRun.head_any (r := OpenLaw.row PySem.Challenge.rw_heapkinds_k01_words_of_anything) (q := view (OpenLaw.row PySem.Challenge.rw_heapkinds_k01_words_of_anything).prog [22]) (H := Hk.hk) (ob := Hk.ob) (M := 4000) (loose := Hk.loose) (d := HandSHeadRun.topDef (OpenLaw.row PySem.Challenge.rw_heapkinds_k01_words_of_anything).prog 22) (kwd := []) Hk.ob_eq
    (by kernel_rfl) (fun s => by kernel_rfl) Hk.run (by kernel_rfl) (by kernel_rfl) (by kernel_rfl) (by rfl) (by first | assumption | decide +kernel) (by decide +kernel) ⟨rfl, rfl, rfl, rfl, rfl, by decide +kernel⟩ ?hw ?hc
  case hw => w_witness2
  case hc =>
    refine L2.walk_ofE (l := PySem.Challenge.rw_heapkinds_k01_words_of_anything) (n := 63) (k := 4) (x := "_law_script") (CX := L2.CX0) rfl (by decide) (by kernel_rfl) ⟨rfl, by decide, by decide⟩ ?F (fun _ _ _ _ z => z)
    intro w mg fa h Y G hmg0
    obtain ⟨K, KX, c⟩ := Y
    have hmg : mg ("law" : PySem.Str) = some (.ref fa) := by
      have e : (HandSHeadRun.topDef (OpenLaw.row PySem.Challenge.rw_heapkinds_k01_words_of_anything).prog 22).name = ("law" : PySem.Str) := by kernel_rfl
      rw [← e]
      exact hmg0
    obtain ⟨fd, hb, hF⟩ := Hk.facts (P := (PySem.Challenge.rw_heapkinds_k01_words_of_anything).prog) (w := w) KX G hmg c
    exact ⟨K, fd, Hk.spLaw K, KX, hb, fun H a ns hl _ hS => ⟨a, ns, rfl, hS, hl, fun _ => rfl⟩, hF⟩

