import PyProof.Rows.All
import Wide.All
import OpenK.AllK
import Wide.FinOn
import KE.KStateDown
import Lean
import HandS.ForMost
import HandS.Exc
import HandS.More
import HandS.WordsExc
import HandS.Defaults
import HandS.IsInst
import HandS.Wide
import HandS.TupAny
import HandS.Deep
import HandS.Walk
import HandS.StrMore
import HandS.Head0
import HandS.Head1
import HandS.Head2
import HandS.HeadEnd
import HandS.HeadHook1
import HandS.HeadHook2
import KE.KDictList
import KE.KEqNest
import HandS.ListItems
import HandS.Small
import KE.DataEq
import KE.KItemsList
import PyProof.Rows.StrMeet
import HandS.Style
import PySem.Challenge.RW_heapkinds_k04_worths_in_a_worth
set_option Elab.async false
set_option linter.all false
set_option maxRecDepth 100000
set_option maxHeartbeats 4000000
namespace Hk
open PySem PySem.Spec PyProof.Rows L2 He
/-! ### a def packed: where it stands, how it binds, what it promises -/
def FOk (P : Program) (w : World) (K : PySem.W.Frag) (mg : Str → Option Value) (base : Heap) (CX : CXT) (k : Nat) (x : Str) (ps : List Str) (sp : Sp) : Prop :=
  mg x = some (.ref (ga K x)) ∧ PySem.W.keepIn K (.ref (ga K x)) = true ∧ ∃ fd, Binds K fd ps [] ∧ FnOk P w K mg base CX k (ga K x) fd ps sp
section
variable {P : Program} {w : World} {K : PySem.W.Frag} {mg : Str → Option Value} {base : Heap}
theorem FOk.mono {CX : CXT} {j k : Nat} {x : Str} {ps : List Str} {sp : Sp} (F : FOk P w K mg base CX j x ps sp) (h : j ≤ k) : FOk P w K mg base CX k x ps sp := by
  obtain ⟨a, b, fd, c, d⟩ := F
  exact ⟨a, b, fd, c, d.mono h⟩
theorem FOk.imp {CX : CXT} {k : Nat} {x : Str} {ps : List Str} {sp sp' : Sp} (F : FOk P w K mg base CX k x ps sp) (h : ∀ vs H Q E, sp' vs H Q E → sp vs H Q E) : FOk P w K mg base CX k x ps sp' := by
  obtain ⟨a, b, fd, c, d⟩ := F
  exact ⟨a, b, fd, c, d.imp h⟩
end
section
variable {X : Cx} {CX : CXT} {k : Nat} {x : Str} {ps : List Str} {sp : Sp} {E : XK} {e : Expr} {es : List Expr} {t : TA} {p pos : Pos}
theorem pe_callF (F : FOk X.prog X.w X.K X.mg X.base CX k x ps sp) (hr : Room k X.A) (hg : Gl X x) (hx : Passes CX X E) (ha : PA X (e :: es) t)
    (hdb : (x == ("__debug__" : Str)) = false := by decide) (he : starEach (e :: es) X.env = (false, eval e X.env) :: starEach es X.env := by rfl) (hpl : (backTo pos (starEach es X.env)).any (·.1) = false := by rfl) :
    PE X (.Call (.Name x p) (e :: es) [] pos) (tCall sp [] E t) := by
  obtain ⟨a, b, fd, c, d⟩ := F
  exact pe_call d hr hg a b c .nil hx ha hdb he hpl
theorem pe_callF0 (F : FOk X.prog X.w X.K X.mg X.base CX k x ps sp) (hr : Room k X.A) (hg : Gl X x) (hx : Passes CX X E)
    (hdb : (x == ("__debug__" : Str)) = false := by decide) : PE X (.Call (.Name x p) [] [] pos) (tCall sp [] E tNil) := by
  obtain ⟨a, b, fd, c, d⟩ := F
  exact pe_call0 d hr hg a b c .nil hx hdb
end
/-! ### union rules -/
section
variable {X : Cx}
def rSub : R2 := rI0 fun i j => .int (i - j)
def rDiv : R2 := rI CDivW fun i j => .int (i / j)
def rMod : R2 := rI (fun _ j => 0 < j) fun i j => .int (i % j)
def rPow : R2 := rI CPow fun i j => .int (i ^ j.toNat)
def rAddI : R2 := rI0 fun i j => .int (i + j)
def rAddT : R2 := fun x y H Q => ∃ i j, x = .str i ∧ y = .str j ∧ i.length + j.length ≤ sizeLine ∧ Q (.str (i ++ j)) H
def rAdd (K : PySem.W.Frag) : R2 := fun x y H Q => rAddI x y H Q ∨ rAddT x y H Q ∨ rCat x y H Q ∨ rCatA K x y H Q
theorem oAdd : OpR X (binaryOp .Add) (rAdd X.K) := OpR.or op_add (OpR.or op_add_str (OpR.or op_cat op_catA))
def rMulI : R2 := rI CMulW fun i j => .int (i * j)
def rMul (K : PySem.W.Frag) : R2 := fun x y H Q => rMulI x y H Q ∨ rRep x y H Q
theorem oMul : OpR X (binaryOp .Mult) (rMul X.K) := OpR.or op_mulW op_rep
def rNeg : V → Hp → VK → Prop := rU fun i => .int (-i)
def rLeI : R2 := rI0 fun i j => .bl (decide (i ≤ j))
def rGtI : R2 := rI0 fun i j => .bl (decide (j < i))
def rGeI : R2 := rI0 fun i j => .bl (decide (j ≤ i))
def rLtI : R2 := rI0 fun i j => .bl (decide (i < j))
def rLtS : R2 := fun x y H Q => ∃ i j, x = .str i ∧ y = .str j ∧ Q (.bl (decide (i.cps.toList < j.cps.toList))) H
def rLtU : R2 := fun x y H Q => rLtI x y H Q ∨ rLtS x y H Q
theorem oLt : OpR X (compareOp .Lt) rLtU := OpR.or op_lt op_lt_str
def rEqU (K : PySem.W.Frag) : R2 := fun x y H Q => rEq x y H Q ∨ rEqD K x y H Q
theorem oEq (hu : X.A.units + 64 < cLine) : OpR X (compareOp .Eq) (rEqU X.K) := OpR.or op_eq (op_eqD hu)
def rNeU (K : PySem.W.Frag) : R2 := fun x y H Q => rNe x y H Q ∨ rNeD K x y H Q
theorem oNe (hu : X.A.units + 64 < cLine) : OpR X (compareOp .NotEq) (rNeU X.K) := OpR.or op_ne (op_neD hu)
def rInT : R2 := fun x y H Q => ∃ (c : Nat) (z : Str), x = .str ⟨#[c]⟩ ∧ y = .str z ∧ Q (.bl (decide (c ∈ z.cps.toList))) H
def rNotInT : R2 := fun x y H Q => ∃ (c : Nat) (z : Str), x = .str ⟨#[c]⟩ ∧ y = .str z ∧ Q (.bl (!decide (c ∈ z.cps.toList))) H
def rInU (K : PySem.W.Frag) : R2 := fun x y H Q => rInT x y H Q ∨ rIn K false x y H Q
theorem oIn (hu : X.A.units + 64 < cLine) : OpR X (compareOp .In) (rInU X.K) := OpR.or op_in_sign op_in_seq
def rNotInU (K : PySem.W.Frag) : R2 := fun x y H Q => rNotInT x y H Q ∨ rIn K true x y H Q
theorem oNotIn (hu : X.A.units + 64 < cLine) : OpR X (compareOp .NotIn) (rNotInU X.K) := OpR.or op_notIn_sign op_notIn_seq
def rIxU (K : PySem.W.Frag) : R2 := fun x y H Q => rIxL K x y H Q ∨ rIxT K x y H Q ∨ rIxS x y H Q
theorem ixAny (hu : X.A.units + 64 < cLine) : IxR X (rIxU X.K) := ix_seq
def rSlU (K : PySem.W.Frag) : V → Option Int → Option Int → Hp → VK → Prop := fun x lo hi H Q => rSlS x lo hi H Q ∨ rSlL K x lo hi H Q ∨ rSlA K x lo hi H Q
theorem slAny : SlR X (rSlU X.K) := SlR.or sl_str (SlR.or sl_list sl_tupA)
def rLenU (K : PySem.W.Frag) : List V → Hp → VK → Prop := fun xs H Q => (∃ x n, xs = [x] ∧ LenV K x H n ∧ Q (.int n) H) ∨ ∃ a kvs, xs = [V.ref a] ∧ H a = some (.dK kvs) ∧ Q (.int kvs.length) H
theorem call_lenU : CallR X (.builtin "len") (rLenU X.K) := CallR.or call_len call_lenD
def rStrU : List V → Hp → VK → Prop := fun xs H Q => ∃ i, xs = [.int i] ∧ i.natAbs.log2 < 1920 ∧ Q (.str (toString i)) H
theorem call_strU : CallR X (.type "str") rStrU := call_str_int
def rMax2 : List V → Hp → VK → Prop := fun xs H Q => ∃ i j, xs = [.int i, .int j] ∧ Q (.int (if j > i then j else i)) H
def rMin2 : List V → Hp → VK → Prop := fun xs H Q => ∃ i j, xs = [.int i, .int j] ∧ Q (.int (if j < i then j else i)) H
def rJoin (K : PySem.W.Frag) : V → List V → Hp → VK → Prop := fun x xs H Q => ∃ a p, ∃ ys : List Str, x = .str a ∧ xs = [.ref p] ∧ (SqL K H p (ys.map V.str) ∨ SqT K H p (ys.map V.str)) ∧ (ys.map (·.length)).sum + ys.length * a.length ≤ 16777216 ∧ Q (.str (Txt.join a ys)) H
def rUpper : V → List V → Hp → VK → Prop := fun x xs H Q => ∃ a, x = .str a ∧ xs = [] ∧ a.length ≤ 5592405 ∧ Q (.str (Txt.upper a)) H
def tTru (K : PySem.W.Frag) (ta : TE) : TT := fun σ H Q => ta σ H fun x H' => ∃ k, TruV K x H' k ∧ Q k H'
end
end Hk

namespace Hk
open PySem PySem.Spec PyProof.Rows L2 He
/-- all but what stands at b is as it was -/
def Keep (b : Addr) (H H' : Hp) : Prop := ∀ a o, a ≠ b → H a = some o → H' a = some o
/-! ### walker lemmas: one step of a reading -/
section
variable {K : PySem.W.Frag} {σ : L2.St} {H H' : Hp} {D : Ends} {Q : VK} {ta tb tc te : TE} {t u : TS} {x y v : V}
theorem w_seq (h : t { D with nx := u D } σ H) : tSeq t u D σ H := h
theorem w_asg {g : TG} (h : te σ H fun x H1 => g x σ H1 D.nx) : tAsg te g D σ H := h
theorem w_name {i : Nat} {R : L2.St → Hp → Prop} (h : R (σ.set i (some v)) H) : gName i v σ H R := h
theorem w_ret (h : te σ H D.rt) : tRet te D σ H := h
theorem w_drop (h : te σ H fun _ H1 => D.nx σ H1) : tDrop te D σ H := h
theorem w_next (h : D.nx σ H) : tNext D σ H := h
theorem w_if {c : TT} (h : c σ H fun b H1 => if b = true then t D σ H1 else u D σ H1) : tIfS c t u D σ H := h
theorem w_var {i : Nat} (e : σ[i]? = some (some v)) (h : Q v H) : tVar i σ H Q := ⟨v, e, h⟩
theorem w_c (h : Q v H) : tC v σ H Q := h
theorem w_op {r : R2} (h : ta σ H fun x H1 => tb σ H1 fun y H2 => r x y H2 Q) : tOp r ta tb σ H Q := h
theorem w_un {r : V → Hp → VK → Prop} (h : ta σ H fun x H1 => r x H1 Q) : tUn r ta σ H Q := h
theorem w_cb {r : List V → Hp → VK → Prop} {a : TA} (h : a σ H fun vs H1 => r vs H1 Q) : tCB r a σ H Q := h
theorem w_call {sp : Sp} {dvs : List V} {E : XK} {a : TA} (h : a σ H fun vs H1 => sp (vs ++ dvs) H1 Q E) : tCall sp dvs E a σ H Q := h
theorem w_nil {R : List V → Hp → Prop} (h : R [] H) : tNil σ H R := h
theorem w_cons {a : TA} {R : List V → Hp → Prop} (h : ta σ H fun x H1 => a σ H1 fun xs H2 => R (x :: xs) H2) : tCons ta a σ H R := h
def NewO (n : Nat) (o : HO) (H : Hp) (Q : VK) : Prop := n ≤ sizeLine ∧ ∀ p, H p = none → Q (.ref p) (upd H p o)
theorem w_lst {a : TA} (h : a σ H fun xs H1 => NewO xs.length (.lst xs) H1 Q) : tLst a σ H Q := h
theorem w_tup {a : TA} (h : a σ H fun xs H1 => NewO xs.length (.tup xs) H1 Q) : tTup a σ H Q := h
theorem w_test {R : Bool → Hp → Prop} (h : te σ H fun x H' => ∃ k, x = .bl k ∧ R k H') : tTest te σ H R := h
theorem w_tB {R : Bool → Hp → Prop} (h : te σ H fun x H' => ∃ k, x = .bl k ∧ R k H') : tB te σ H R := h
theorem w_bl {b : Bool} {R : Bool → Prop} (h : R b) : ∃ k, V.bl b = .bl k ∧ R k := ⟨b, rfl, h⟩
theorem w_and {c d : TT} {R : Bool → Hp → Prop} (h : c σ H fun b H1 => if b = true then d σ H1 R else R false H1) : tAnd c d σ H R := h
theorem w_or {c d : TT} {R : Bool → Hp → Prop} (h : c σ H fun b H1 => if b = true then R true H1 else d σ H1 R) : tOr c d σ H R := h
theorem w_not {c : TT} {R : Bool → Hp → Prop} (h : c σ H fun b H1 => R (!b) H1) : tNot c σ H R := h
theorem w_andV (h : ta σ H fun x H1 => ∃ c, x = .bl c ∧ if c = true then tb σ H1 Q else Q (.bl false) H1) : tAndV ta tb σ H Q := h
theorem w_orV (h : ta σ H fun x H1 => ∃ c, x = .bl c ∧ if c = true then Q (.bl true) H1 else tb σ H1 Q) : tOrV ta tb σ H Q := h
theorem w_notV (h : ta σ H fun x H1 => ∃ c, x = .bl c ∧ Q (.bl (!c)) H1) : tNotV ta σ H Q := h
theorem w_chain {r r' : R2} (h : ta σ H fun x H1 => tb σ H1 fun y H2 => r x y H2 fun z H3 => ∃ k, z = .bl k ∧ (if k = true then tc σ H3 fun w' H4 => r' y w' H4 Q else Q (.bl false) H3)) : tChain r r' ta tb tc σ H Q := h
theorem w_ifE {c : TT} (h : c σ H fun b H1 => if b = true then ta σ H1 Q else tb σ H1 Q) : tIf c ta tb σ H Q := h
theorem w_sl {r : V → Option Int → Option Int → Hp → VK → Prop} {tl th : TO} (h : te σ H fun x H1 => tl σ H1 fun l H2 => th σ H2 fun u H3 => r x l u H3 Q) : tSl r te tl th σ H Q := h
theorem w_noPart {R : Option Int → Hp → Prop} (h : R none H) : tNoPart σ H R := h
theorem w_part {R : Option Int → Hp → Prop} (h : te σ H fun x H1 => ∃ i, x = .int i ∧ R (some i) H1) : tPart te σ H R := h
theorem w_int {i : Int} {R : Int → Prop} (h : R i) : ∃ k, V.int i = .int k ∧ R k := ⟨i, rfl, h⟩
theorem w_sub {to ti : TE} {r : TSet} {R : L2.St → Hp → Prop} (h : to σ H fun o H1 => ti σ H1 fun i H2 => r o i v H2 fun H3 => R σ H3) : gSub to ti r v σ H R := h
theorem w_bm {T : String} {r : V → List V → Hp → VK → Prop} {a : TA} (h : te σ H fun x H1 => tyV K T x H1 ∧ a σ H1 fun xs H2 => r x xs H2 Q) : tBM K T r te a σ H Q := h
theorem w_tM0 {r : V → List V → Hp → VK → Prop} (h : te σ H fun x H1 => (∃ a, x = .str a) ∧ r x [] H1 Q) : tM0 r te σ H Q := h
theorem w_tM1 {r : V → List V → Hp → VK → Prop} (h : ta σ H fun x H1 => (∃ a, x = .str a) ∧ te σ H1 fun y H2 => r x [y] H2 Q) : tM1 r ta te σ H Q := h
theorem w_strA {s : Str} {A : Prop} (h : A) : (∃ a, V.str s = .str a) ∧ A := ⟨⟨s, rfl⟩, h⟩
theorem iteTrue {b : Bool} {A B : Prop} (hb : b = true) (h : A) : if b = true then A else B := by subst hb; rw [if_pos rfl]; exact h
theorem iteFalse {b : Bool} {A B : Prop} (hb : b = false) (h : B) : if b = true then A else B := by subst hb; rw [if_neg Bool.false_ne_true]; exact h
/-- both ways of a test -/
theorem iteB {b : Bool} {A B : Prop} (h1 : b = true → A) (h2 : b = false → B) : if b = true then A else B := by
  cases b with
  | true => rw [if_pos rfl]; exact h1 rfl
  | false => rw [if_neg Bool.false_ne_true]; exact h2 rfl
theorem q_bl {b b' : Bool} (e : b = b') (h : Q (.bl b) H) : Q (.bl b') H := by subst e; exact h
def DEnd (p : Addr) (ps : List (V × V)) (H2 : Hp) (Q : VK) : Prop := H2 p = some (.dK []) ∧ ∃ kvs : List (Key × V), ps = kvs.map (fun kv => (kV kv.1, kv.2)) ∧ kvs.length ≤ 15 ∧ Q (.ref p) (upd H2 p (.dK (mergeK [] kvs)))
theorem w_disp {trs : List (TE × TE)} (h : ∀ p H1, H p = none → Same H H1 → H1 p = some (.dK []) → tPairs trs σ H1 fun ps H2 => DEnd p ps H2 Q) : tDisp trs σ H Q := fun p hp => h p _ hp (fun a u e => by rw [upd_ne (ne_of_none e hp)]; exact e) upd_same
theorem w_pnil {R : List (V × V) → Hp → Prop} (h : R [] H) : tPairs [] σ H R := h
theorem w_pcons {r : List (TE × TE)} {R : List (V × V) → Hp → Prop} (h : ta σ H fun x H1 => tb σ H1 fun y H2 => tPairs r σ H2 fun ps H3 => R ((x, y) :: ps) H3) : tPairs ((ta, tb) :: r) σ H R := h
theorem w_dnew (h : ∀ p H1, H p = none → Same H H1 → H1 p = some (.dK []) → Q (.ref p) H1) : tDNewK σ H Q := fun p hp => h p _ hp (fun a u e => by rw [upd_ne (ne_of_none e hp)]; exact e) upd_same
/-- a display's end: what stood, stands; the dict is new -/
def toKey : V → Key
  | .int i => .inl i
  | .str x => .inr x
  | _ => .inl 0
theorem w_dend {p : Addr} {ps : List (V × V)} (hp : H p = some (.dK [])) (e : ps = (ps.map fun q => (toKey q.1, q.2)).map (fun kv => (kV kv.1, kv.2))) (hl : (ps.map fun q => (toKey q.1, q.2)).length ≤ 15)
    (h : ∀ H', Keep p H H' → H' p = some (.dK (mergeK [] (ps.map fun q => (toKey q.1, q.2)))) → Q (.ref p) H') : DEnd p ps H Q := ⟨hp, _, e, hl, h _ (fun a u n e => by rw [upd_ne n]; exact e) upd_same⟩
theorem w_new {n : Nat} {o : HO} (hz : n ≤ sizeLine) (h : ∀ p H', H p = none → Same H H' → H' p = some o → Q (.ref p) H') : NewO n o H Q := ⟨hz, fun p hp => h p _ hp (fun a u e => by rw [upd_ne (ne_of_none e hp)]; exact e) upd_same⟩
/-! values -/
theorem v_addI {i j : Int} (h : Q (.int (i + j)) H) : rAdd K (.int i) (.int j) H Q := Or.inl ⟨i, j, rfl, rfl, h⟩
theorem v_addT {i j : Str} (hz : i.length + j.length ≤ sizeLine) (h : Q (.str (i ++ j)) H) : rAdd K (.str i) (.str j) H Q := Or.inr (Or.inl ⟨i, j, rfl, rfl, hz, h⟩)
theorem v_cat {a b : Addr} {xs ys : List V} (ha : H a = some (.lst xs)) (hb : H b = some (.lst ys)) (hz : xs.length + ys.length ≤ sizeLine) (h : ∀ p H', H p = none → Same H H' → H' p = some (.lst (xs ++ ys)) → Q (.ref p) H') : rAdd K (.ref a) (.ref b) H Q :=
  Or.inr (Or.inr (Or.inl ⟨a, b, xs, ys, rfl, rfl, ha, hb, hz, fun p hp => h p _ hp (fun a u e => by rw [upd_ne (ne_of_none e hp)]; exact e) upd_same⟩))
theorem v_sub {i j : Int} (h : Q (.int (i - j)) H) : rSub (.int i) (.int j) H Q := ⟨i, j, rfl, rfl, h⟩
theorem v_mulI {i j : Int} (c : CMulW i j) (h : Q (.int (i * j)) H) : rMul K (.int i) (.int j) H Q := Or.inl ⟨i, j, rfl, rfl, c, h⟩
theorem v_div {i j : Int} (c : CDivW i j) (h : Q (.int (i / j)) H) : rDiv (.int i) (.int j) H Q := ⟨i, j, rfl, rfl, c, h⟩
theorem v_mod {i j : Int} (c : 0 < j) (h : Q (.int (i % j)) H) : rMod (.int i) (.int j) H Q := ⟨i, j, rfl, rfl, c, h⟩
theorem v_pow {i j : Int} (c : CPow i j) (h : Q (.int (i ^ j.toNat)) H) : rPow (.int i) (.int j) H Q := ⟨i, j, rfl, rfl, c, h⟩
theorem v_neg {i : Int} (h : Q (.int (-i)) H) : rNeg (.int i) H Q := ⟨i, rfl, h⟩
theorem v_le {i j : Int} (h : Q (.bl (decide (i ≤ j))) H) : rLeI (.int i) (.int j) H Q := ⟨i, j, rfl, rfl, h⟩
theorem v_gt {i j : Int} (h : Q (.bl (decide (j < i))) H) : rGtI (.int i) (.int j) H Q := ⟨i, j, rfl, rfl, h⟩
theorem v_ge {i j : Int} (h : Q (.bl (decide (j ≤ i))) H) : rGeI (.int i) (.int j) H Q := ⟨i, j, rfl, rfl, h⟩
theorem v_lt {i j : Int} (h : Q (.bl (decide (i < j))) H) : rLtU (.int i) (.int j) H Q := Or.inl ⟨i, j, rfl, rfl, h⟩
theorem v_eqI {i j : Int} (h : Q (.bl (decide (i = j))) H) : rEqU K (.int i) (.int j) H Q := Or.inl ⟨rfl, by
  have e : decide (V.int i = V.int j) = decide (i = j) := by simp
  rw [e]; exact h⟩
theorem v_inT {c : Nat} {z : Str} (h : Q (.bl (decide (c ∈ z.cps.toList))) H) : rInU K (.str ⟨#[c]⟩) (.str z) H Q := Or.inl ⟨c, z, rfl, rfl, h⟩
theorem v_notInT {c : Nat} {z : Str} (h : Q (.bl (!decide (c ∈ z.cps.toList))) H) : rNotInU K (.str ⟨#[c]⟩) (.str z) H Q := Or.inl ⟨c, z, rfl, rfl, h⟩
theorem v_ixL {p : Addr} {xs : List V} {i : Int} (hp : H p = some (.lst xs)) (ha : atI xs i = some v) (h : Q v H) : rIxU K (.ref p) (.int i) H Q := Or.inl ⟨p, xs, i, v, rfl, rfl, .inl (.inl hp), ha, h⟩
theorem v_ixQ {p : Addr} {xs : List V} {i : Int} (hp : SqL K H p xs) (ha : atI xs i = some v) (h : Q v H) : rIxU K (.ref p) (.int i) H Q := Or.inl ⟨p, xs, i, v, rfl, rfl, hp, ha, h⟩
theorem v_ixT {p : Addr} {xs : List V} {i : Int} (hp : H p = some (.tup xs)) (ha : atI xs i = some v) (h : Q v H) : rIxU K (.ref p) (.int i) H Q := Or.inr (Or.inl ⟨p, xs, i, v, rfl, rfl, .inl (.inl hp), ha, h⟩)
theorem v_ixS {z : Str} {i : Int} {c : Nat} (hz : z.length ≤ sizeLine) (ha : atI z.cps.toList i = some c) (h : Q (.str ⟨#[c]⟩) H) : rIxU K (.str z) (.int i) H Q := Or.inr (Or.inr ⟨z, i, c, rfl, rfl, hz, ha, h⟩)
theorem v_setL {p : Addr} {xs : List V} {k : Int} {j : Nat} {R : Hp → Prop} (hp : H p = some (.lst xs)) (hj : ixN xs.length k = some j) (h : ∀ H', Keep p H H' → H' p = some (.lst (xs.set j v)) → R H') : rSetL (.ref p) (.int k) v H R :=
  ⟨p, xs, k, j, rfl, rfl, hp, hj, h _ (fun a u n e => by rw [upd_ne n]; exact e) upd_same⟩
theorem v_upper {z : Str} (hz : z.length ≤ 5592405) (h : Q (.str (Txt.upper z)) H) : rUpper (.str z) [] H Q := ⟨z, rfl, rfl, hz, h⟩
theorem v_str {i : Int} (hz : i.natAbs.log2 < 1920) (h : Q (.str (toString i)) H) : rStrU [.int i] H Q := ⟨i, rfl, hz, h⟩
theorem v_slS {z : Str} {lo hi : Option Int} (hz : z.length ≤ sizeLine) (h : Q (.str (cutS z lo hi)) H) : rSlU K (.str z) lo hi H Q := Or.inl ⟨z, rfl, hz, h⟩
theorem v_lenS {z : Str} (hz : z.length ≤ sizeLine) (h : Q (.int z.length) H) : rLenU K [.str z] H Q := Or.inl ⟨.str z, z.length, rfl, ⟨hz, rfl⟩, h⟩
theorem v_lenL {p : Addr} {xs : List V} (hp : H p = some (.lst xs)) (h : Q (.int xs.length) H) : rLenU K [.ref p] H Q := Or.inl ⟨.ref p, xs.length, rfl, Or.inl ⟨xs, .inl (.inl hp), rfl⟩, h⟩
theorem v_lenQ {p : Addr} {xs : List V} (hp : SqL K H p xs) (h : Q (.int xs.length) H) : rLenU K [.ref p] H Q := Or.inl ⟨.ref p, xs.length, rfl, Or.inl ⟨xs, hp, rfl⟩, h⟩
theorem v_isi {T : String} {ty : Value} {b : Bool} (tx : TyX K H x ty) (k : PySem.W.kitOne K ty (.type T) = some b) (h : Q (.bl b) H) : rIsi K [x, .ty T] H Q := ⟨x, .ty T, ty, .type T, b, rfl, ClsV.ty T, tx, k, h⟩
theorem v_max2 {i j : Int} (h : Q (.int (if j > i then j else i)) H) : rMax2 [.int i, .int j] H Q := ⟨i, j, rfl, h⟩
theorem v_min2 {i j : Int} (h : Q (.int (if j < i then j else i)) H) : rMin2 [.int i, .int j] H Q := ⟨i, j, rfl, h⟩
theorem v_append {l : Addr} {xs : List V} (hp : H l = some (.lst xs)) (hz : xs.length < sizeLine) (h : ∀ H', Keep l H H' → H' l = some (.lst (xs ++ [y])) → Q .non H') : rAppend (.ref l) [y] H Q :=
  ⟨l, xs, y, rfl, rfl, hp, hz, h _ (fun a u n e => by rw [upd_ne n]; exact e) upd_same⟩
theorem v_tyL {p : Addr} {xs : List V} {A : Prop} (hp : H p = some (.lst xs)) (h : A) : tyV K "list" (.ref p) H ∧ A := ⟨Or.inl ⟨rfl, xs, .inl (.inl hp)⟩, h⟩
theorem v_tyS {z : Str} {A : Prop} (h : A) : tyV K "str" (.str z) H ∧ A := ⟨rfl, h⟩
end
section
variable {K : PySem.W.Frag} {H : Hp} {Q : VK}
theorem atI_in {α : Type} {xs : List α} {i : Int} (h0 : 0 ≤ i) (h1 : i < (xs.length : Int)) : ∃ v, atI xs i = some v ∧ xs[i.toNat]? = some v ∧ v ∈ xs := by
  have h2 : i.toNat < xs.length := by omega
  refine ⟨xs[i.toNat], ?_, by simp [h2], List.getElem_mem h2⟩
  have e : i = ((i.toNat : Nat) : Int) := by omega
  have z : atI xs ((i.toNat : Nat) : Int) = some xs[i.toNat] := atI_nat (by simp [h2])
  rw [← e] at z
  exact z
theorem lt_len {l : List V} {i : Int} (n : Nat) (e : l.length = n) (h : i < (n : Int)) : i < (l.length : Int) := by rw [e]; exact h
/-- an item at an open place -/
theorem v_ixLo {p : Addr} {xs : List V} {i : Int} (hp : H p = some (.lst xs)) (h0 : 0 ≤ i) (h1 : i < (xs.length : Int)) (h : ∀ v, v ∈ xs → xs[i.toNat]? = some v → Q v H) : rIxU K (.ref p) (.int i) H Q := by
  obtain ⟨v, e, e2, m⟩ := atI_in h0 h1
  exact v_ixL hp e (h v m e2)
theorem v_ixQo {p : Addr} {xs : List V} {i : Int} (hp : SqL K H p xs) (h0 : 0 ≤ i) (h1 : i < (xs.length : Int)) (h : ∀ v, v ∈ xs → xs[i.toNat]? = some v → Q v H) : rIxU K (.ref p) (.int i) H Q := by
  obtain ⟨v, e, e2, m⟩ := atI_in h0 h1
  exact v_ixQ hp e (h v m e2)
theorem v_ixTo {p : Addr} {xs : List V} {i : Int} (hp : H p = some (.tup xs)) (h0 : 0 ≤ i) (h1 : i < (xs.length : Int)) (h : ∀ v, v ∈ xs → xs[i.toNat]? = some v → Q v H) : rIxU K (.ref p) (.int i) H Q := by
  obtain ⟨v, e, e2, m⟩ := atI_in h0 h1
  exact v_ixT hp e (h v m e2)
theorem v_ixSo {z : Str} {i : Int} (hz : z.length ≤ sizeLine) (h0 : 0 ≤ i) (h1 : i < (z.length : Int)) (h : ∀ c, c ∈ z.cps.toList → z.cps.toList[i.toNat]? = some c → Q (.str ⟨#[c]⟩) H) : rIxU K (.str z) (.int i) H Q := by
  obtain ⟨v, e, e2, m⟩ := atI_in (xs := z.cps.toList) h0 (by rw [Array.length_toList]; exact h1)
  exact v_ixS hz e (h v m e2)
theorem cutS_le (z : Str) (lo hi : Option Int) : (cutS z lo hi).length ≤ z.length := by
  show (List.toArray _).size ≤ _
  rw [List.size_toArray, List.length_take, List.length_drop, Array.length_toList]
  show _ ≤ z.cps.size
  omega
theorem str_app (x y : Str) : (x ++ y).length = x.length + y.length := by
  show (x.cps ++ y.cps).size = _
  rw [Array.size_append]; rfl
theorem len_app {x y : Str} {N : Nat} (hx : x.length ≤ N / 2) (hy : y.length ≤ N / 2) : (x ++ y).length ≤ N := by rw [str_app]; omega
theorem len_cut {z : Str} {lo hi : Option Int} {N : Nat} (h : z.length ≤ N) : (cutS z lo hi).length ≤ N := Nat.le_trans (cutS_le z lo hi) h
theorem len_one {c N : Nat} (h : 1 ≤ N) : (⟨#[c]⟩ : Str).length ≤ N := h
theorem len_line {x y : Str} (hx : x.length ≤ 4000000) (hy : y.length ≤ 4000000) : x.length + y.length ≤ sizeLine := Nat.le_trans (Nat.add_le_add hx hy) (by decide)
theorem len_line1 {x : Str} (hx : x.length ≤ 4000000) : x.length ≤ sizeLine := Nat.le_trans hx (by decide)
theorem one_len (c : Nat) : (⟨#[c]⟩ : Str).length = 1 := rfl
end
/-! ### sides of arithmetic -/
theorem s_mul {i j : Int} (h1 : -18446744073709551616 < i ∧ i < 18446744073709551616) (h2 : -18446744073709551616 < j ∧ j < 18446744073709551616) : CMulW i j :=
  wide_mul (a := 64) (b := 64) (by omega) (by omega) (by decide) (by decide) (by decide)
theorem s_div {i j : Int} (h1 : 0 < j) (h2 : j < 18446744073709551616) : CDivW i j := wide_div h1 (b := 64) (by omega) (by decide) (by decide)
theorem s_pow {i j : Int} (h1 : 0 ≤ j) (h2 : j ≤ 1000000) (h3 : -18446744073709551616 < i ∧ i < 18446744073709551616) : CPow i j := ⟨h1, h2, by omega⟩
/-! ### heaps -/
theorem get_new {H : Hp} {p q : Addr} {o u : HO} (hp : H p = none) (hq : H q = some u) : upd H p o q = some u := by
  rw [upd_ne (ne_of_none hq hp)]; exact hq
theorem get_ne {H : Hp} {p q : Addr} {o u : HO} (hn : q ≠ p) (hq : H q = some u) : upd H p o q = some u := by
  rw [upd_ne hn]; exact hq
theorem get_same {H H' : Hp} {q : Addr} {u : HO} (s : Same H H') (hq : H q = some u) : H' q = some u := s q u hq
theorem get_keep {H H' : Hp} {b q : Addr} {u : HO} (s : Keep b H H') (hn : q ≠ b) (hq : H q = some u) : H' q = some u := s q u hn hq
theorem same_upd {H : Hp} {p : Addr} {o : HO} (hp : H p = none) : Same H (upd H p o) := fun a u e => get_new hp e
theorem Same.new {H H' : Hp} {p : Addr} {o : HO} (s : Same H H') (hp : H' p = none) : Same H (upd H' p o) := s.trans (same_upd hp)
theorem Same.mut {H H' : Hp} {p : Addr} {o : HO} (s : Same H H') (hp : H p = none) : Same H (upd H' p o) := fun a u e => by
  rw [upd_ne (ne_of_none e hp)]; exact s a u e
theorem Keep.refl (b : Addr) (H : Hp) : Keep b H H := fun _ _ _ e => e
theorem Keep.trans {b : Addr} {H H1 H2 : Hp} (x : Keep b H H1) (y : Keep b H1 H2) : Keep b H H2 := fun a o n e => y a o n (x a o n e)
theorem Keep.new {b : Addr} {H H' : Hp} {p : Addr} {o : HO} (s : Keep b H H') (hp : H' p = none) : Keep b H (upd H' p o) := fun a u n e => get_new hp (s a u n e)
theorem Keep.mut {b : Addr} {H H' : Hp} {o : HO} (s : Keep b H H') : Keep b H (upd H' b o) := fun a u n e => get_ne n (s a u n e)
theorem Keep.mut' {b p : Addr} {H H' : Hp} {o : HO} (s : Keep b H H') (hp : H p = none) : Keep b H (upd H' p o) := fun a u n e => by
  rw [upd_ne (ne_of_none e hp)]; exact s a u n e
theorem Keep.after {b : Addr} {H H1 H2 : Hp} (y : Keep b H1 H2) (x : Keep b H H1) : Keep b H H2 := x.trans y
theorem same_after {H H1 H2 : Hp} (y : Same H1 H2) (x : Same H H1) : Same H H2 := x.trans y
theorem Keep.of {b : Addr} {H H' : Hp} (s : Same H H') : Keep b H H' := fun a o _ e => s a o e
theorem Keep.same {b : Addr} {H H' : Hp} (s : Keep b H H') (hb : H b = none) : Same H H' := fun a o e => s a o (ne_of_none e hb) e
theorem Keep.free {b : Addr} {H H' : Hp} (s : Keep b H H') {p : Addr} (hp : H' p = none) (hb : H' b ≠ none) : H p = none := by
  cases e : H p with
  | none => rfl
  | some o =>
    by_cases h : p = b
    · subst h; exact absurd hp hb
    · rw [s p o h e] at hp; cases hp
theorem keep_afterS {b : Addr} {H H1 H2 : Hp} (y : Same H1 H2) (x : Keep b H H1) : Keep b H H2 := fun a o n e => y a o (x a o n e)
/-- a new object was changed -/
theorem keep_afterN {b p : Addr} {H H1 H2 : Hp} (y : Keep p H1 H2) (hp : H p = none) (x : Keep b H H1) : Keep b H H2 := fun a o n e => y a o (ne_of_none e hp) (x a o n e)
theorem same_afterN {p : Addr} {H H1 H2 : Hp} (y : Keep p H1 H2) (hp : H p = none) (x : Same H H1) : Same H H2 := fun a o e => y a o (ne_of_none e hp) (x a o e)
theorem free_same {H H1 : Hp} {p : Addr} (hp : H1 p = none) (x : Same H H1) : H p = none := Same.free x hp
theorem free_keep {H H1 : Hp} {p b : Addr} {o : HO} (hp : H1 p = none) (hb : H1 b = some o) (x : Keep b H H1) : H p = none := x.free hp (by rw [hb]; exact fun z => by cases z)
theorem ne_new {H1 : Hp} {p q : Addr} {o : HO} (hp : H1 p = none) (hq : H1 q = some o) : q ≠ p := ne_of_none hq hp
end Hk

namespace Hk
open PySem PySem.Spec PyProof.Rows L2 He
/-! ### what is walked, as a list of values -/
def strItems (z : Str) : List V := z.cps.toList.map fun c => .str ⟨#[c]⟩
def rngItems (lo : Int) (n : Nat) : List V := (List.range n).map fun (i : Nat) => .int (lo + (i : Int))
theorem strItems_len (z : Str) : (strItems z).length = z.cps.size := by unfold strItems; simp
theorem rngItems_len (lo : Int) (n : Nat) : (rngItems lo n).length = n := by unfold rngItems; simp
theorem mem_rng {lo : Int} {n : Nat} {x : V} (h : x ∈ rngItems lo n) : ∃ i : Nat, i < n ∧ x = .int (lo + (i : Int)) := by
  unfold rngItems at h
  obtain ⟨i, hi, rfl⟩ := List.mem_map.mp h
  exact ⟨i, List.mem_range.mp hi, rfl⟩
theorem mem_str {z : Str} {x : V} (h : x ∈ strItems z) : ∃ c : Nat, c ∈ z.cps.toList ∧ x = .str ⟨#[c]⟩ := by
  unfold strItems at h
  obtain ⟨i, hi, rfl⟩ := List.mem_map.mp h
  exact ⟨i, hi, rfl⟩
theorem walk_strAt {z : Str} : Walk (Its z) (strItems z).length (fun _ => True) (YAt (strItems z)) := by
  have e := strItems_len z
  refine ⟨fun i H hi _ => ?_, fun H _ => ?_, fun i H x H' hi _ y => ?_⟩
  · show i < z.cps.size; omega
  · show z.cps.size ≤ _; omega
  · obtain ⟨rfl, c, hc, rfl⟩ := y
    refine ⟨rfl, ?_⟩
    unfold strItems
    rw [List.getElem?_map, Array.getElem?_toList, hc]; rfl
theorem walk_rngAt {lo : Int} {n : Nat} : Walk (Itr lo n) (rngItems lo n).length (fun _ => True) (YAt (rngItems lo n)) := by
  have e := rngItems_len lo n
  refine ⟨fun i H hi _ => ?_, fun H _ => ?_, fun i H x H' hi _ y => ?_⟩
  · show i < n; omega
  · show n ≤ _; omega
  · obtain ⟨rfl, rfl⟩ := y
    refine ⟨rfl, ?_⟩
    have hi' : i < n := by omega
    unfold rngItems
    rw [List.getElem?_map, List.getElem?_range hi']; rfl
/-! ### comprehensions -/
section
variable {K : PySem.W.Frag} {σ : L2.St} {H : Hp} {Q : VK} {J : It} {src : List V} {G : Hp → Prop} {tt : TT} {te : TE} {vs : List Nat} {g : TG} {j : Nat}
def LcD (J : It) (g : TG) (tt : TT) (te : TE) (vs : List Nat) (σ : L2.St) (H1 : Hp) (Q : VK) : Prop := ∀ D, H1 D = none → ∃ W : Nat → Nat → Hp → Prop, (∃ m, W 0 m (upd H1 D (.lst []))) ∧ ∀ i m H, W i m H →
  (J.stop i H ∧ Q (.ref D) H) ∨ (J.go i H ∧ ∃ Nx : Hp → Prop, (∀ H', Nx H' → ∃ m', m' < m ∧ W (i + 1) m' H') ∧ ∀ x H', J.yld i H x H' → g x (wipe σ vs) H' fun σ2 H2 => wipe σ2 vs = wipe σ vs ∧ tt σ2 H2 fun b H3 =>
    if b = true then te σ2 H3 fun y H4 => ∃ acc, H4 D = some (.lst acc) ∧ acc.length < sizeLine ∧ Nx (upd H4 D (.lst (acc ++ [y]))) else Nx H3)
theorem w_lc {wi : TI} (h : wi σ H fun J H1 => LcD J g tt te vs σ H1 Q) : tLc wi g tt te vs σ H Q := h
theorem w_iStr {te : TE} {R : It → Hp → Prop} (h : te σ H fun v H1 => ∃ x, v = .str x ∧ R (Its x) H1) : iStr te σ H R := h
theorem w_str {z : Str} {R : Str → Prop} (h : R z) : ∃ x, V.str z = .str x ∧ R x := ⟨z, rfl, h⟩
theorem w_iList {te : TE} {R : It → Hp → Prop} (h : te σ H fun x H1 => ∃ a, x = .ref a ∧ (∃ xs, SqL K H1 a xs) ∧ R (Itl K a) H1) : iList K te σ H R := h
theorem w_refL {p : Addr} {xs : List V} {R : Addr → Prop} (hp : H p = some (.lst xs)) (h : R p) : ∃ a, V.ref p = .ref a ∧ (∃ xs, SqL K H a xs) ∧ R a := ⟨p, rfl, ⟨xs, .inl (.inl hp)⟩, h⟩
theorem w_refQ {p : Addr} {xs : List V} {R : Addr → Prop} (hp : SqL K H p xs) (h : R p) : ∃ a, V.ref p = .ref a ∧ (∃ xs, SqL K H a xs) ∧ R a := ⟨p, rfl, ⟨xs, hp⟩, h⟩
theorem w_iRng1 {a : TA} {R : It → Hp → Prop} (h : a σ H fun vs H1 => ∃ j : Int, vs = [.int j] ∧ -(2 ^ 62) ≤ j ∧ j < 2 ^ 62 ∧ R (Itr 0 j.toNat) H1) : iRng1 a σ H R := h
theorem w_rng1 {n : Int} {R : Int → Prop} (h1 : -4611686018427387904 ≤ n) (h2 : n < 4611686018427387904) (h : R n) : ∃ j : Int, [V.int n] = [.int j] ∧ -(2 ^ 62) ≤ j ∧ j < 2 ^ 62 ∧ R j := ⟨n, rfl, h1, h2, h⟩
/-- a comprehension by an invariant over the turn, the list so far and the heap -/
def LcI (D : Addr) (Pv : Nat → List V → Hp → Prop) (i : Nat) (H : Hp) : Prop := ∃ acc, H D = some (.lst acc) ∧ acc.length ≤ i ∧ Pv i acc H
def LcPut (D : Addr) (Pv : Nat → List V → Hp → Prop) (i : Nat) (y : V) (H : Hp) : Prop := ∃ acc, H D = some (.lst acc) ∧ acc.length < sizeLine ∧ LcI D Pv (i + 1) (upd H D (.lst (acc ++ [y])))
theorem LcPut.mk {D : Addr} {Pv : Nat → List V → Hp → Prop} {i : Nat} {y : V} {acc : List V} (e : H D = some (.lst acc)) (hl : acc.length ≤ i) (hz : i ≤ 1000000) (h : ∀ H', Keep D H H' → H' D = some (.lst (acc ++ [y])) → Pv (i + 1) (acc ++ [y]) H') : LcPut D Pv i y H :=
  ⟨acc, e, Nat.lt_of_le_of_lt (Nat.le_trans hl hz) (by decide), acc ++ [y], upd_same, by simp; exact hl, h _ (fun a u n e => by rw [upd_ne n]; exact e) upd_same⟩
theorem lc_rel (w : Walk J src.length G (YAt src)) (Pv : Addr → Nat → List V → Hp → Prop) (h0 : ∀ D H', H D = none → Same H H' → H' D = some (.lst []) → Pv D 0 [] H')
    (hG : ∀ D i acc H1, i ≤ src.length → H1 D = some (.lst acc) → Pv D i acc H1 → G H1) (hw : ∀ x, wipe ((wipe σ vs).set j (some x)) vs = wipe σ vs)
    (hs : ∀ D i x acc H1, H D = none → i < src.length → src[i]? = some x → H1 D = some (.lst acc) → acc.length ≤ i → Pv D i acc H1 → tt ((wipe σ vs).set j (some x)) H1 fun b H3 =>
      if b = true then te ((wipe σ vs).set j (some x)) H3 fun y H4 => LcPut D (Pv D) i y H4 else LcI D (Pv D) (i + 1) H3)
    (hd : ∀ D acc H', H D = none → H' D = some (.lst acc) → acc.length ≤ src.length → Pv D src.length acc H' → Q (.ref D) H') : LcD J (gName j) tt te vs σ H Q := by
  intro D hD
  refine lc_it w (LcI D (Pv D)) ⟨[], upd_same, Nat.le_refl _, h0 D _ hD (same_upd hD) upd_same⟩ (fun i H1 hi ⟨acc, e, _, p⟩ => hG D i acc H1 hi e p) ?_ (fun H' ⟨acc, e, hl, p⟩ => hd D acc H' hD e hl p)
  rintro i x H1 H2 hi ⟨acc, e, hl, p⟩ ⟨rfl, hx⟩
  exact ⟨hw x, hs D i x acc H2 hD hi hx e hl p⟩
/-- a comprehension whose tests and items are told by functions -/
theorem lc_pure (w : Walk J src.length G (YAt src)) (p : V → Bool) (f : V → V) (hz : src.length ≤ 1000000) (hG : ∀ H', Same H H' → G H') (hw : ∀ x, wipe ((wipe σ vs).set j (some x)) vs = wipe σ vs)
    (ht : ∀ x, x ∈ src → ∀ H1 (R : Bool → Hp → Prop), Same H H1 → (∀ H2, Same H1 H2 → R (p x) H2) → tt ((wipe σ vs).set j (some x)) H1 R)
    (he : ∀ x, x ∈ src → p x = true → ∀ H1 (R : VK), Same H H1 → (∀ H2, Same H1 H2 → R (f x) H2) → te ((wipe σ vs).set j (some x)) H1 R)
    (hd : ∀ D H', H D = none → Same H H' → H' D = some (.lst ((src.filter p).map f)) → Q (.ref D) H') : LcD J (gName j) tt te vs σ H Q := by
  intro D hD
  refine lc_it w (fun i H1 => Same H H1 ∧ H1 D = some (.lst (((src.take i).filter p).map f))) ⟨same_upd hD, upd_same⟩ (fun i H1 hi q => hG H1 q.1) ?_ (fun H' q => ?_)
  · rintro i x H1 H2 hi ⟨s1, e1⟩ ⟨rfl, hx⟩
    have hm : x ∈ src := List.mem_of_getElem? hx
    have hz2 : (((src.take i).filter p).map f).length < sizeLine := by
      rw [List.length_map]
      have := List.length_filter_le p (src.take i)
      have : (src.take i).length ≤ i := by rw [List.length_take]; omega
      exact Nat.lt_of_le_of_lt (by omega : _ ≤ 1000000) (by decide)
    have tk : src.take (i + 1) = src.take i ++ [x] := by rw [List.take_add_one, hx]; rfl
    refine ⟨hw x, ht x hm H2 _ s1 fun H3 s3 => ?_⟩
    cases hp : p x with
    | true =>
      rw [if_pos rfl]
      refine he x hm hp H3 _ (s1.trans s3) fun H4 s4 => ⟨_, s4 _ _ (s3 _ _ e1), hz2, (Same.mut ((s1.trans s3).trans s4) hD), ?_⟩
      rw [upd_same, tk, List.filter_append, List.map_append]
      simp [hp]
    | false =>
      rw [if_neg Bool.false_ne_true]
      refine ⟨s1.trans s3, ?_⟩
      rw [s3 _ _ e1, tk, List.filter_append, List.map_append]
      simp [hp]
  · rw [List.take_length] at q
    exact hd D H' hD q.1 q.2
theorem w_yes {R : Bool → Hp → Prop} (h : R true H) : tYes σ H R := h
theorem yes_t {x : V} : ∀ H1 (R : Bool → Hp → Prop), Same H H1 → (∀ H2, Same H1 H2 → R ((fun _ : V => true) x) H2) → tYes σ H1 R := fun H1 R _ h => h H1 (Same.refl H1)
end
/-! ### isinstance of plain things -/
section
variable {K : PySem.W.Frag} {H : Hp} {Q : VK} {T : String} {b : Bool}
theorem v_isiN  (k : kitB "NoneType" T = some b) (h : Q (.bl b) H) : rIsi K [.non, .ty T] H Q := v_isi (.base (TyOf.non)) (kit_ty k) h
theorem v_isiB {z : Bool} (k : kitB "bool" T = some b) (h : Q (.bl b) H) : rIsi K [.bl z, .ty T] H Q := v_isi (.base (TyOf.bl z)) (kit_ty k) h
theorem v_isiI {z : Int} (k : kitB "int" T = some b) (h : Q (.bl b) H) : rIsi K [.int z, .ty T] H Q := v_isi (.base (TyOf.int z)) (kit_ty k) h
theorem v_isiS {z : Str} (k : kitB "str" T = some b) (h : Q (.bl b) H) : rIsi K [.str z, .ty T] H Q := v_isi (.base (TyOf.str z)) (kit_ty k) h
theorem v_isiL {a : Addr} {xs : List V} (e : H a = some (.lst xs)) (k : kitB "list" T = some b) (h : Q (.bl b) H) : rIsi K [.ref a, .ty T] H Q := v_isi (.base (TyOf.lst e)) (kit_ty k) h
theorem v_isiU {a : Addr} {xs : List V} (e : H a = some (.tup xs)) (k : kitB "tuple" T = some b) (h : Q (.bl b) H) : rIsi K [.ref a, .ty T] H Q := v_isi (.base (TyOf.tup e)) (kit_ty k) h
theorem v_isiD {a : Addr} {kvs : List (Key × V)} (e : H a = some (.dK kvs)) (k : kitB "dict" T = some b) (h : Q (.bl b) H) : rIsi K [.ref a, .ty T] H Q := v_isi (.base (TyOf.dK e)) (kit_ty k) h
theorem kb_NoneType_int : kitB "NoneType" "int" = some false := by decide +kernel
theorem kb_NoneType_bool : kitB "NoneType" "bool" = some false := by decide +kernel
theorem kb_NoneType_str : kitB "NoneType" "str" = some false := by decide +kernel
theorem kb_NoneType_list : kitB "NoneType" "list" = some false := by decide +kernel
theorem kb_NoneType_tuple : kitB "NoneType" "tuple" = some false := by decide +kernel
theorem kb_NoneType_dict : kitB "NoneType" "dict" = some false := by decide +kernel
theorem kb_bool_int : kitB "bool" "int" = some true := by decide +kernel
theorem kb_bool_bool : kitB "bool" "bool" = some true := by decide +kernel
theorem kb_bool_str : kitB "bool" "str" = some false := by decide +kernel
theorem kb_bool_list : kitB "bool" "list" = some false := by decide +kernel
theorem kb_bool_tuple : kitB "bool" "tuple" = some false := by decide +kernel
theorem kb_bool_dict : kitB "bool" "dict" = some false := by decide +kernel
theorem kb_int_int : kitB "int" "int" = some true := by decide +kernel
theorem kb_int_bool : kitB "int" "bool" = some false := by decide +kernel
theorem kb_int_str : kitB "int" "str" = some false := by decide +kernel
theorem kb_int_list : kitB "int" "list" = some false := by decide +kernel
theorem kb_int_tuple : kitB "int" "tuple" = some false := by decide +kernel
theorem kb_int_dict : kitB "int" "dict" = some false := by decide +kernel
theorem kb_str_int : kitB "str" "int" = some false := by decide +kernel
theorem kb_str_bool : kitB "str" "bool" = some false := by decide +kernel
theorem kb_str_str : kitB "str" "str" = some true := by decide +kernel
theorem kb_str_list : kitB "str" "list" = some false := by decide +kernel
theorem kb_str_tuple : kitB "str" "tuple" = some false := by decide +kernel
theorem kb_str_dict : kitB "str" "dict" = some false := by decide +kernel
theorem kb_list_int : kitB "list" "int" = some false := by decide +kernel
theorem kb_list_bool : kitB "list" "bool" = some false := by decide +kernel
theorem kb_list_str : kitB "list" "str" = some false := by decide +kernel
theorem kb_list_list : kitB "list" "list" = some true := by decide +kernel
theorem kb_list_tuple : kitB "list" "tuple" = some false := by decide +kernel
theorem kb_list_dict : kitB "list" "dict" = some false := by decide +kernel
theorem kb_tuple_int : kitB "tuple" "int" = some false := by decide +kernel
theorem kb_tuple_bool : kitB "tuple" "bool" = some false := by decide +kernel
theorem kb_tuple_str : kitB "tuple" "str" = some false := by decide +kernel
theorem kb_tuple_list : kitB "tuple" "list" = some false := by decide +kernel
theorem kb_tuple_tuple : kitB "tuple" "tuple" = some true := by decide +kernel
theorem kb_tuple_dict : kitB "tuple" "dict" = some false := by decide +kernel
theorem kb_dict_int : kitB "dict" "int" = some false := by decide +kernel
theorem kb_dict_bool : kitB "dict" "bool" = some false := by decide +kernel
theorem kb_dict_str : kitB "dict" "str" = some false := by decide +kernel
theorem kb_dict_list : kitB "dict" "list" = some false := by decide +kernel
theorem kb_dict_tuple : kitB "dict" "tuple" = some false := by decide +kernel
theorem kb_dict_dict : kitB "dict" "dict" = some true := by decide +kernel
end
/-! ### loops -/
section
variable {K : PySem.W.Frag} {σ : L2.St} {H : Hp} {D : Ends} {J : It} {src : List V} {G : Hp → Prop} {tb : TS} {g : TG} {j : Nat}
def ForD (J : It) (g : TG) (tb : TS) (D : Ends) (σ : L2.St) (H1 : Hp) : Prop := ∃ W : Nat → Nat → L2.St → Hp → Prop, (∃ m, W 0 m σ H1) ∧ ∀ i m σ H, W i m σ H →
  (J.stop i H ∧ D.nx σ H) ∨ (J.go i H ∧ ∃ N : L2.St → Hp → Prop, (∀ σ' H', N σ' H' → ∃ m', m' < m ∧ W (i + 1) m' σ' H') ∧ ∀ x H', J.yld i H x H' → g x σ H' fun σ2 H2 => tb { D with nx := N, ct := N, bk := D.nx } σ2 H2)
theorem w_for {wi : TI} (h : wi σ H fun J H1 => ForD J g tb D σ H1) : tFor wi g tb D σ H := h
theorem for_rel (w : Walk J src.length G (YAt src)) (Pv : Nat → L2.St → Hp → Prop) (h0 : Pv 0 σ H) (hG : ∀ i σ H, i ≤ src.length → Pv i σ H → G H)
    (hs : ∀ i x σ H, i < src.length → src[i]? = some x → Pv i σ H → tb { D with nx := Pv (i + 1), ct := Pv (i + 1), bk := D.nx } (σ.set j (some x)) H) (hd : ∀ σ H, Pv src.length σ H → D.nx σ H) : ForD J (gName j) tb D σ H :=
  for_it w Pv h0 hG (fun i x σ H H' hi p y => by obtain ⟨rfl, hx⟩ := y; exact hs i x σ _ hi hx p) hd
end
end Hk

namespace Hk
open PySem PySem.Spec PyProof.Rows L2 He
/-! ### signs of texts -/
def Cs (P : Nat → Prop) (z : Str) : Prop := ∀ c, c ∈ z.cps.toList → P c
theorem Cs.app {P : Nat → Prop} {x y : Str} (hx : Cs P x) (hy : Cs P y) : Cs P (x ++ y) := by
  intro c hc
  have e : (x ++ y).cps.toList = x.cps.toList ++ y.cps.toList := by show (x.cps ++ y.cps).toList = _; simp
  rw [e] at hc
  rcases List.mem_append.mp hc with h | h
  · exact hx c h
  · exact hy c h
theorem Cs.cut {P : Nat → Prop} {z : Str} (h : Cs P z) (lo hi : Option Int) : Cs P (cutS z lo hi) := by
  intro c hc
  have e : (cutS z lo hi).cps.toList = (z.cps.toList.drop (HT.sIx z.length 0 lo)).take (HT.sIx z.length z.length hi - HT.sIx z.length 0 lo) := by unfold cutS; simp
  rw [e] at hc
  exact h c (List.mem_of_mem_drop (List.mem_of_mem_take hc))
theorem Cs.one {P : Nat → Prop} {c : Nat} (h : P c) : Cs P ⟨#[c]⟩ := by
  intro d hd
  have e : d = c := by simpa using hd
  rw [e]; exact h
theorem Cs.imp {P R : Nat → Prop} {z : Str} (h : Cs P z) (i : ∀ c, P c → R c) : Cs R z := fun c hc => i c (h c hc)
theorem Cs.strOk {z : Str} (h : Cs (· < 0x110000) z) : PyData.strOk z = true := by
  unfold PyData.strOk
  rw [Array.all_eq_true']
  intro c hc
  exact decide_eq_true (h c (by simpa using hc))
theorem cs_ofString (s : String) : Cs (· < 0x110000) (Str.ofString s) := by
  rw [Str.ofString_eq_toList]
  intro c hc
  have hc' : c ∈ s.toList.map Char.toNat := by simpa using hc
  obtain ⟨ch, _, rfl⟩ := List.mem_map.mp hc'
  have h := ch.valid
  show ch.val.toNat < 0x110000
  rcases h with h | h
  · have : ch.val.toNat < 0xd800 := h
    omega
  · have : ch.val.toNat < 0x110000 := h.2
    omega
theorem cs_join {P : Nat → Prop} {sep : Str} (hs : Cs P sep) : ∀ ys : List Str, (∀ y, y ∈ ys → Cs P y) → Cs P (Str.join sep ys)
  | [], _ => fun c hc => by simp [Str.join, Str.empty] at hc
  | [x], h => h x (by simp)
  | x :: y :: r, h => by
    have ih := cs_join hs (y :: r) (fun z hz => h z (by simp at hz ⊢; exact .inr hz))
    exact Cs.app (Cs.app (h x (by simp)) hs) ih
theorem join0_len : ∀ ys : List Str, (Str.join "" ys).length = (ys.map (·.length)).sum
  | [] => rfl
  | [x] => by simp [Str.join]
  | x :: y :: r => by
    have ih := join0_len (y :: r)
    show (x ++ "" ++ Str.join "" (y :: r)).length = _
    rw [str_app, str_app, ih]
    simp
    rfl
/-! ### == of flat lists -/
def flatD : V → PyData
  | .bl b => .bool b
  | .int i => .int i
  | .str z => .str z
  | _ => .none
def okD : V → Prop
  | .non => True
  | .bl _ => True
  | .int _ => True
  | .str z => Cs (· < 0x110000) z
  | _ => False
theorem dp_flat {K : PySem.W.Frag} {H : Hp} {x : V} (h : okD x) : Dp K H x (flatD x) := by
  cases x with
  | non => exact .non
  | bl b => exact .bl b
  | int i => exact .int i
  | str z => exact .str z
  | _ => exact h.elim
theorem dpAll_flat {K : PySem.W.Frag} {H : Hp} : ∀ {xs : List V}, (∀ x, x ∈ xs → okD x) → DpAll K H xs (xs.map flatD)
  | [], _ => .nil
  | x :: xs, h => .cons (dp_flat (h x (by simp))) (dpAll_flat fun y hy => h y (by simp [hy]))
theorem can_flat {x : V} (h : okD x) : (flatD x).canLay0 = true := by
  cases x with
  | non => rfl
  | bl b => rfl
  | int i => rfl
  | str z => show PyData.strOk z = true; exact Cs.strOk h
  | _ => exact h.elim
theorem canAll_flat : ∀ {xs : List V}, (∀ x, x ∈ xs → okD x) → PyData.canLayAll0 (xs.map flatD) = true
  | [], _ => rfl
  | x :: xs, h => by
    show ((flatD x).canLay0 && PyData.canLayAll0 (xs.map flatD)) = true
    rw [can_flat (h x (by simp)), canAll_flat fun y hy => h y (by simp [hy])]
    rfl
theorem depth_flat (x : V) : (flatD x).depth ≤ 1 := by
  cases x <;> simp [flatD, PyData.depth]
theorem depthAll_flat : ∀ xs : List V, PyData.depthAll (xs.map flatD) ≤ 1
  | [] => by simp [PyData.depthAll]
  | x :: xs => by
    have h1 := depth_flat x
    have h2 := depthAll_flat xs
    show PyData.depthAll (flatD x :: xs.map flatD) ≤ 1
    simp only [PyData.depthAll]
    omega
theorem shaped_flat {xs : List V} (h : ∀ x, x ∈ xs → okD x) : SeqAt.shaped (.list (xs.map flatD)) = true := by
  unfold SeqAt.shaped
  have h2 := depthAll_flat xs
  have h3 : (PyData.list (xs.map flatD)).canLay0 = true := canAll_flat h
  rw [h3]
  have h4 : (PyData.list (xs.map flatD)).depth ≤ 64 := by simp only [PyData.depth]; omega
  simp [h4]
theorem v_eqL {K : PySem.W.Frag} {H : Hp} {Q : VK} {p q : Addr} {xs ys : List V} (hp : H p = some (.lst xs)) (hq : H q = some (.lst ys)) (hx : ∀ x, x ∈ xs → okD x) (hy : ∀ x, x ∈ ys → okD x)
    (h : Q (.bl (PyData.eqvAll (xs.map flatD) (ys.map flatD))) H) : rEqU K (.ref p) (.ref q) H Q :=
  Or.inr ⟨.list (xs.map flatD), .list (ys.map flatD), .lst (.inl (.inl hp)) (dpAll_flat hx), .lst (.inl (.inl hq)) (dpAll_flat hy), shaped_flat hx, shaped_flat hy, h⟩
theorem eqv_flat (x : V) (h : okD x) : PyData.eqv (flatD x) (flatD x) = true := by
  cases x <;> simp [flatD, PyData.eqv]
theorem eqvAll_flat : ∀ {xs : List V}, (∀ x, x ∈ xs → okD x) → PyData.eqvAll (xs.map flatD) (xs.map flatD) = true
  | [], _ => rfl
  | x :: xs, h => by
    show (PyData.eqv (flatD x) (flatD x) && PyData.eqvAll (xs.map flatD) (xs.map flatD)) = true
    rw [eqv_flat x (h x (by simp)), eqvAll_flat fun y hy => h y (by simp [hy])]
    rfl
theorem eqvAll_nil (xs : List V) : PyData.eqvAll (xs.map flatD) (([] : List V).map flatD) = xs.isEmpty := by
  cases xs <;> rfl
end Hk

namespace Hk
open PySem PySem.Spec PyProof.Rows L2 He
/-! ### defs that are called where no repr is under way -/
structure RoomG (k : Nat) (A : Around) : Prop where
  room : Room k A
  free : A.guards = some []
theorem RoomG.mono {j k : Nat} {A : Around} (r : RoomG k A) (h : j ≤ k) : RoomG j A := ⟨r.room.mono h, r.free⟩
theorem RoomG.units {k : Nat} {A : Around} (r : RoomG k A) : A.units + 64 < cLine := r.room.units
structure FnG (P : Program) (w : World) (K : PySem.W.Frag) (mg : Str → Option Value) (base : Heap) (CX : CXT) (k : Nat) (f : Addr) (fd : FuncData) (ps : List Str) (sp : Sp) : Prop where
  len : ∀ vs H Q E, sp vs H Q E → vs.length = ps.length
  go : ∀ (A : Around) (outer : List Env) (s : Shared) (H : Hp) (args : Args) (us : List Value) (vs : List V) (Q : VK) (E : XK), RoomG k A → Env0 P w K mg base A outer s H →
    BindsTo s fd args (ps.zip us) → Vals vs us → sp vs H Q E → codeAny (model P w) A (.call (.ref f) args) (CR CX outer P w H s Q E) s
section
variable {P : Program} {w : World} {K : PySem.W.Frag} {mg : Str → Option Value} {base : Heap} {CX : CXT} {j k : Nat} {f : Addr} {fd : FuncData} {ps : List Str} {sp : Sp}
theorem FnG.of (F : FnOk P w K mg base CX k f fd ps sp) : FnG P w K mg base CX k f fd ps sp := ⟨F.len, fun A outer s H args us vs Q E g => F.run A outer s H args us vs Q E g.room⟩
theorem FnG.mono (F : FnG P w K mg base CX j f fd ps sp) (h : j ≤ k) : FnG P w K mg base CX k f fd ps sp := ⟨F.len, fun A outer s H args us vs Q E g => F.go A outer s H args us vs Q E (g.mono h)⟩
/-- the rule for a def: its body by a derivation, its reading -/
theorem fnG_of {x qual : Str} {params : Arguments} {body : List Stmt} {scope : Scope} {dvs : List V} {kws : List (Str × V)} {N : List Str} (F : FunD K x qual params body scope dvs kws f fd) (S : FnScope N ps scope)
    (len : ∀ vs H Q E, sp vs H Q E → vs.length = ps.length)
    (hbody : ∀ (cdv : Value) (A : Around) (outer : List Env) (s : Shared) (H : Hp) (vs : List V) (Q : VK) (E : XK), RoomG k (A.deeper (envOfC qual scope s.heap.objs.size f cdv)) → sp vs H Q E →
      ∃ t, PSs (cxOf CX P w K mg base N qual scope f cdv A outer s H E) body t ∧ t { nx := fun _ H' => Q .non H', rt := Q } (start N vs) H) : FnG P w K mg base CX (k + 1) f fd ps sp := by
  obtain ⟨oc, od, dV, kV, doc, pm, an, cdv, ct, osl, rfl, lk, hcd, _, _⟩ := F.ex
  refine ⟨len, fun A outer s H args us vs Q E g e0 hb r hsp => ?_⟩
  have n1 := len _ _ _ _ hsp
  have kin : K.In s.heap := e0.mod.kin.keeps fun b o e => (e0.bs b o e).1
  have nol : s.heap.NoLimit := e0.mod.nolimit.keeps fun b o e => (e0.bs b o e).1
  have kinds : ∀ y ∈ ps.zip us, scope.names.lookup y.1 = some .local ∨ (scope.names.lookup y.1 = some .cell ∧ ((cellsFrom (s.heap.objs.size + 1) scope.names []).lookup y.1).isSome = true) := by
    rintro ⟨nm, v⟩ hy
    rcases S.par nm (List.of_mem_zip hy).1 with q | q
    · left; exact q
    · right; exact ⟨q, PySem.W.cellsFrom_some _ _ _ (.inl q)⟩
  refine codeAny_call_function g.room.depth (kin _ _ lk) rfl S.co S.gen rfl (PySem.W.codeRec_of kin hcd) (hb _ _ _ _ ?_)
  refine wpAny_newFunctionEnv_cells S.kind kinds fun env he s1 y => ?_
  subst he
  refine ⟨nol.keeps y.toInCall.keep, codeAny_func ?_⟩
  obtain ⟨t, ht, hq⟩ := hbody cdv A outer s H vs Q E ⟨g.room.deeper _, g.free⟩ hsp
  have inv := inv_start (CX := CX) (E := E) S g.room.hd e0 n1 r y
  refine wpAny_mono (ht.run [] s1 (start N vs) H _ inv hq) (fun fl s' z => ?_) fun e s' z => z
  cases fl
  case ret u => obtain ⟨v, σ', H', J, rv, q⟩ := z; exact ⟨v, H', J.os, J.bare, J.base, J.hok, rv, q⟩
  case next => obtain ⟨σ', H', J, q⟩ := z; exact ⟨.non, H', J.os, J.bare, J.base, J.hok, rfl, q⟩
  case brk => obtain ⟨_, _, _, q⟩ := z; exact q.elim
  case cont => obtain ⟨_, _, _, q⟩ := z; exact q.elim
end
section
variable {X : Cx} {CX : CXT} {k : Nat} {f : Addr} {fd : FuncData} {ps : List Str} {sp : Sp} {E : XK}
theorem run_fnG {pins : List (Addr × Obj)} {σ : L2.St} {H : Hp} {s : Shared} {Q : VK} {us : List Value} {vs : List V} (F : FnG X.prog X.w X.K X.mg X.base CX k f fd ps sp) (g : RoomG k X.A) (hb : Binds X.K fd ps []) (hx : Passes CX X E)
    (I : Inv X pins σ H s) (r : Vals vs us) (h : sp (vs ++ []) H Q E) : wpAny (model X.prog X.w) X.A (call (.ref f) us) (EP X pins σ Q) X.xe s := by
  rw [List.append_nil] at h
  have n1 : us.length = ps.length := by rw [← r.length]; exact F.len _ _ _ _ h
  have b1 := hb s us I.kIn (by rw [List.append_nil]; exact n1)
  rw [List.append_nil] at b1
  refine wpAny_call (codeAny_mono (F.go X.A X.stack s H ⟨us, []⟩ us vs Q E g I.env0 b1 r h) fun r s' z => ?_)
  cases r with
  | error e => exact hx pins σ H s e s' I z
  | ok fl => cases fl <;> first | exact I.after z | exact False.elim z
end
/-- a def packed -/
def FOG (P : Program) (w : World) (K : PySem.W.Frag) (mg : Str → Option Value) (base : Heap) (CX : CXT) (k : Nat) (x : Str) (ps : List Str) (sp : Sp) : Prop :=
  mg x = some (.ref (ga K x)) ∧ PySem.W.keepIn K (.ref (ga K x)) = true ∧ ∃ fd, Binds K fd ps [] ∧ FnG P w K mg base CX k (ga K x) fd ps sp
section
variable {P : Program} {w : World} {K : PySem.W.Frag} {mg : Str → Option Value} {base : Heap}
theorem FOG.mono {CX : CXT} {j k : Nat} {x : Str} {ps : List Str} {sp : Sp} (F : FOG P w K mg base CX j x ps sp) (h : j ≤ k) : FOG P w K mg base CX k x ps sp := by
  obtain ⟨a, b, fd, c, d⟩ := F
  exact ⟨a, b, fd, c, d.mono h⟩
theorem FOG.of {CX : CXT} {k : Nat} {x : Str} {ps : List Str} {sp : Sp} (F : FOk P w K mg base CX k x ps sp) : FOG P w K mg base CX k x ps sp := by
  obtain ⟨a, b, fd, c, d⟩ := F
  exact ⟨a, b, fd, c, .of d⟩
end
section
variable {X : Cx} {CX : CXT} {k : Nat} {x : Str} {ps : List Str} {sp : Sp} {E : XK} {e : Expr} {es : List Expr} {t : TA} {p pos : Pos}
theorem pe_callG (F : FOG X.prog X.w X.K X.mg X.base CX k x ps sp) (g : RoomG k X.A) (hg : Gl X x) (hx : Passes CX X E) (ha : PA X (e :: es) t)
    (hdb : (x == ("__debug__" : Str)) = false := by decide) (he : starEach (e :: es) X.env = (false, eval e X.env) :: starEach es X.env := by rfl) (hpl : (backTo pos (starEach es X.env)).any (·.1) = false := by rfl) :
    PE X (.Call (.Name x p) (e :: es) [] pos) (tCall sp [] E t) := by
  obtain ⟨a, b, fd, c, d⟩ := F
  refine ⟨fun pins s σ H Q I h => wpAny_Call_Name_kw (ld_glob I hg a ?_ hdb)⟩
  refine PySem.W.callWith_K (h₀ := X.base) I.ok.mod.kin b (thn (ha.run pos pins s σ H _ I h) fun us s1 ⟨vs, H1, I1, r, q⟩ => ⟨I1.kIn, ?_⟩) he hpl
  exact run_fnG d g c hx I1 r q
theorem pe_callG0 (F : FOG X.prog X.w X.K X.mg X.base CX k x ps sp) (g : RoomG k X.A) (hg : Gl X x) (hx : Passes CX X E)
    (hdb : (x == ("__debug__" : Str)) = false := by decide) : PE X (.Call (.Name x p) [] [] pos) (tCall sp [] E tNil) := by
  obtain ⟨a, b, fd, c, d⟩ := F
  refine ⟨fun pins s σ H Q I h => wpAny_Call_Name_kw (ld_glob I hg a ?_ hdb)⟩
  exact PySem.W.callWith_K0 I.kIn b (run_fnG (us := []) d g c hx I .nil h)
end
section
variable {P : Program} {w : World} {K : PySem.W.Frag} {mg : Str → Option Value} {base : Heap}
abbrev FnP (K : PySem.W.Frag) (x : Str) (st : Stmt) (f : Addr) (fd : FuncData) : Prop := FunD K x x (defArgs st) (defBody st) (defScope st) [] [] f fd
theorem mkG {x : Str} {st : Stmt} {N ps : List Str} {k : Nat} {sp : Sp} (F : ∃ fd, FnP K x st (ga K x) fd) (g : mg x = some (.ref (ga K x))) (sc : FnScope N ps (defScope st)) (len : ∀ vs H Q E, sp vs H Q E → vs.length = ps.length)
    (hb : ∀ (kV doc pm : Value) (an : Option Addr) (cdv ct : Value) (us : List Value), us.length = ps.length → bindArgs (PySem.W.fnOf x x (defArgs st) (defBody st) (defScope st) .none kV doc pm an cdv ct) ⟨us, []⟩ = pure (ps.zip us))
    (hbody : ∀ (cdv : Value) (A : Around) (outer : List Env) (s : Shared) (H : Hp) (vs : List V) (Q : VK) (E : XK), RoomG k (A.deeper (envOfC x (defScope st) s.heap.objs.size (ga K x) cdv)) → sp vs H Q E →
      ∃ t, PSs (cxOf CX0 P w K mg base N x (defScope st) (ga K x) cdv A outer s H E).nox (defBody st) t ∧ t { nx := fun _ H' => Q .non H', rt := Q } (start N vs) H) : FOG P w K mg base CX0 (k + 1) x ps sp := by
  obtain ⟨fd, F⟩ := F
  refine ⟨g, F.kp, fd, F.bindsN hb, fnG_of F sc len fun cdv A outer s H vs Q E hr h => ?_⟩
  obtain ⟨t, h1, h2⟩ := hbody cdv A outer s H vs Q E hr h
  exact ⟨t, h1.nox, h2⟩
end
/-! ### the end of a law -/
theorem law_callG {P : Program} {w : World} {K : PySem.W.Frag} {mg mb : Str → Option Value} {CX : CXT} {k : Nat} {fa a : Addr} {fd : FuncData} {x : Str} {sp : Sp} {s₁ : Shared} {vs : List Value} {ns : List Int}
    (kin : K.In s₁.heap) (hns : s₁.heap.Ns mainGlobals mg) (hb : s₁.heap.Ns builtinsNs mb) (hbb : ∀ x : Str, x ≠ "__name__" → mb x = bootBuiltins x) (hlim : s₁.heap.NoLimit) (hg : s₁.gens = #[])
    (ha : s₁.heap.get? a = some { cls := .type "list", data := .seq vs.toArray }) (hi : IntsAre vs ns) (hl : ns.length ≤ sizeLine) (hr : Room k callerA)
    (F : ∀ base : Heap, K.In base → base.Ns mainGlobals mg → FnG P w K mg base CX k fa fd [x] sp) (hbind : ∀ (s : Shared) (u : Value), BindsTo s fd ⟨[u], []⟩ [(x, u)])
    (hsp : ∀ H : Hp, Only H → SqL K H a (ns.map V.int) → sp [.ref a] H (fun v _ => v = .bl true) fun _ _ _ => False) (hCX : ∀ H e s', CX [] H s₁ (fun _ _ _ => False) e s' → False) :
    codeAny (model P w) callerA (.call (.ref fa) ⟨[.ref a], []⟩) (fun r s' => r = .ok (.ret (.bool true)) ∧ OldK s₁.heap s'.heap ∧ s'.os = s₁.os ∧ AllBare s'.gens) s₁ := by
  have rv := vals_ints hi
  have lv := hi.length
  have nil_mem : ∀ {b : Addr}, b ∈ ([] : List Addr) → False := fun z => by simp at z
  have main : ∀ H : Hp, Only H → SqL K H a (ns.map V.int) → HOk P w H s₁.heap → (∀ b u, H b = some u → b = a ∧ K.lookup a = none) →
      codeAny (model P w) callerA (.call (.ref fa) ⟨[.ref a], []⟩) (fun r s' => r = .ok (.ret (.bool true)) ∧ OldK s₁.heap s'.heap ∧ s'.os = s₁.os ∧ AllBare s'.gens) s₁ := by
    intro H hO hS ok only
    have free : ∀ {b : Addr}, (b = a → False) → H b = none := fun {b} n => by
      cases q : H b with
      | none => rfl
      | some u => exact (n (only b u q).1).elim
    have nsH : ∀ {b : Addr} {m : Str → Option Value}, s₁.heap.Ns b m → (hidT s₁.heap H).Ns b m := by
      rintro b m ⟨o, es, ep, e, d, r⟩
      refine ⟨o, es, ep, hidT_get e (free fun z => ?_), d, r⟩
      subst z
      rw [ha] at e
      cases e
      cases (show Data.seq vs.toArray _ = Data.dict es ep from d)
    have kinH : K.In (hidT s₁.heap H) := fun b o e => hidT_get (kin b o e) (by
      cases q : H b with
      | none => rfl
      | some u =>
        obtain ⟨z, n⟩ := only b u q
        subst z
        rw [n] at e
        cases e)
    have modH : Mod K mg (hidT s₁.heap H) := by
      obtain ⟨mc, h1, h2⟩ := hlim
      exact ⟨kinH, nsH hns, ⟨mb, nsH hb, hbb⟩, ⟨mc, nsH h1, h2⟩⟩
    have env : Env0 P w K mg (hidT s₁.heap H) callerA [] s₁ H :=
      ⟨rfl, modH, fun b o e => of_hidT e, Nat.le_of_eq (hidT_size _ _), trivial, fun b z => (nil_mem z).elim, ok, .of_eq hg⟩
    have run := (F _ kinH (nsH hns)).go callerA [] s₁ H ⟨[.ref a], []⟩ [.ref a] [.ref a] _ _ ⟨hr, rfl⟩ env (hbind s₁ (.ref a)) (.cons rfl .nil) (hsp H hO hS)
    refine codeAny_mono run fun r s' h => ?_
    cases r with
    | error e => exact (hCX H e s' h).elim
    | ok fl =>
      cases fl with
      | ret u =>
        obtain ⟨v, H', os, bare, un, ok', r', q⟩ := h
        obtain rfl : v = .bl true := q
        obtain rfl : u = Value.bool true := r'
        refine ⟨rfl, OldK.of_keep fun b o e => ?_, os, bare⟩
        rcases hO b with z | ⟨ob, xs, z⟩
        · exact un.keep b o e z (fun z => nil_mem z) (fun z => nil_mem z)
        · have e1 := (ok b _ z).1
          have e2 := (ok' b _ (un.frzs b ob _ z)).1
          rw [e] at e1
          cases e1
          exact e2
      | _ => exact h.elim
  cases hk : K.lookup a with
  | some o =>
    have e := kin a o hk
    rw [ha] at e
    cases e
    exact main (fun _ => none) (fun _ => .inl rfl) (.inr ⟨_, vs.toArray, _, hk, rfl, rfl, rfl, by rw [List.size_toArray, lv]; exact hl, by simpa using rv⟩) (fun b u z => by cases (show (none : Option HO) = some u from z)) (fun b u z => by cases (show (none : Option HO) = some u from z))
  | none =>
    let o : Obj := { cls := .type "list", data := .seq vs.toArray }
    let H0 : Hp := fun b => if b = a then some (.frz o (.lst (ns.map V.int))) else none
    have at_a : ∀ {b u}, H0 b = some u → b = a ∧ u = .frz o (.lst (ns.map V.int)) := by
      intro b u z
      by_cases q : b = a
      · exact ⟨q, (Option.some.inj ((if_pos q).symm.trans z)).symm⟩
      · cases (if_neg q).symm.trans z
    refine main H0 (fun b => ?_) (.inl (.inr ⟨o, if_pos rfl⟩)) (fun b u z => ?_) (fun b u z => ⟨(at_a z).1, hk⟩)
    · by_cases q : b = a
      · exact .inr ⟨_, _, if_pos q⟩
      · exact .inl (if_neg q)
    · obtain ⟨rfl, rfl⟩ := at_a z
      exact ⟨ha, by rw [List.length_map]; exact hl, vs, _, rv, ha⟩
theorem walk_G {l : PySem.W.OpenLaw} {n k : Nat} {q : Program} {loose : List Str} {XP : (Str → Option Value) → Heap → Prop} {YP : World → Heap → Prop} {d : DefRec} {CX : CXT} {x : Str}
    (hn : l.most = some n) (hn2 : n ≤ sizeLine) (hdf : d.params.defaults = []) (hr : Room k callerA)
    (F : ∀ (w : World) (mg : Str → Option Value) (fa : Addr) (h : Heap), YP w h → h.Ns mainGlobals mg → mg d.name = some (.ref fa) →
      ∃ (K : PySem.W.Frag) (fd : FuncData) (sp : Sp), K.In h ∧ (∀ (s : Shared) (u : Value), BindsTo s fd ⟨[u], []⟩ [(x, u)]) ∧
        (∀ (H : Hp) (a : Addr) (ns : List Int), ns.length ≤ n → Only H → SqL K H a (ns.map V.int) → sp [.ref a] H (fun v _ => v = .bl true) fun _ _ _ => False) ∧
        ∀ base : Heap, K.In base → base.Ns mainGlobals mg → FnG l.prog w K mg base CX k fa fd [x] sp)
    (hCX : ∀ (H : Hp) (s : Shared) (e : Value) (s' : Shared), CX [] H s (fun _ _ _ => False) e s' → False) :
    PySem.W.WalkO q loose XP YP l.row.toRowW d [] (fun f vs => PySem.call f vs) := by
  refine Att.attach_call hn hdf fun w s₀ s₁ mg mb fa o pm cd doc a vs ns G Y ho hd hcd hmg hobj hints hlen hg => ?_
  obtain ⟨K, fd, sp, kx, hb, hsp, hF⟩ := F w mg fa _ Y G.T.g hmg
  exact law_callG kx G.T.g G.T.b G.T.builtins G.T.nolimit hg hobj hints (Nat.le_trans hlen hn2) hr hF hb (fun H hO hS => hsp H a ns hlen hO hS) fun H e s' => hCX H s₁ e s'
end Hk

namespace Hk
open PySem PySem.Spec PyProof.Rows L2 He
/-! ### what is looked at behind the top, sysModules too -/
def frX (n : Nat) (g : Addr → Option Obj) : PySem.W.Frag := frG g (sysModules :: asD g n)
def obsX (n : Nat) (fa : List Fa) (fn : List DefD) (ex : PySem.W.Frag → Bool) (g : Addr → Option Obj) : Bool × AlD := ((((frX n g).lookup sysModules).isSome && ex (frX n g)), obsD fa fn (frX n g))
def SaysX (fa : List Fa) (fn : List DefD) (ex : PySem.W.Frag → Bool) (K : PySem.W.Frag) : Prop := (∃ o, K.lookup sysModules = some o) ∧ ex K = true ∧ SaysD fa fn K
theorem saysX_of {fa : List Fa} {fn : List DefD} {ex : PySem.W.Frag → Bool} {n : Nat} {g : Addr → Option Obj} (e : obsX n fa fn ex g = (true, valD fn)) : SaysX fa fn ex (frX n g) := by
  have e1 := congrArg Prod.fst e
  have e2 := congrArg Prod.snd e
  obtain ⟨h1, h2⟩ := Bool.and_eq_true_iff.mp e1
  exact ⟨Option.isSome_iff_exists.mp h1, h2, e2⟩
def hookX (n : Nat) (fa : List Fa) (fn : List DefD) (ex : PySem.W.Frag → Bool) : PySem.W.Hook where
  α := Bool × AlD
  obs := fun s => obsX n fa fn ex s.heap.get?
  val := fun _ => (true, valD fn)
  says := fun _ h => ∃ K : PySem.W.Frag, K.In h ∧ SaysX fa fn ex K
  of := fun _ s e => ⟨frX n s.heap.get?, frG_in, saysX_of e⟩
  keeps := fun _ _ _ ⟨K, hK, c⟩ k => ⟨K, PySem.W.Frag.In.keeps hK k, c⟩
theorem obsX_eq {n : Nat} {fa : List Fa} {fn : List DefD} {ex : PySem.W.Frag → Bool} {g : Addr → Option Obj} {s : Shared} (h : ∀ a, g a = s.heap.get? a) : obsX n fa fn ex g = (hookX n fa fn ex).obs s := by
  obtain rfl : g = s.heap.get? := funext h
  rfl
end Hk

namespace Hk
open PySem PySem.Spec PyProof.Rows L2 He
/-! ### things as data -/
inductive T where
  | non
  | bl (b : Bool)
  | int (i : Int)
  | str (z : Str)
  | lst (xs : List T)
  | tup (xs : List T)
  | dct (kvs : List (Key × T))
/- x is the thing t in the heap H, made of no object in B -/
mutual
inductive At (B : Addr → Prop) (H : Hp) : V → T → Prop where
  | non : At B H .non .non
  | bl (b : Bool) : At B H (.bl b) (.bl b)
  | int (i : Int) : At B H (.int i) (.int i)
  | str (z : Str) : At B H (.str z) (.str z)
  | lst {a : Addr} {xs : List V} {ts : List T} (n : ¬ B a) (e : H a = some (.lst xs)) (h : AtL B H xs ts) : At B H (.ref a) (.lst ts)
  | tup {a : Addr} {xs : List V} {ts : List T} (n : ¬ B a) (e : H a = some (.tup xs)) (h : AtL B H xs ts) : At B H (.ref a) (.tup ts)
  | dct {a : Addr} {kvs : List (Key × V)} {ts : List (Key × T)} (n : ¬ B a) (e : H a = some (.dK kvs)) (h : AtK B H kvs ts) : At B H (.ref a) (.dct ts)
inductive AtL (B : Addr → Prop) (H : Hp) : List V → List T → Prop where
  | nil : AtL B H [] []
  | cons {x : V} {t : T} {xs : List V} {ts : List T} (h : At B H x t) (r : AtL B H xs ts) : AtL B H (x :: xs) (t :: ts)
inductive AtK (B : Addr → Prop) (H : Hp) : List (Key × V) → List (Key × T) → Prop where
  | nil : AtK B H [] []
  | cons {k : Key} {x : V} {t : T} {xs : List (Key × V)} {ts : List (Key × T)} (h : At B H x t) (r : AtK B H xs ts) : AtK B H ((k, x) :: xs) ((k, t) :: ts)
end
/-- what is not in B stands -/
def KeepB (B : Addr → Prop) (H H' : Hp) : Prop := ∀ a o, ¬ B a → H a = some o → H' a = some o
section
variable {B B' : Addr → Prop} {H H' : Hp}
mutual
theorem At.keep (s : KeepB B H H') (i : ∀ a, B' a → B a ∨ H a = none) : ∀ {x : V} {t : T}, At B H x t → At B' H' x t
  | _, _, .non => .non
  | _, _, .bl b => .bl b
  | _, _, .int b => .int b
  | _, _, .str b => .str b
  | _, _, .lst n e h => .lst (fun q => by rcases i _ q with z | z; exact n z; rw [z] at e; cases e) (s _ _ n e) (AtL.keep s i h)
  | _, _, .tup n e h => .tup (fun q => by rcases i _ q with z | z; exact n z; rw [z] at e; cases e) (s _ _ n e) (AtL.keep s i h)
  | _, _, .dct n e h => .dct (fun q => by rcases i _ q with z | z; exact n z; rw [z] at e; cases e) (s _ _ n e) (AtK.keep s i h)
theorem AtL.keep (s : KeepB B H H') (i : ∀ a, B' a → B a ∨ H a = none) : ∀ {x : List V} {t : List T}, AtL B H x t → AtL B' H' x t
  | _, _, .nil => .nil
  | _, _, .cons h r => .cons (At.keep s i h) (AtL.keep s i r)
theorem AtK.keep (s : KeepB B H H') (i : ∀ a, B' a → B a ∨ H a = none) : ∀ {x : List (Key × V)} {t : List (Key × T)}, AtK B H x t → AtK B' H' x t
  | _, _, .nil => .nil
  | _, _, .cons h r => .cons (At.keep s i h) (AtK.keep s i r)
end
theorem At.same {x : V} {t : T} (s : Same H H') (h : At B H x t) : At B H' x t := h.keep (fun a o _ e => s a o e) fun _ q => .inl q
theorem AtL.same {x : List V} {t : List T} (s : Same H H') (h : AtL B H x t) : AtL B H' x t := h.keep (fun a o _ e => s a o e) fun _ q => .inl q
theorem AtK.same {x : List (Key × V)} {t : List (Key × T)} (s : Same H H') (h : AtK B H x t) : AtK B H' x t := h.keep (fun a o _ e => s a o e) fun _ q => .inl q
theorem At.but {b : Addr} {x : V} {t : T} (s : Keep b H H') (h : At (· = b) H x t) : At (· = b) H' x t := h.keep (fun a o n e => s a o n e) fun _ q => .inl q
theorem AtL.but {b : Addr} {x : List V} {t : List T} (s : Keep b H H') (h : AtL (· = b) H x t) : AtL (· = b) H' x t := h.keep (fun a o n e => s a o n e) fun _ q => .inl q
theorem AtK.but {b : Addr} {x : List (Key × V)} {t : List (Key × T)} (s : Keep b H H') (h : AtK (· = b) H x t) : AtK (· = b) H' x t := h.keep (fun a o n e => s a o n e) fun _ q => .inl q
theorem AtL.length : ∀ {xs : List V} {ts : List T}, AtL B H xs ts → xs.length = ts.length
  | _, _, .nil => rfl
  | _, _, .cons _ r => by simp [r.length]
theorem AtK.length : ∀ {xs : List (Key × V)} {ts : List (Key × T)}, AtK B H xs ts → xs.length = ts.length
  | _, _, .nil => rfl
  | _, _, .cons _ r => by simp [r.length]
theorem AtL.get : ∀ {xs : List V} {ts : List T} {i : Nat} {x : V}, AtL B H xs ts → xs[i]? = some x → ∃ t, ts[i]? = some t ∧ At B H x t
  | _, _, _, _, .nil, e => by simp at e
  | _, _, 0, _, .cons h _, e => by simp at e; subst e; exact ⟨_, rfl, h⟩
  | _, _, i + 1, x, .cons _ r, e => by
    obtain ⟨t, h1, h2⟩ := AtL.get (i := i) (x := x) r (by simpa using e)
    exact ⟨t, by simpa using h1, h2⟩
theorem AtL.append : ∀ {xs ys : List V} {ts us : List T}, AtL B H xs ts → AtL B H ys us → AtL B H (xs ++ ys) (ts ++ us)
  | _, _, _, _, .nil, s => s
  | _, _, _, _, .cons h r, s => .cons h (r.append s)
theorem AtK.vals : ∀ {xs : List (Key × V)} {ts : List (Key × T)}, AtK B H xs ts → AtL B H (xs.map (·.2)) (ts.map (·.2))
  | _, _, .nil => .nil
  | _, _, .cons h r => .cons h r.vals
theorem AtK.keys : ∀ {xs : List (Key × V)} {ts : List (Key × T)}, AtK B H xs ts → xs.map (·.1) = ts.map (·.1)
  | _, _, .nil => rfl
  | _, _, .cons h r => by simp [r.keys]
end
/-! ### as the library's data -/
def kD : Key → PyData
  | .inl i => .int i
  | .inr x => .str x
mutual
def T.toD : T → PyData
  | .non => .none
  | .bl b => .bool b
  | .int i => .int i
  | .str z => .str z
  | .lst xs => .list (T.toDs xs)
  | .tup xs => .tuple (T.toDs xs)
  | .dct kvs => .dict (T.toDk kvs)
def T.toDs : List T → List PyData
  | [] => []
  | t :: r => t.toD :: T.toDs r
def T.toDk : List (Key × T) → List (PyData × PyData)
  | [] => []
  | (k, t) :: r => (kD k, t.toD) :: T.toDk r
end
section
variable {X : Cx} {pins : List (Addr × Obj)} {σ : L2.St} {H : Hp} {s : Shared} {B : Addr → Prop}
theorem sys_ne {o : Obj} (I : Inv X pins σ H s) (hk : X.K.lookup sysModules = some o) {a : Addr} {u : HO} (e : H a = some u) : a ≠ sysModules := by
  rintro rfl
  have h1 : H sysModules = none := (I.env0.bs _ o (I.ok.mod.kin _ _ hk)).2
  rw [h1] at e
  cases e
theorem reads_key {h : Heap} {k : Key} {v : Value} (e : keyIs k v = true) : Reads h v (kD k) [] := by
  rcases keyIs_shape e with ⟨i, t, rfl, rfl⟩ | ⟨x, t, rfl, rfl⟩
  · exact .int i t
  · exact .str x t
theorem reads_keys {P : Program} {w : World} {h : Heap} : ∀ {es : List DictEntry} {vs : List (Key × Value)} {kvs : List (Key × V)} {ts : List (Key × T)}, Pairs (mixKind P w) es vs → KV kvs vs → AtK B H kvs ts →
    ReadsAll h (es.map (·.key)) ((T.toDk ts).map (·.1)) [] ∧ Vals (kvs.map (·.2)) (es.map (·.val)) ∧ (T.toDk ts).map (·.2) = T.toDs (ts.map (·.2))
  | _, _, _, _, .nil, r, h => by
    cases r; cases h
    exact ⟨.nil, .nil, rfl⟩
  | _, _, _, _, .cons e1 e2 p, r, h => by
    cases r with
    | cons r1 r2 =>
      cases h with
      | cons h1 h2 =>
        obtain ⟨q1, q2, q3⟩ := reads_keys p r2 h2
        obtain ⟨ek, ev⟩ := r1
        refine ⟨ReadsAll.cons (as := []) (bs := []) (reads_key ?_) q1, .cons ?_ q2, ?_⟩
        · exact (by rw [← ek] at e1; exact e1)
        · dsimp only
          rw [e2]
          exact ev
        · show _ :: _ = _ :: _
          rw [q3]
mutual
theorem At.reads {o : Obj} (I : Inv X pins σ H s) (hk : X.K.lookup sysModules = some o) : ∀ {x : V} {t : T} {u : Value}, At B H x t → RelV x u → ∃ as, Reads s.heap u t.toD as ∧ sysModules ∉ as
  | _, _, _, .non, r => by cases r; exact ⟨_, Reads.none, by simp⟩
  | _, _, _, .bl b, r => by cases r; exact ⟨_, Reads.bool b, by simp⟩
  | _, _, _, .int i, r => by obtain ⟨t, rfl⟩ := r; exact ⟨_, Reads.int i t, by simp⟩
  | _, _, _, .str z, r => by obtain ⟨t, rfl⟩ := r; exact ⟨_, Reads.str z t, by simp⟩
  | _, _, _, .lst n e h, r => by
    cases r
    have ne := sys_ne I hk e
    obtain ⟨_, its, m, rv, ho⟩ := I.hok _ _ e
    obtain ⟨as, q, nm⟩ := AtL.reads I hk h rv
    exact ⟨_, Reads.list ho rfl rfl (by simpa using q), by simp [ne.symm, nm]⟩
  | _, _, _, .tup n e h, r => by
    cases r
    obtain ⟨_, its, rv, ob, ho, hc, m, hd⟩ := I.hok _ _ e
    obtain ⟨as, q, nm⟩ := AtL.reads I hk h rv
    exact ⟨_, Reads.tuple ho hc hd (by simpa using q), nm⟩
  | _, _, _, .dct n e h, r => by
    cases r
    have ne := sys_ne I hk e
    obtain ⟨_, _, vs, kv, ob, es, ep, ho, hc, hd, _, hp, _⟩ := I.hok _ _ e
    obtain ⟨q1, q2, q3⟩ := reads_keys (h := s.heap) hp kv h
    obtain ⟨bs, q, nm⟩ := AtK.reads I hk h q2
    exact ⟨_, Reads.dict ho hc.1 hd q1 (by rw [q3]; exact q), by simp [ne.symm, nm]⟩
theorem AtL.reads {o : Obj} (I : Inv X pins σ H s) (hk : X.K.lookup sysModules = some o) : ∀ {xs : List V} {ts : List T} {us : List Value}, AtL B H xs ts → Vals xs us → ∃ as, ReadsAll s.heap us (T.toDs ts) as ∧ sysModules ∉ as
  | _, _, _, .nil, r => by cases r; exact ⟨_, ReadsAll.nil, by simp⟩
  | _, _, _, .cons h t, r => by
    cases r with
    | cons r1 r2 =>
      obtain ⟨as, q1, n1⟩ := At.reads I hk h r1
      obtain ⟨bs, q2, n2⟩ := AtL.reads I hk t r2
      exact ⟨_, ReadsAll.cons q1 q2, by simp [n1, n2]⟩
theorem AtK.reads {o : Obj} (I : Inv X pins σ H s) (hk : X.K.lookup sysModules = some o) : ∀ {xs : List (Key × V)} {ts : List (Key × T)} {us : List Value}, AtK B H xs ts → Vals (xs.map (·.2)) us → ∃ as, ReadsAll s.heap us (T.toDs (ts.map (·.2))) as ∧ sysModules ∉ as
  | _, _, _, .nil, r => by cases r; exact ⟨_, ReadsAll.nil, by simp⟩
  | _, _, _, .cons h t, r => by
    cases r with
    | cons r1 r2 =>
      obtain ⟨as, q1, n1⟩ := At.reads I hk h r1
      obtain ⟨bs, q2, n2⟩ := AtK.reads I hk t r2
      exact ⟨_, ReadsAll.cons q1 q2, by simp [n1, n2]⟩
end
/-! ### repr -/
def T.text (t : T) : Str := t.toD.shown
/-- it may be written by repr -/
structure Shows (t : T) : Prop where
  able : t.toD.showable = true
  deep : t.toD.depth ≤ 40
  size : t.text.length ≤ 16000000
def rReprU : List V → Hp → VK → Prop := fun xs H Q => ∃ (x : V) (B : Addr → Prop) (t : T), xs = [x] ∧ At B H x t ∧ Shows t ∧ Q (.str t.text) H
theorem call_reprU {k : Nat} {o : Obj} (g : RoomG k X.A) (hk : X.K.lookup sysModules = some o) : CallR X (.builtin "repr") rReprU := by
  intro pins s σ H xs us Q I r h
  obtain ⟨x, B, t, rfl, ht, ok, q⟩ := h
  obtain ⟨u, rfl, ru⟩ := vals1 r
  have hz : t.toD.shown.length ≤ sizeLine := Nat.le_trans ok.size (by decide)
  have hu := g.units
  cases ht with
  | non => cases ru; exact PySem.P.repr_of_none ⟨.str _, H, I.tok _, ⟨_, rfl⟩, q⟩
  | bl b => cases ru; exact PySem.P.repr_of_bool ⟨.str _, H, I.tok _, ⟨_, rfl⟩, q⟩
  | int i =>
    obtain ⟨tk, rfl⟩ := ru
    exact PySem.P.repr_of_int (of_decide_eq_true ok.able) ⟨.str _, H, I.tok _, ⟨_, rfl⟩, q⟩
  | str z =>
    obtain ⟨tk, rfl⟩ := ru
    exact PySem.P.repr_of_str ⟨.str _, H, I.tok _, ⟨_, rfl⟩, q⟩ hz
  | @lst a ys ts n e h =>
    cases ru
    obtain ⟨as, rd, nm⟩ := At.reads (u := .ref a) I hk (At.lst n e h) rfl
    exact repr_of_reads' rd ok.able (fun _ => nm) g.free (by have := ok.deep; omega) (fun _ _ e => e) (fun h' u tk kp => ⟨.str _, H, I.kept kp, ⟨_, rfl⟩, q⟩) hz
  | @tup a ys ts n e h =>
    cases ru
    obtain ⟨as, rd, nm⟩ := At.reads (u := .ref a) I hk (At.tup n e h) rfl
    exact repr_of_reads' rd ok.able (fun _ => nm) g.free (by have := ok.deep; omega) (fun _ _ e => e) (fun h' u tk kp => ⟨.str _, H, I.kept kp, ⟨_, rfl⟩, q⟩) hz
  | @dct a ys ts n e h =>
    cases ru
    obtain ⟨as, rd, nm⟩ := At.reads (u := .ref a) I hk (At.dct n e h) rfl
    exact repr_of_reads' rd ok.able (fun _ => nm) g.free (by have := ok.deep; omega) (fun _ _ e => e) (fun h' u tk kp => ⟨.str _, H, I.kept kp, ⟨_, rfl⟩, q⟩) hz
end
end Hk

namespace Hk
open PySem PySem.Spec PyProof.Rows L2 He
/-! ### list(d.values()) -/
theorem lt1 {a b : Nat} (h : a + 64 < b) : a + 1 < b := by omega
theorem vals_of_ix : ∀ {kvs : List (Key × V)} {vs : List (Key × Value)} {us : List Value}, KV kvs vs → us.length = vs.length → (∀ (j : Nat) v, us[j]? = some v → ∃ k, vs[j]? = some (k, v)) → Vals (kvs.map (·.2)) us
  | [], [], us, _, hl, _ => by
    cases us with
    | nil => exact .nil
    | cons _ _ => cases hl
  | [], _ :: _, _, h, _, _ => by cases h
  | _ :: _, [], _, h, _, _ => by cases h
  | p :: kvs, q :: vs, us, h, hl, hj => by
    cases us with
    | nil => cases hl
    | cons u us =>
      cases h with
      | cons h1 h2 =>
        obtain ⟨k, e⟩ := hj 0 u rfl
        have e' : q = (k, u) := Option.some.inj e
        refine .cons ?_ (vals_of_ix h2 (Nat.succ.inj hl) fun j v z => hj (j + 1) v z)
        have z := h1.2
        rw [e'] at z
        exact z
def tListVals (te : TE) : TE := fun σ H Q => te σ H fun x H1 => ∃ (d : Addr) (kvs : List (Key × V)), x = .ref d ∧ Rd H1 d (.dK kvs) ∧ ∀ p, H1 p = none → Q (.ref p) (upd H1 p (.lst (kvs.map (·.2))))
section
variable {X : Cx} {e : Expr} {te : TE} {p apos cpos pos : Pos}
theorem pe_listVals (hc : X.calm = true) (he : PE X e te) (hg : Gl X "list") (hm : X.mg "list" = none) (hv : bootBuiltins "list" = some (.type "list")) (hbase : attributeBase e "values" X.env (eval e X.env) = eval e X.env := by rfl)
    (hline : (apos.endLine == cpos.line) = true := by rfl)
    (hs : starEach [.Call (.Attribute e "values" apos) [] [] cpos] X.env = (false, eval (.Call (.Attribute e "values" apos) [] [] cpos) X.env) :: starEach [] X.env := by rfl) :
    PE X (.Call (.Name "list" p) [.Call (.Attribute e "values" apos) [] [] cpos] [] pos) (tListVals te) := by
  refine ⟨fun pins s σ H Q I hq => ?_⟩
  refine wpAny_Call_Name_kw (ld_blt I hg hm hv (PyProof.Rows.callWith_type1 ?_ hs rfl))
  rw [hs]
  show wpAny _ _ (spliced ((false, eval (.Call (.Attribute e "values" apos) [] [] cpos) X.env) :: backTo pos (starEach [] X.env))) _ _ s
  refine Calls.spliced_cons (wpAny_Call_method (T := "dict") (id := "dict.values") hbase rfl hline F.plainAttrs_dict F.slot_dict_values F.type_dict_values (thn (he.run pins s σ H _ I hq) fun u s1 ⟨x, H1, I1, rx, d, kvs, ex, hd, q⟩ => ?_))
  subst ex
  obtain rfl : u = Value.ref d := rx
  obtain ⟨hz, hs0, vs, kv, hdo⟩ := hd.ok I1.hok
  obtain ⟨ep, hat⟩ := hdo.dictAt
  have lk : kvs.length = vs.length := Paired.length kv
  have I2 : Inv X pins σ H1 { s1 with heap := s1.heap.push { cls := .type "dict_values", data := .fields #[.ref d] } } := I1.kept (t' := s1.toks) fun b ob q => Heap.get?_push_of_some _ q
  refine ⟨hdo.typeIs, hdo.mapOf.noDict, ?_⟩
  show wpAny _ _ (callWith cpos (.builtin "dict.values") [.ref d] [] []) _ X.xe s1
  refine method_meetsIn F.slot_dict_values F.entry_dict_values rfl (PySem.evalArgs_none ⟨rfl, hdo.typeIs, F.args_dict_values_1 _, _, meets_dict_values (mixKind X.prog X.w) d hs0, ⟨vs, hdo⟩, Calls.spliced_nil ?_⟩)
  refine PySem.W.kdl_call (PySem.W.kdl_values (knd := mixKind X.prog X.w) (kvs := vs) (ep := ep)) (I1.ok.hd hc) ⟨⟨_, Heap.get?_push_size _ rfl, rfl, rfl⟩, hat.push _⟩ (by omega) fun h' tk acc c' hk hD hacc => ?_
  have hw : Vals (kvs.map (·.2)) acc.toList := vals_of_ix kv (by rw [Array.length_toList]; exact hacc.1) fun j v z => hacc.2 j v (by rw [← Array.getElem?_toList]; exact z)
  have fresh := I2.hok.fresh (Nat.le_refl _)
  refine ⟨.ref _, _, I2.laid (t' := tk) hk (Nat.le_refl _) (show ObjOk X.prog X.w _ _ _ (.lst (kvs.map (·.2))) from ⟨by rw [List.length_map]; exact hz, acc.toList, c', hw, by rw [Array.toArray_toList]; exact hD⟩), rfl, q _ fresh⟩
end

/-! ### a text times a number -/
section
variable {X : Cx}
def rRepS : R2 := fun x y H Q => ∃ (z : Str) (k : Int), x = .str z ∧ y = .int k ∧ k < 1000 ∧ -1000 < k ∧ z.length ≤ 1000 ∧ Q (.str (Txt.mul z k)) H
theorem mulOk_small {z : Str} {k : Int} (h1 : k < 1000) (h2 : -1000 < k) (h3 : z.length ≤ 1000) : MulOk z k := by
  refine ⟨?_, fun hk _ => ?_, fun hk _ => ?_⟩
  · rw [Bool.or_eq_false_iff]
    exact ⟨decide_eq_false (by omega), decide_eq_false (by omega)⟩
  · have e : (2 ^ 63 - 1 : Int) / k ≥ 1000 := by
      have h0 : (0 : Int) < k := by omega
      exact (Int.le_ediv_iff_mul_le h0).mpr (by have : 1000 * k ≤ 1000 * 1000 := by omega
                                                omega)
    omega
  · have q : z.length * k.toNat ≤ 1000 * 1000 := Nat.mul_le_mul h3 (by omega)
    have zz := sizeLine_eq
    exact decide_eq_false (p := z.length * k.toNat > sizeLine) (by omega)
theorem op_repS : OpR X (binaryOp .Mult) rRepS := by
  intro pins s σ H x y v u Q I rx ry h
  obtain ⟨z, k, rfl, rfl, h1, h2, h3, q⟩ := h
  obtain ⟨t, rfl⟩ := rx
  obtain ⟨t', rfl⟩ := ry
  exact SB.mul (mulOk_small h1 h2 h3) fun t' k' => ⟨.str (Txt.mul z k), H, I.tok _, ⟨_, rfl⟩, q⟩
def rMulX (K : PySem.W.Frag) : R2 := fun x y H Q => rMul K x y H Q ∨ rRepS x y H Q
theorem oMulX : OpR X (binaryOp .Mult) (rMulX X.K) := OpR.or oMul op_repS
/-! ### xs != [], d != {} -/
def rNeE : R2 := fun x y H Q => (∃ a b xs, x = .ref a ∧ y = .ref b ∧ H a = some (.lst xs) ∧ H b = some (.lst []) ∧ Q (.bl (!xs.isEmpty)) H) ∨
  ∃ a b kvs, x = .ref a ∧ y = .ref b ∧ Rd H a (.dK kvs) ∧ Rd H b (.dK []) ∧ Q (.bl (!kvs.isEmpty)) H
theorem op_neE (hu : X.A.units + 64 < cLine) : OpR X (compareOp .NotEq) rNeE := by
  intro pins s σ H x y v u Q I rx ry h
  rcases h with ⟨a, b, xs, rfl, rfl, ha, hb, q⟩ | ⟨a, b, kvs, rfl, rfl, ha, hb, q⟩
  · cases rx
    cases ry
    obtain ⟨_, its, n, r, hl, e⟩ := I.lstM ha
    obtain ⟨_, its2, n2, r2, hl2, e2⟩ := I.lstM hb
    cases its2 with
    | cons _ _ => cases hl2
    | nil =>
      have la : s.heap.IsList a its.toArray := PySem.IsL.isList e
      have lb : s.heap.IsList b (#[] : Array Value) := PySem.IsL.isList e2
      cases xs with
      | nil =>
        cases its with
        | cons _ _ => cases hl
        | nil => exact SeqAt.RcNeAt.lists (e := fun _ => true) la lb rfl (by omega) (fun j h1 _ => absurd h1 (Nat.not_lt_zero _)) X.prog X.w _ _ ⟨.bl false, H, I, rfl, q⟩
      | cons x xs =>
        refine SeqAt.RcNeAt.lists_lengths la lb ?_ (by omega) X.prog X.w _ _ ⟨.bl true, H, I, rfl, q⟩
        rw [List.size_toArray, ← hl]
        rfl
  · cases rx
    cases ry
    obtain ⟨_, lo, vs, rel, dd⟩ := ha.ok I.hok
    obtain ⟨_, lo2, vs2, rel2, dd2⟩ := hb.ok I.hok
    have e1 : kvs.length = vs.length := Paired.length rel
    have e2 : 0 = vs2.length := Paired.length rel2
    cases vs2 with
    | cons _ _ => cases e2
    | nil =>
      cases kvs with
      | nil =>
        cases vs with
        | cons _ _ => cases e1
        | nil => exact PySem.W.keq_ne (r := true) lo lo2 dd dd2 (by omega) (fun _ => .nil) ⟨.bl false, H, I, rfl, q⟩
      | cons p kvs =>
        cases vs with
        | nil => cases e1
        | cons p' vs => exact PySem.W.keq_ne (r := true) lo lo2 dd dd2 (by omega) (fun z => by cases z) ⟨.bl true, H, I, rfl, q⟩
def rNeX (K : PySem.W.Frag) : R2 := fun x y H Q => rNeU K x y H Q ∨ rNeE x y H Q
theorem oNeX (hu : X.A.units + 64 < cLine) : OpR X (compareOp .NotEq) (rNeX X.K) := OpR.or (oNe hu) (op_neE hu)
/-! ### names of calls -/
def rListD : List V → Hp → VK → Prop := fun xs H Q => ∃ (a : Addr) (kvs : List (Key × V)), xs = [.ref a] ∧ Rd H a (.dK kvs) ∧ ∀ p, H p = none → Q (.ref p) (upd H p (.lst (kvs.map fun kv => kV kv.1)))
def rDictD : List V → Hp → VK → Prop := fun xs H Q => ∃ (a : Addr) (kvs : List (Key × V)), xs = [.ref a] ∧ Rd H a (.dK kvs) ∧ ∀ p, H p = none → Q (.ref p) (upd H p (.dK kvs))
def rDictP (K : PySem.W.Frag) : List V → Hp → VK → Prop := fun xs H Q => ∃ (a : Addr) (ps : List Addr) (kvs : List (Key × V)), xs = [.ref a] ∧ SqL K H a (ps.map V.ref) ∧ Paired (fun p kv => SqT K H p [kV kv.1, kv.2]) ps kvs ∧ ∀ p, H p = none → Q (.ref p) (upd H p (.dK (mergeK [] kvs)))
def rDictU (K : PySem.W.Frag) : List V → Hp → VK → Prop := fun xs H Q => rDictD xs H Q ∨ rDictP K xs H Q
theorem call_dictU (hc : X.calm = true) : CallR X (.type "dict") (rDictU X.K) := CallR.or call_dictD (call_dictP hc)
def rTupleU (K : PySem.W.Frag) : List V → Hp → VK → Prop := fun xs H Q => ∃ p ys, xs = [.ref p] ∧ ((SqL K H p ys ∧ ∀ l, H l = none → Q (.ref l) (upd H l (.tup ys))) ∨ (SqT K H p ys ∧ Q (.ref p) H))
def rIsN : R2 := fun x y H Q => y = .non ∧ Q (.bl (decide (x = .non))) H
def rInt1 : List V → Hp → VK → Prop := fun xs H Q => (∃ i, xs = [.int i] ∧ Q (.int i) H) ∨ ∃ k, xs = [.bl k] ∧ Q (.int (if k then 1 else 0)) H
end
end Hk

namespace Hk
open PySem PySem.Spec PyProof.Rows L2 He
/-! ### == and != of data, and against what is empty -/
section
variable {X : Cx}
mutual
theorem dp_plain {K : PySem.W.Frag} {H : Hp} : ∀ {v : V} {d : PyData}, Dp K H v d → d.plain = true
  | _, _, .non => rfl
  | _, _, .bl _ => rfl
  | _, _, .int _ => rfl
  | _, _, .str _ => rfl
  | _, _, .lst _ h => dpAll_plain h
  | _, _, .tup _ h => dpAll_plain h
theorem dpAll_plain {K : PySem.W.Frag} {H : Hp} : ∀ {v : List V} {d : List PyData}, DpAll K H v d → PyData.plainAll d = true
  | _, _, .nil => rfl
  | _, _, .cons (d := d) (ds := ds) h r => by
    show (d.plain && PyData.plainAll ds) = true
    rw [dp_plain h, dpAll_plain r]; rfl
end
def rEqP (K : PySem.W.Frag) : R2 := fun x y H Q => ∃ d e, Dp K H x d ∧ Dp K H y e ∧ d.depth ≤ 64 ∧ Q (.bl (PyData.eqv d e)) H
def rNeP (K : PySem.W.Frag) : R2 := fun x y H Q => ∃ d e, Dp K H x d ∧ Dp K H y e ∧ d.depth ≤ 64 ∧ Q (.bl (!PyData.eqv d e)) H
theorem op_eqP (hu : X.A.units + 64 < cLine) : OpR X (compareOp .Eq) (rEqP X.K) := by
  intro pins s σ H x y v u Q I rx ry h
  obtain ⟨d, e, hd, he, hdp, q⟩ := h
  obtain ⟨as, r1⟩ := Dp.reads I d x v hd rx
  obtain ⟨bs, r2⟩ := Dp.reads I e y u he ry
  exact SeqAt.eq_plain r1 r2 (dp_plain hd) (dp_plain he) (by have := Nat.min_le_left d.depth e.depth; omega) ⟨.bl _, H, I, rfl, q⟩
theorem op_neP (hu : X.A.units + 64 < cLine) : OpR X (compareOp .NotEq) (rNeP X.K) := by
  intro pins s σ H x y v u Q I rx ry h
  obtain ⟨d, e, hd, he, hdp, q⟩ := h
  obtain ⟨as, r1⟩ := Dp.reads I d x v hd rx
  obtain ⟨bs, r2⟩ := Dp.reads I e y u he ry
  exact SeqAt.ne_plain r1 r2 (dp_plain hd) (dp_plain he) (by have := Nat.min_le_left d.depth e.depth; omega) ⟨.bl _, H, I, rfl, q⟩
/-- xs == [], d == {}, t == () -/
def rEqE (K : PySem.W.Frag) : R2 := fun x y H Q => (∃ a b xs, x = .ref a ∧ y = .ref b ∧ H a = some (.lst xs) ∧ H b = some (.lst []) ∧ Q (.bl xs.isEmpty) H) ∨
  (∃ a b kvs, x = .ref a ∧ y = .ref b ∧ Rd H a (.dK kvs) ∧ Rd H b (.dK []) ∧ Q (.bl kvs.isEmpty) H) ∨ ∃ a b xs, x = .ref a ∧ y = .ref b ∧ SqT K H a xs ∧ SqT K H b [] ∧ Q (.bl xs.isEmpty) H
def rNeE3 (K : PySem.W.Frag) : R2 := fun x y H Q => ∃ a b xs, x = .ref a ∧ y = .ref b ∧ SqT K H a xs ∧ SqT K H b [] ∧ Q (.bl (!xs.isEmpty)) H
theorem op_eqE (hu : X.A.units + 64 < cLine) : OpR X (compareOp .Eq) (rEqE X.K) := by
  intro pins s σ H x y v u Q I rx ry h
  rcases h with ⟨a, b, xs, rfl, rfl, ha, hb, q⟩ | ⟨a, b, kvs, rfl, rfl, ha, hb, q⟩ | ⟨a, b, xs, rfl, rfl, ha, hb, q⟩
  · cases rx
    cases ry
    obtain ⟨_, its, n, r, hl, e⟩ := I.lstM ha
    obtain ⟨_, its2, n2, r2, hl2, e2⟩ := I.lstM hb
    cases its2 with
    | cons _ _ => cases hl2
    | nil =>
      have la : s.heap.IsList a its.toArray := PySem.IsL.isList e
      have lb : s.heap.IsList b (#[] : Array Value) := PySem.IsL.isList e2
      cases xs with
      | nil =>
        cases its with
        | cons _ _ => cases hl
        | nil => exact SeqAt.RcAt.lists (e := fun _ => true) la lb rfl (by omega) (fun j h1 _ => absurd h1 (Nat.not_lt_zero _)) X.prog X.w _ _ ⟨.bl true, H, I, rfl, q⟩
      | cons x xs =>
        refine SeqAt.RcAt.lists_lengths la lb ?_ (by omega) X.prog X.w _ _ ⟨.bl false, H, I, rfl, q⟩
        rw [List.size_toArray, ← hl]
        rfl
  · cases rx
    cases ry
    obtain ⟨_, lo, vs, rel, dd⟩ := ha.ok I.hok
    obtain ⟨_, lo2, vs2, rel2, dd2⟩ := hb.ok I.hok
    have e1 : kvs.length = vs.length := Paired.length rel
    have e2 : 0 = vs2.length := Paired.length rel2
    cases vs2 with
    | cons _ _ => cases e2
    | nil =>
      cases kvs with
      | nil =>
        cases vs with
        | cons _ _ => cases e1
        | nil => exact PySem.W.keq_eq (r := true) lo lo2 dd dd2 (by omega) (fun _ => .nil) ⟨.bl true, H, I, rfl, q⟩
      | cons p kvs =>
        cases vs with
        | nil => cases e1
        | cons p' vs => exact PySem.W.keq_eq (r := true) lo lo2 dd dd2 (by omega) (fun z => by cases z) ⟨.bl false, H, I, rfl, q⟩
  · cases rx
    cases ry
    obtain ⟨its, r1, p1, _⟩ := I.tuple ha
    obtain ⟨its2, r2, p2, _⟩ := I.tuple hb
    cases r2
    refine SeqAt.RcAt.tuples (e := fun _ => true) p1 p2 (by omega) (fun j h1 h2 => absurd h2 (Nat.not_lt_zero _)) X.prog X.w _ _ ?_
    have w : ((List.range (min its.toArray.size ([] : List Value).toArray.size)).all (fun _ => true) && its.toArray.size == ([] : List Value).toArray.size) = xs.isEmpty := by
      cases r1 <;> simp
    rw [w]
    exact ⟨.bl _, H, I, rfl, q⟩
theorem op_neE3 (hu : X.A.units + 64 < cLine) : OpR X (compareOp .NotEq) (rNeE3 X.K) := by
  intro pins s σ H x y v u Q I rx ry h
  obtain ⟨a, b, xs, rfl, rfl, ha, hb, q⟩ := h
  cases rx
  cases ry
  obtain ⟨its, r1, p1, _⟩ := I.tuple ha
  obtain ⟨its2, r2, p2, _⟩ := I.tuple hb
  cases r2
  refine SeqAt.RcNeAt.tuples (e := fun _ => true) p1 p2 (by omega) (fun j h1 h2 => absurd h2 (Nat.not_lt_zero _)) X.prog X.w _ _ ?_
  have w : (!((List.range (min its.toArray.size ([] : List Value).toArray.size)).all (fun _ => true) && its.toArray.size == ([] : List Value).toArray.size)) = !xs.isEmpty := by
    cases r1 <;> simp
  rw [w]
  exact ⟨.bl _, H, I, rfl, q⟩
def rEqY (K : PySem.W.Frag) : R2 := fun x y H Q => rEq x y H Q ∨ rEqP K x y H Q ∨ rEqE K x y H Q
theorem oEqY (hu : X.A.units + 64 < cLine) : OpR X (compareOp .Eq) (rEqY X.K) := OpR.or op_eq (OpR.or (op_eqP hu) (op_eqE hu))
def rNeY (K : PySem.W.Frag) : R2 := fun x y H Q => rNe x y H Q ∨ rNeP K x y H Q ∨ rNeE x y H Q ∨ rNeE3 K x y H Q
theorem oNeY (hu : X.A.units + 64 < cLine) : OpR X (compareOp .NotEq) (rNeY X.K) := OpR.or op_ne (OpR.or (op_neP hu) (OpR.or (op_neE hu) (op_neE3 hu)))
def rNotN : R2 := fun x y H Q => y = .non ∧ Q (.bl (!decide (x = .non))) H
def rLenX (K : PySem.W.Frag) : List V → Hp → VK → Prop := fun xs H Q => rLenU K xs H Q ∨ ∃ a kvs, xs = [V.ref a] ∧ Rd H a (.dK kvs) ∧ Q (.int kvs.length) H
theorem call_lenX : CallR X (.builtin "len") (rLenX X.K) := CallR.or call_lenU (by
  intro pins s σ H xs us Q I r h
  obtain ⟨a, kvs, rfl, ha, q⟩ := h
  obtain ⟨u, rfl, ru⟩ := vals1 r
  cases ru
  exact d_len I ha fun t s' I' => ⟨.int kvs.length, H, I', ⟨t, rfl⟩, q⟩)
end
end Hk

namespace Pu
open PySem PySem.Spec PyProof.Rows L2 He Hk
/-! ### things as data, without the heap -/
inductive T where
  | non
  | bl (b : Bool)
  | int (i : Int)
  | str (z : Str)
  | lst (xs : List T)
  | tup (xs : List T)
  | dct (kvs : List (Key × T))
  | ty (n : String)
  | glo (a : Addr)
  | ins (C : Addr) (fs : List (Key × T))
  /-- the law's script -/
  | scr (ns : List Int)
def KL (K : PySem.W.Frag) (a : Addr) (xs : List V) : Prop := ∃ (o : Obj) (its : Array Value) (n : Nat), K.lookup a = some o ∧ o.cls = .type "list" ∧ o.dict = none ∧ o.data = .seq its n ∧ its.size ≤ sizeLine ∧ Vals xs its.toList
def KT (K : PySem.W.Frag) (a : Addr) (xs : List V) : Prop := ∃ (o : Obj) (its : Array Value) (n : Nat), K.lookup a = some o ∧ o.cls = .type "tuple" ∧ o.data = .seq its n ∧ its.size ≤ sizeLine ∧ Vals xs its.toList
def fK (fs : List (Str × V)) : List (Key × V) := fs.map fun p => (Sum.inr p.1, p.2)
/- x is the thing t in the heap H, made of no object in B -/
mutual
inductive At (K : PySem.W.Frag) (B : Addr → Prop) (H : Hp) : V → T → Prop where
  | non : At K B H .non .non
  | bl (b : Bool) : At K B H (.bl b) (.bl b)
  | int (i : Int) : At K B H (.int i) (.int i)
  | str (z : Str) : At K B H (.str z) (.str z)
  | ty (n : String) : At K B H (.ty n) (.ty n)
  | glo (a : Addr) : At K B H (.ref a) (.glo a)
  | scr {a : Addr} {ns : List Int} (n : ¬ B a) (e : Rd H a (.lst (ns.map V.int))) : At K B H (.ref a) (.scr ns)
  | scrK {a : Addr} {ns : List Int} (e : KL K a (ns.map V.int)) : At K B H (.ref a) (.scr ns)
  | lst {a : Addr} {xs : List V} {ts : List T} (n : ¬ B a) (e : H a = some (.lst xs)) (h : AtL K B H xs ts) : At K B H (.ref a) (.lst ts)
  | tup {a : Addr} {xs : List V} {ts : List T} (n : ¬ B a) (e : Rd H a (.tup xs)) (h : AtL K B H xs ts) : At K B H (.ref a) (.tup ts)
  | tupK {a : Addr} {xs : List V} {ts : List T} (e : KT K a xs) (h : AtL K B H xs ts) : At K B H (.ref a) (.tup ts)
  | dct {a : Addr} {kvs : List (Key × V)} {ts : List (Key × T)} (n : ¬ B a) (e : Rd H a (.dK kvs)) (h : AtK K B H kvs ts) : At K B H (.ref a) (.dct ts)
  | ins {a C dx : Addr} {fs : List (Str × V)} {ts : List (Key × T)} (n : ¬ B a) (e : H a = some (.ins C dx fs)) (h : AtK K B H (fK fs) ts) : At K B H (.ref a) (.ins C ts)
inductive AtL (K : PySem.W.Frag) (B : Addr → Prop) (H : Hp) : List V → List T → Prop where
  | nil : AtL K B H [] []
  | cons {x : V} {t : T} {xs : List V} {ts : List T} (h : At K B H x t) (r : AtL K B H xs ts) : AtL K B H (x :: xs) (t :: ts)
inductive AtK (K : PySem.W.Frag) (B : Addr → Prop) (H : Hp) : List (Key × V) → List (Key × T) → Prop where
  | nil : AtK K B H [] []
  | cons {k : Key} {x : V} {t : T} {xs : List (Key × V)} {ts : List (Key × T)} (h : At K B H x t) (r : AtK K B H xs ts) : AtK K B H ((k, x) :: xs) ((k, t) :: ts)
end
/-- what stands outside B is kept, B grows by new ones alone -/
structure StB (B : Addr → Prop) (H : Hp) (B' : Addr → Prop) (H' : Hp) : Prop where
  keep : ∀ a o, ¬ B a → H a = some o → H' a = some o
  more : ∀ a, B' a → B a ∨ H a = none
section
variable {K : PySem.W.Frag} {B B' : Addr → Prop} {H H' : Hp}
theorem StB.rd (s : StB B H B' H') {a : Addr} {u : HO} (n : ¬ B a) (r : Rd H a u) : Rd H' a u := by
  rcases r with r | ⟨o, r⟩
  · exact .inl (s.keep _ _ n r)
  · exact .inr ⟨o, s.keep _ _ n r⟩
theorem StB.nb (s : StB B H B' H') {a : Addr} {u : HO} (n : ¬ B a) (r : Rd H a u) : ¬ B' a := fun q => by
  rcases s.more a q with z | z
  · exact n z
  · rcases r with r | ⟨o, r⟩ <;> rw [z] at r <;> cases r
mutual
theorem At.keep (s : StB B H B' H') : ∀ {x : V} {t : T}, At K B H x t → At K B' H' x t
  | _, _, .non => .non
  | _, _, .bl b => .bl b
  | _, _, .int b => .int b
  | _, _, .str b => .str b
  | _, _, .ty b => .ty b
  | _, _, .glo b => .glo b
  | _, _, .lst n e h => .lst (s.nb n (.inl e)) (s.keep _ _ n e) (AtL.keep s h)
  | _, _, .scr n e => .scr (s.nb n e) (s.rd n e)
  | _, _, .scrK e => .scrK e
  | _, _, .tup n e h => .tup (s.nb n e) (s.rd n e) (AtL.keep s h)
  | _, _, .tupK e h => .tupK e (AtL.keep s h)
  | _, _, .dct n e h => .dct (s.nb n e) (s.rd n e) (AtK.keep s h)
  | _, _, .ins n e h => .ins (s.nb n (.inl e)) (s.keep _ _ n e) (AtK.keep s h)
theorem AtL.keep (s : StB B H B' H') : ∀ {x : List V} {t : List T}, AtL K B H x t → AtL K B' H' x t
  | _, _, .nil => .nil
  | _, _, .cons h r => .cons (At.keep s h) (AtL.keep s r)
theorem AtK.keep (s : StB B H B' H') : ∀ {x : List (Key × V)} {t : List (Key × T)}, AtK K B H x t → AtK K B' H' x t
  | _, _, .nil => .nil
  | _, _, .cons h r => .cons (At.keep s h) (AtK.keep s r)
end
/-- a lock, its end: what is read is read as before -/
structure RdB (H H' : Hp) : Prop where
  lst : ∀ a xs, H a = some (.lst xs) → H' a = some (.lst xs)
  ins : ∀ a C dx fs, H a = some (.ins C dx fs) → H' a = some (.ins C dx fs)
  tup : ∀ a xs, Rd H a (.tup xs) → Rd H' a (.tup xs)
  dct : ∀ a xs, Rd H a (.dK xs) → Rd H' a (.dK xs)
  scr : ∀ a xs, Rd H a (.lst xs) → Rd H' a (.lst xs)
mutual
theorem At.rd (s : RdB H H') : ∀ {x : V} {t : T}, At K B H x t → At K B H' x t
  | _, _, .non => .non
  | _, _, .bl b => .bl b
  | _, _, .int b => .int b
  | _, _, .str b => .str b
  | _, _, .ty b => .ty b
  | _, _, .glo b => .glo b
  | _, _, .scr n e => .scr n (s.scr _ _ e)
  | _, _, .scrK e => .scrK e
  | _, _, .lst n e h => .lst n (s.lst _ _ e) (AtL.rd s h)
  | _, _, .tup n e h => .tup n (s.tup _ _ e) (AtL.rd s h)
  | _, _, .tupK e h => .tupK e (AtL.rd s h)
  | _, _, .dct n e h => .dct n (s.dct _ _ e) (AtK.rd s h)
  | _, _, .ins n e h => .ins n (s.ins _ _ _ _ e) (AtK.rd s h)
theorem AtL.rd (s : RdB H H') : ∀ {x : List V} {t : List T}, AtL K B H x t → AtL K B H' x t
  | _, _, .nil => .nil
  | _, _, .cons h r => .cons (At.rd s h) (AtL.rd s r)
theorem AtK.rd (s : RdB H H') : ∀ {x : List (Key × V)} {t : List (Key × T)}, AtK K B H x t → AtK K B H' x t
  | _, _, .nil => .nil
  | _, _, .cons h r => .cons (At.rd s h) (AtK.rd s r)
end
theorem RdB.lock {d : Addr} {o : Obj} {kvs : List (Key × V)} (e : H d = some (.dK kvs)) : RdB H (upd H d (.frz o (.dK kvs))) := by
  have ne : ∀ a u, H a = some u → u ≠ .dK kvs → a ≠ d := fun a u h n z => by rw [z, e] at h; cases h; exact n rfl
  have rd : ∀ a u, Rd H a u → (∀ ks, u ≠ .dK ks) → Rd (upd H d (.frz o (.dK kvs))) a u := by
    rintro a u (h | ⟨q, h⟩) n
    · exact .inl (by rw [upd_ne (ne a _ h (n _))]; exact h)
    · exact .inr ⟨q, by rw [upd_ne (ne a _ h (fun z => nomatch z))]; exact h⟩
  refine ⟨fun a xs h => by rw [upd_ne (ne a _ h (fun z => nomatch z))]; exact h, fun a C dx fs h => by rw [upd_ne (ne a _ h (fun z => nomatch z))]; exact h, fun a xs h => rd a _ h (fun _ z => nomatch z), fun a xs h => ?_, fun a xs h => rd a _ h (fun _ z => nomatch z)⟩
  by_cases z : a = d
  · subst z
    rcases h with h | ⟨q, h⟩
    · rw [e] at h; cases h; exact .inr ⟨o, upd_same⟩
    · rw [e] at h; cases h
  · rcases h with h | ⟨q, h⟩
    · exact .inl (by rw [upd_ne z]; exact h)
    · exact .inr ⟨q, by rw [upd_ne z]; exact h⟩
theorem RdB.unlock {d : Addr} {o : Obj} {kvs : List (Key × V)} (e : H d = some (.frz o (.dK kvs))) : RdB H (upd H d (.dK kvs)) := by
  have ne : ∀ a u, H a = some u → u ≠ .frz o (.dK kvs) → a ≠ d := fun a u h n z => by rw [z, e] at h; cases h; exact n rfl
  have rd : ∀ a u, Rd H a u → (∀ ks, u ≠ .dK ks) → (∀ q v, u ≠ .frz q v) → Rd (upd H d (.dK kvs)) a u := by
    rintro a u (h | ⟨q, h⟩) n n2
    · exact .inl (by rw [upd_ne (ne a _ h (n2 _ _))]; exact h)
    · exact .inr ⟨q, by rw [upd_ne (ne a _ h (fun z => by cases z; exact n _ rfl))]; exact h⟩
  refine ⟨fun a xs h => by rw [upd_ne (ne a _ h (fun z => nomatch z))]; exact h, fun a C dx fs h => by rw [upd_ne (ne a _ h (fun z => nomatch z))]; exact h, fun a xs h => rd a _ h (fun _ z => nomatch z) (fun _ _ z => nomatch z), fun a xs h => ?_, fun a xs h => rd a _ h (fun _ z => nomatch z) (fun _ _ z => nomatch z)⟩
  by_cases z : a = d
  · subst z
    rcases h with h | ⟨q, h⟩
    · rw [e] at h; cases h
    · rw [e] at h; cases h; exact .inl upd_same
  · rcases h with h | ⟨q, h⟩
    · exact .inl (by rw [upd_ne z]; exact h)
    · exact .inr ⟨q, by rw [upd_ne z]; exact h⟩
theorem StB.same (s : Same H H') : StB B H B H' := ⟨fun a o _ e => s a o e, fun _ q => .inl q⟩
theorem StB.less (i : ∀ a, B' a → B a) : StB B H B' H := ⟨fun _ _ _ e => e, fun a q => .inl (i a q)⟩
theorem AtL.length : ∀ {xs : List V} {ts : List T}, AtL K B H xs ts → xs.length = ts.length
  | _, _, .nil => rfl
  | _, _, .cons _ r => by simp [r.length]
theorem AtK.length : ∀ {xs : List (Key × V)} {ts : List (Key × T)}, AtK K B H xs ts → xs.length = ts.length
  | _, _, .nil => rfl
  | _, _, .cons _ r => by simp [r.length]
theorem AtL.get : ∀ {xs : List V} {ts : List T} {i : Nat} {x : V}, AtL K B H xs ts → xs[i]? = some x → ∃ t, ts[i]? = some t ∧ At K B H x t
  | _, _, _, _, .nil, e => by simp at e
  | _, _, 0, _, .cons h _, e => by simp at e; subst e; exact ⟨_, rfl, h⟩
  | _, _, i + 1, x, .cons _ r, e => by
    obtain ⟨t, h1, h2⟩ := AtL.get (i := i) (x := x) r (by simpa using e)
    exact ⟨t, by simpa using h1, h2⟩
theorem AtL.get' : ∀ {xs : List V} {ts : List T} {i : Nat} {t : T}, AtL K B H xs ts → ts[i]? = some t → ∃ x, xs[i]? = some x ∧ At K B H x t
  | _, _, _, _, .nil, e => by simp at e
  | _, _, 0, _, .cons h _, e => by simp at e; subst e; exact ⟨_, rfl, h⟩
  | _, _, i + 1, x, .cons _ r, e => by
    obtain ⟨t, h1, h2⟩ := AtL.get' (i := i) (t := x) r (by simpa using e)
    exact ⟨t, by simpa using h1, h2⟩
theorem AtL.append : ∀ {xs ys : List V} {ts us : List T}, AtL K B H xs ts → AtL K B H ys us → AtL K B H (xs ++ ys) (ts ++ us)
  | _, _, _, _, .nil, s => s
  | _, _, _, _, .cons h r, s => .cons h (r.append s)
theorem AtL.set : ∀ {xs : List V} {ts : List T} {x : V} {t : T} (i : Nat), AtL K B H xs ts → At K B H x t → AtL K B H (xs.set i x) (ts.set i t)
  | _, _, _, _, _, .nil, _ => .nil
  | _, _, _, _, 0, .cons _ r, s => .cons s r
  | _, _, _, _, i + 1, .cons h r, s => .cons h (r.set i s)
theorem AtL.take : ∀ {xs : List V} {ts : List T} (n : Nat), AtL K B H xs ts → AtL K B H (xs.take n) (ts.take n)
  | _, _, 0, _ => .nil
  | _, _, _ + 1, .nil => .nil
  | _, _, n + 1, .cons h r => .cons h (r.take n)
theorem AtL.drop : ∀ {xs : List V} {ts : List T} (n : Nat), AtL K B H xs ts → AtL K B H (xs.drop n) (ts.drop n)
  | _, _, 0, h => h
  | _, _, _ + 1, .nil => .nil
  | _, _, n + 1, .cons _ r => r.drop n
theorem AtL.rep {xs : List V} {ts : List T} (h : AtL K B H xs ts) : ∀ n : Nat, AtL K B H (List.replicate n xs).flatten (List.replicate n ts).flatten
  | 0 => .nil
  | n + 1 => by rw [List.replicate_succ, List.replicate_succ, List.flatten_cons, List.flatten_cons]; exact h.append (h.rep n)
theorem AtK.vals : ∀ {xs : List (Key × V)} {ts : List (Key × T)}, AtK K B H xs ts → AtL K B H (xs.map (·.2)) (ts.map (·.2))
  | _, _, .nil => .nil
  | _, _, .cons h r => .cons h r.vals
theorem AtK.keys : ∀ {xs : List (Key × V)} {ts : List (Key × T)}, AtK K B H xs ts → xs.map (·.1) = ts.map (·.1)
  | _, _, .nil => rfl
  | _, _, .cons h r => by simp [r.keys]
end
/-! ### the slots -/
inductive Slot where
  | none
  | val (t : T)
  /-- an object of this def's own: it may be written -/
  | own (p : Addr) (t : T)
  /-- an object that the caller handed in to be written -/
  | ref (p : Addr) (t : T)
abbrev Env := List Slot
def Slot.root : Slot → Option Addr
  | .own p _ => some p
  | .ref p _ => some p
  | _ => Option.none
def Root (env : Env) (a : Addr) : Prop := ∃ (i : Nat) (s : Slot), env[i]? = some s ∧ s.root = some a
def Bd (O : Addr → Prop) (env : Env) : Addr → Prop := fun a => O a ∨ Root env a
/-- the object at p itself is t; it may be written -/
inductive Holds (K : PySem.W.Frag) (B : Addr → Prop) (H : Hp) (p : Addr) : T → Prop where
  | lst {xs : List V} {ts : List T} (e : H p = some (.lst xs)) (h : AtL K B H xs ts) : Holds K B H p (.lst ts)
  | dct {kvs : List (Key × V)} {ts : List (Key × T)} (e : H p = some (.dK kvs)) (h : AtK K B H kvs ts) : Holds K B H p (.dct ts)
  | ins {C dx : Addr} {fs : List (Str × V)} {ts : List (Key × T)} (e : H p = some (.ins C dx fs)) (h : AtK K B H (fK fs) ts) : Holds K B H p (.ins C ts)
def SlotOk (K : PySem.W.Frag) (B : Addr → Prop) (H : Hp) (o : Option V) : Slot → Prop
  | .none => True
  | .val t => ∃ v, o = some v ∧ At K B H v t
  | .own p t => o = some (.ref p) ∧ Holds K B H p t
  | .ref p t => o = some (.ref p) ∧ Holds K B H p t
structure Rel (K : PySem.W.Frag) (O : Addr → Prop) (H : Hp) (σ : L2.St) (env : Env) : Prop where
  len : σ.length = env.length
  slot : ∀ (i : Nat) (s : Slot), env[i]? = some s → SlotOk K (Bd O env) H (σ[i]?.getD Option.none) s
  one : ∀ (i j : Nat) (s u : Slot) (a : Addr), env[i]? = some s → env[j]? = some u → s.root = some a → u.root = some a → i = j
  out : ∀ a, O a → ¬ Root env a
  dom : ∀ a, O a → H a ≠ Option.none
/-- what a step may do -/
structure Stp (env : Env) (H : Hp) (env' : Env) (H' : Hp) : Prop where
  keep : ∀ a o, ¬ Root env a → H a = some o → H' a = some o
  more : ∀ a, Root env' a → Root env a ∨ H a = Option.none
  dom : ∀ a, H a ≠ Option.none → H' a ≠ Option.none
section
variable {K : PySem.W.Frag} {O B B' : Addr → Prop} {H H' H1 H2 : Hp} {env env' env1 env2 : Env} {σ : L2.St} {p : Addr} {v : V} {t : T}
theorem Stp.refl (env : Env) (H : Hp) : Stp env H env H := ⟨fun _ _ _ e => e, fun _ q => .inl q, fun _ q => q⟩
theorem Stp.trans (x : Stp env H env1 H1) (y : Stp env1 H1 env2 H2) : Stp env H env2 H2 := by
  refine ⟨fun a o n e => y.keep a o (fun q => ?_) (x.keep a o n e), fun a q => ?_, fun a q => y.dom a (x.dom a q)⟩
  · rcases x.more a q with z | z
    · exact n z
    · rw [z] at e; cases e
  · rcases y.more a q with z | z
    · exact x.more a z
    · refine .inr ?_
      cases h : H a with
      | none => rfl
      | some o => exact absurd z (x.dom a (by rw [h]; exact fun q => by cases q))
theorem Stp.same (s : Same H H') : Stp env H env H' := ⟨fun a o _ e => s a o e, fun _ q => .inl q, fun a q => by
  cases h : H a with
  | none => exact absurd h q
  | some o => rw [s a o h]; exact fun z => by cases z⟩
theorem Stp.stb (x : Stp env H env' H') : StB (Bd O env) H (Bd O env') H' := ⟨fun a o n e => x.keep a o (fun q => n (.inr q)) e, fun a q => by
  rcases q with q | q
  · exact .inl (.inl q)
  · rcases x.more a q with z | z
    · exact .inl (.inr z)
    · exact .inr z⟩
theorem Holds.keep (s : StB B H B' H') (hp : H' p = H p) (h : Holds K B H p t) : Holds K B' H' p t := by
  cases h with
  | lst e h => exact .lst (hp.trans e) (h.keep s)
  | dct e h => exact .dct (hp.trans e) (h.keep s)
  | ins e h => exact .ins (hp.trans e) (h.keep s)
theorem Holds.def (h : Holds K B H p t) : H p ≠ Option.none := by
  cases h with
  | lst e h => rw [e]; exact fun z => by cases z
  | dct e h => rw [e]; exact fun z => by cases z
  | ins e h => rw [e]; exact fun z => by cases z
theorem Holds.at (h : Holds K B H p t) (n : ¬ B' p) (i : ∀ a, B' a → B a) : At K B' H (.ref p) t := by
  cases h with
  | lst e h => exact .lst n e (h.keep (.less i))
  | dct e h => exact .dct n (.inl e) (h.keep (.less i))
  | ins e h => exact .ins n e (h.keep (.less i))
theorem SlotOk.root {o : Option V} {s : Slot} {a : Addr} (h : SlotOk K B H o s) (r : s.root = some a) : o = some (.ref a) ∧ ∃ t, Holds K B H a t := by
  cases s with
  | none => cases r
  | val t => cases r
  | own p t => cases r; exact ⟨h.1, t, h.2⟩
  | ref p t => cases r; exact ⟨h.1, t, h.2⟩
theorem Rel.bdom (R : Rel K O H σ env) {a : Addr} (h : Bd O env a) : H a ≠ Option.none := by
  rcases h with h | ⟨i, s, e, r⟩
  · exact R.dom a h
  · obtain ⟨_, t, q⟩ := (R.slot i s e).root r
    exact q.def
theorem Rel.fresh (R : Rel K O H σ env) {a : Addr} (h : H a = Option.none) : ¬ Bd O env a := fun q => R.bdom q h
theorem SlotOk.keep {o : Option V} {s : Slot} (st : StB B H B' H') (hp : ∀ a, s.root = some a → H' a = H a) (h : SlotOk K B H o s) : SlotOk K B' H' o s := by
  cases s with
  | none => trivial
  | val t => obtain ⟨v, e, h⟩ := h; exact ⟨v, e, h.keep st⟩
  | own p t => exact ⟨h.1, h.2.keep st (hp p rfl)⟩
  | ref p t => exact ⟨h.1, h.2.keep st (hp p rfl)⟩
/-- new objects alone -/
theorem Rel.same (R : Rel K O H σ env) (s : Same H H') : Rel K O H' σ env := by
  refine ⟨R.len, fun i u e => (R.slot i u e).keep (.same s) fun a r => ?_, R.one, R.out, fun a q => (Stp.same (env := env) s).dom a (R.dom a q)⟩
  obtain ⟨_, t, q⟩ := (R.slot i u e).root r
  cases h : H a with
  | none => exact absurd h q.def
  | some o => exact s a o h
/-- more is kept out -/
theorem Rel.also (R : Rel K O H σ env) {D : Addr} {H' : Hp} (hD : H D = Option.none) (s : Same H H') (hD' : H' D ≠ Option.none) : Rel K (fun a => O a ∨ a = D) H' σ env := by
  have R' := R.same s
  refine ⟨R.len, fun i u e => ?_, R.one, fun a q => ?_, fun a q => ?_⟩
  · refine (R.slot i u e).keep ⟨fun a o _ e => s a o e, fun a q => ?_⟩ fun a r => ?_
    · rcases q with (q | q) | q
      · exact .inl (.inl q)
      · exact .inr (q ▸ hD)
      · exact .inl (.inr q)
    · obtain ⟨_, t, q⟩ := (R.slot i u e).root r
      cases h : H a with
      | none => exact absurd h q.def
      | some o => exact s a o h
  · rcases q with q | q
    · exact R.out a q
    · exact fun z => R.bdom (.inr z) (q ▸ hD)
  · rcases q with q | q
    · exact R'.dom a q
    · exact q ▸ hD'
theorem Rel.less {O' : Addr → Prop} (R : Rel K O H σ env) (i : ∀ a, O' a → O a) : Rel K O' H σ env :=
  ⟨R.len, fun j u e => (R.slot j u e).keep (.less fun a q => q.elim (fun z => .inl (i a z)) .inr) fun _ _ => rfl, R.one, fun a q => R.out a (i a q), fun a q => R.dom a (i a q)⟩
/-! reading a slot -/
theorem Rel.var (R : Rel K O H σ env) {i : Nat} {s : Slot} (e : env[i]? = some s) {v : V} (h : σ[i]?.getD Option.none = some v) : σ[i]? = some (some v) := by
  cases q : σ[i]? with
  | none => rw [q] at h; cases h
  | some o => rw [q] at h; exact congrArg some h
end
end Pu

namespace Pu
open PySem PySem.Spec PyProof.Rows L2 He Hk
/-! ### readings without the heap -/
abbrev PE := Env → (T → Env → Prop) → Prop
abbrev PT := Env → (Bool → Env → Prop) → Prop
/-- an argument: a thing, or a name that is read when all are told -/
inductive Ar where
  | val (t : T)
  | var (i : Nat)
abbrev PA := Env → (List Ar → Env → Prop) → Prop
structure PD where
  nx : Env → Prop
  rt : T → Env → Prop
  bk : Env → Prop := fun _ => False
  ct : Env → Prop := fun _ => False
abbrev PS := PD → Env → Prop
/-- an expression's reading is that of pe -/
def RefE (K : PySem.W.Frag) (te : TE) (pe : PE) : Prop := ∀ (O : Addr → Prop) (H : Hp) (σ : L2.St) (env : Env) (P : T → Env → Prop) (Q : VK), Rel K O H σ env → pe env P →
  (∀ t env' v H', P t env' → Rel K O H' σ env' → Stp env H env' H' → At K (Bd O env') H' v t → Q v H') → te σ H Q
/-- .. and gives a new object -/
def RefF (K : PySem.W.Frag) (te : TE) (pe : PE) : Prop := ∀ (O : Addr → Prop) (H : Hp) (σ : L2.St) (env : Env) (P : T → Env → Prop) (Q : VK), Rel K O H σ env → pe env P →
  (∀ t env' p H', P t env' → Rel K (fun a => O a ∨ a = p) H' σ env' → Stp env H env' H' → H p = none → Holds K (Bd (fun a => O a ∨ a = p) env') H' p t → Q (.ref p) H') → te σ H Q
def RefT (K : PySem.W.Frag) (tt : TT) (pt : PT) : Prop := ∀ (O : Addr → Prop) (H : Hp) (σ : L2.St) (env : Env) (P : Bool → Env → Prop) (Q : Bool → Hp → Prop), Rel K O H σ env → pt env P →
  (∀ b env' H', P b env' → Rel K O H' σ env' → Stp env H env' H' → Q b H') → tt σ H Q
def ArOk (K : PySem.W.Frag) (B : Addr → Prop) (H : Hp) (σ : L2.St) : List Ar → List V → Prop
  | [], [] => True
  | .val t :: as, v :: vs => At K B H v t ∧ ArOk K B H σ as vs
  | .var i :: as, v :: vs => σ[i]? = some (some v) ∧ ArOk K B H σ as vs
  | _, _ => False
def RefA (K : PySem.W.Frag) (ta : TA) (pa : PA) : Prop := ∀ (O : Addr → Prop) (H : Hp) (σ : L2.St) (env : Env) (P : List Ar → Env → Prop) (R : List V → Hp → Prop), Rel K O H σ env → pa env P →
  (∀ as env' vs H', P as env' → Rel K O H' σ env' → Stp env H env' H' → ArOk K (Bd O env') H' σ as vs → R vs H') → ta σ H R
structure EndsOk (K : PySem.W.Frag) (O : Addr → Prop) (env : Env) (H : Hp) (fr : Bool) (D : Ends) (d : PD) : Prop where
  nx : ∀ σ' env' H', d.nx env' → Rel K O H' σ' env' → Stp env H env' H' → D.nx σ' H'
  bk : ∀ σ' env' H', d.bk env' → Rel K O H' σ' env' → Stp env H env' H' → D.bk σ' H'
  ct : ∀ σ' env' H', d.ct env' → Rel K O H' σ' env' → Stp env H env' H' → D.ct σ' H'
  rt : ∀ t σ' env' v H', d.rt t env' → Rel K O H' σ' env' → Stp env H env' H' → At K (Bd O env') H' v t →
    (fr = true → ∃ p, v = .ref p ∧ H p = none ∧ Rel K (fun a => O a ∨ a = p) H' σ' env' ∧ Holds K (Bd (fun a => O a ∨ a = p) env') H' p t) → D.rt v H'
/-- a statement's reading is that of ps; fr: what it hands back is new -/
def RefS (K : PySem.W.Frag) (fr : Bool) (ts : TS) (ps : PS) : Prop := ∀ (O : Addr → Prop) (H : Hp) (σ : L2.St) (env : Env) (D : Ends) (d : PD), Rel K O H σ env → ps d env → EndsOk K O env H fr D d → ts D σ H
section
variable {K : PySem.W.Frag} {O B B' : Addr → Prop} {H H' H1 H2 : Hp} {env env' env1 env2 : Env} {σ : L2.St} {p : Addr} {v : V} {t : T} {fr : Bool}
theorem EndsOk.from {D : Ends} {d : PD} (e : EndsOk K O env H fr D d) (s : Stp env H env1 H1) : EndsOk K O env1 H1 fr D d := by
  refine ⟨fun σ' env' H' h r x => e.nx σ' env' H' h r (s.trans x), fun σ' env' H' h r x => e.bk σ' env' H' h r (s.trans x), fun σ' env' H' h r x => e.ct σ' env' H' h r (s.trans x), fun t σ' env' v H' h r x a f => e.rt t σ' env' v H' h r (s.trans x) a fun z => ?_⟩
  obtain ⟨p, e1, e2, e3⟩ := f z
  refine ⟨p, e1, ?_, e3⟩
  cases q : H p with
  | none => rfl
  | some o => exact absurd e2 (s.dom p (by rw [q]; exact fun z => by cases z))
theorem RefF.e {te : TE} {pe : PE} (h : RefF K te pe) : RefE K te pe := by
  intro O H σ env P Q R hp hq
  refine h O H σ env P Q R hp fun t env' p H' ht r s hn ho => hq t env' _ H' ht (r.less fun a q => .inl q) s (ho.at ?_ fun a q => q.elim (fun z => .inl (.inl z)) .inr)
  intro z
  rcases z with z | z
  · exact R.dom p z hn
  · exact r.out p (.inr rfl) z
/-! ### constants, names -/
def pC (t : T) : PE := fun env P => P t env
theorem rf_c {v : V} {t : T} (h : ∀ B H, At K B H v t) : RefE K (tC v) (pC t) := fun O H σ env P Q R hp hq => hq t env v H hp R (.refl _ _) (h _ _)
theorem rf_non : RefE K (tC .non) (pC .non) := rf_c fun _ _ => .non
theorem rf_bl {b : Bool} : RefE K (tC (.bl b)) (pC (.bl b)) := rf_c fun _ _ => .bl b
theorem rf_int {i : Int} : RefE K (tC (.int i)) (pC (.int i)) := rf_c fun _ _ => .int i
theorem rf_str {z : Str} : RefE K (tC (.str z)) (pC (.str z)) := rf_c fun _ _ => .str z
theorem rf_ty {n : String} : RefE K (tC (.ty n)) (pC (.ty n)) := rf_c fun _ _ => .ty n
theorem rf_glo {a : Addr} : RefE K (tC (.ref a)) (pC (.glo a)) := rf_c fun _ _ => .glo a
theorem root_set {i : Nat} {s : Slot} {a : Addr} (h : Root (env.set i s) a) : (s.root = some a ∧ i < env.length) ∨ ∃ (j : Nat) (u : Slot), j ≠ i ∧ env[j]? = some u ∧ u.root = some a := by
  obtain ⟨j, u, e, r⟩ := h
  rw [List.getElem?_set] at e
  by_cases h1 : i = j
  · rw [if_pos h1] at e
    by_cases h2 : i < env.length
    · rw [if_pos h2] at e; cases e; exact .inl ⟨r, h2⟩
    · rw [if_neg h2] at e; cases e
  · rw [if_neg h1] at e; exact .inr ⟨j, u, fun z => h1 z.symm, e, r⟩
theorem get_set_ne {i j : Nat} {s : Slot} (h : i ≠ j) : (env.set i s)[j]? = env[j]? := by rw [List.getElem?_set, if_neg h]
/-- a slot is put -/
theorem Rel.put {O' : Addr → Prop} {i : Nat} {s : Slot} {v : V} (R : Rel K O H σ env) (hi : ∀ a, Bd O' (env.set i s) a → Bd O env a) (hO : ∀ a, O' a → O a) (ho : ∀ a, O' a → s.root ≠ some a)
    (hs : SlotOk K (Bd O' (env.set i s)) H (some v) s) (hn : ∀ (j : Nat) u a, j ≠ i → env[j]? = some u → u.root = some a → s.root ≠ some a) : Rel K O' H (σ.set i (some v)) (env.set i s) := by
  refine ⟨by rw [List.length_set, List.length_set]; exact R.len, fun j u e => ?_, fun j k u w a e1 e2 r1 r2 => ?_, fun a q z => ?_, fun a q => R.dom a (hO a q)⟩
  · rw [List.getElem?_set] at e
    by_cases h1 : i = j
    · rw [if_pos h1] at e
      by_cases h2 : i < env.length
      · rw [if_pos h2] at e; cases e
        subst h1
        rw [List.getElem?_set, if_pos rfl, if_pos (by rw [R.len]; exact h2)]
        exact hs
      · rw [if_neg h2] at e; cases e
    · rw [if_neg h1] at e
      rw [List.getElem?_set, if_neg h1]
      exact (R.slot j u e).keep (.less hi) fun _ _ => rfl
  · rw [List.getElem?_set] at e1 e2
    by_cases h1 : i = j
    · rw [if_pos h1] at e1
      by_cases h2 : i = k
      · exact h1.symm.trans h2
      · rw [if_neg h2] at e2
        split at e1
        · cases e1
          exact absurd r1 (hn k w a (fun z => h2 z.symm) e2 r2)
        · cases e1
    · rw [if_neg h1] at e1
      by_cases h2 : i = k
      · rw [if_pos h2] at e2
        split at e2
        · cases e2
          exact absurd r2 (hn j u a (fun z => h1 z.symm) e1 r1)
        · cases e2
      · rw [if_neg h2] at e2
        exact R.one j k u w a e1 e2 r1 r2
  · rcases root_set z with ⟨z, _⟩ | ⟨j, u, hj, e, r⟩
    · exact ho a q z
    · exact R.out a (hO a q) ⟨j, u, e, r⟩
theorem Rel.putV {i : Nat} {v : V} {t : T} (R : Rel K O H σ env) (h : At K (Bd O env) H v t) : Rel K O H (σ.set i (some v)) (env.set i (.val t)) := by
  have hi : ∀ a, Bd O (env.set i (.val t)) a → Bd O env a := fun a q => by
    rcases q with q | q
    · exact .inl q
    · rcases root_set q with ⟨z, _⟩ | ⟨j, u, _, e, r⟩
      · cases z
      · exact .inr ⟨j, u, e, r⟩
  exact R.put hi (fun _ q => q) (fun a _ z => by cases z) ⟨v, rfl, h.keep (.less hi)⟩ (fun j u a _ _ _ z => by cases z)
theorem stp_putV {i : Nat} {t : T} : Stp env H (env.set i (.val t)) H := ⟨fun _ _ _ e => e, fun a q => by
  rcases root_set q with ⟨z, _⟩ | ⟨j, u, _, e, r⟩
  · cases z
  · exact .inl ⟨j, u, e, r⟩, fun _ q => q⟩
theorem Rel.putO {i : Nat} {p : Addr} {t : T} (R : Rel K (fun a => O a ∨ a = p) H σ env) (hO : ¬ O p) (h : Holds K (Bd (fun a => O a ∨ a = p) env) H p t) : Rel K O H (σ.set i (some (.ref p))) (env.set i (.own p t)) := by
  have hi : ∀ a, Bd O (env.set i (.own p t)) a → Bd (fun a => O a ∨ a = p) env a := fun a q => by
    rcases q with q | q
    · exact .inl (.inl q)
    · rcases root_set q with ⟨z, _⟩ | ⟨j, u, _, e, r⟩
      · cases z; exact .inl (.inr rfl)
      · exact .inr ⟨j, u, e, r⟩
  refine R.put hi (fun _ q => .inl q) (fun a q z => by cases z; exact hO q) ⟨rfl, h.keep (.less hi) rfl⟩ (fun j u a _ e r z => ?_)
  cases z
  exact R.out p (.inr rfl) ⟨j, u, e, r⟩
theorem stp_putO {i : Nat} {p : Addr} {t : T} (hp : H p = none) : Stp env H (env.set i (.own p t)) H := ⟨fun _ _ _ e => e, fun a q => by
  rcases root_set q with ⟨z, _⟩ | ⟨j, u, _, e, r⟩
  · cases z; exact .inr hp
  · exact .inl ⟨j, u, e, r⟩, fun _ q => q⟩
/-- a name as a value: what is the def's own is set free -/
def pVar (i : Nat) : PE := fun env P => match env[i]? with
  | some (.val t) => P t env
  | some (.own _ t) => P t (env.set i (.val t))
  | _ => False
theorem set_same_slot {i : Nat} {v : V} (h : σ[i]? = some (some v)) : σ.set i (some v) = σ := by
  apply List.ext_getElem?
  intro j
  rw [List.getElem?_set]
  by_cases h1 : i = j
  · subst h1
    rw [if_pos rfl]
    by_cases h2 : i < σ.length
    · rw [if_pos h2, h]
    · rw [if_neg h2]
      rw [List.getElem?_eq_none_iff.mpr (by omega)]
  · rw [if_neg h1]
theorem Rel.free {i : Nat} {p : Addr} {t : T} (R : Rel K O H σ env) (e : env[i]? = some (.own p t)) : σ[i]? = some (some (.ref p)) ∧ Rel K O H σ (env.set i (.val t)) ∧ At K (Bd O (env.set i (.val t))) H (.ref p) t := by
  obtain ⟨h1, h2⟩ := R.slot i _ e
  have h3 := R.var e h1
  have hi : ∀ a, Bd O (env.set i (.val t)) a → Bd O env a := fun a q => by
    rcases q with q | q
    · exact .inl q
    · rcases root_set q with ⟨z, _⟩ | ⟨j, u, _, e, r⟩
      · cases z
      · exact .inr ⟨j, u, e, r⟩
  have nb : ¬ Bd O (env.set i (.val t)) p := by
    rintro (q | q)
    · exact R.out p q ⟨i, _, e, rfl⟩
    · rcases root_set q with ⟨z, _⟩ | ⟨j, u, hj, e2, r⟩
      · cases z
      · exact hj (R.one j i u _ p e2 e r rfl)
  have a := h2.at nb hi
  refine ⟨h3, ?_, a⟩
  have R2 := R.put (i := i) (s := .val t) (v := .ref p) hi (fun _ q => q) (fun a _ z => by cases z) ⟨_, rfl, a⟩ (fun j u a _ _ _ z => by cases z)
  rw [set_same_slot h3] at R2
  exact R2
theorem rf_var {i : Nat} : RefE K (tVar i) (pVar i) := by
  intro O H σ env P Q R hp hq
  unfold pVar at hp
  cases e : env[i]? with
  | none => rw [e] at hp; exact hp.elim
  | some s =>
    rw [e] at hp
    cases s with
    | none => exact hp.elim
    | val t =>
      obtain ⟨v, h1, h2⟩ := R.slot i _ e
      exact ⟨v, R.var e h1, hq t env v H hp R (.refl _ _) h2⟩
    | own p t =>
      obtain ⟨h1, h2, h3⟩ := R.free e
      exact ⟨_, h1, hq t _ _ H hp h2 stp_putV h3⟩
    | ref p t => exact hp.elim
/-! ### arguments -/
theorem ArOk.keep (s : StB B H B' H') : ∀ {as : List Ar} {vs : List V}, ArOk K B H σ as vs → ArOk K B' H' σ as vs
  | [], [], h => trivial
  | .val t :: as, v :: vs, h => ⟨h.1.keep s, ArOk.keep s h.2⟩
  | .var i :: as, v :: vs, h => ⟨h.1, ArOk.keep s h.2⟩
  | [], _ :: _, h => h.elim
  | .val _ :: _, [], h => h.elim
  | .var _ :: _, [], h => h.elim
def pNil : PA := fun env P => P [] env
def pCons (pe : PE) (pa : PA) : PA := fun env P => pe env fun t env1 => pa env1 fun as env2 => P (.val t :: as) env2
def has (env : Env) (i : Nat) : Prop := match env[i]? with
  | some (.val _) => True
  | some (.own _ _) => True
  | some (.ref _ _) => True
  | _ => False
def pConsV (i : Nat) (pa : PA) : PA := fun env P => has env i ∧ pa env fun as env2 => P (.var i :: as) env2
theorem Rel.has {i : Nat} (r : Rel K O H σ env) (h : has env i) : ∃ v, σ[i]? = some (some v) := by
  unfold Pu.has at h
  cases e : env[i]? with
  | none => rw [e] at h; exact h.elim
  | some s =>
    rw [e] at h
    cases s with
    | none => exact h.elim
    | val t => obtain ⟨v, h1, h2⟩ := r.slot i _ e; exact ⟨v, r.var e h1⟩
    | own p t => exact ⟨_, r.var e (r.slot i _ e).1⟩
    | ref p t => exact ⟨_, r.var e (r.slot i _ e).1⟩
theorem rfa_nil : RefA K tNil pNil := fun O H σ env P R r hp hq => hq [] env [] H hp r (.refl _ _) trivial
theorem rfa_cons {te : TE} {ta : TA} {pe : PE} {pa : PA} (he : RefE K te pe) (ha : RefA K ta pa) : RefA K (tCons te ta) (pCons pe pa) := by
  intro O H σ env P R r hp hq
  refine he O H σ env _ _ r hp fun t env1 v H1 p1 r1 s1 a1 => ?_
  refine ha O H1 σ env1 _ _ r1 p1 fun as env2 vs H2 p2 r2 s2 a2 => ?_
  exact hq _ env2 _ H2 p2 r2 (s1.trans s2) ⟨a1.keep s2.stb, a2⟩
theorem rfa_var {i : Nat} {ta : TA} {pa : PA} (ha : RefA K ta pa) : RefA K (tCons (tVar i) ta) (pConsV i pa) := by
  rintro O H σ env P R r ⟨hs, hp⟩ hq
  obtain ⟨v, ev⟩ := r.has hs
  refine ⟨v, ev, ?_⟩
  exact ha O H σ env _ _ r hp fun as env2 vs H2 p2 r2 s2 a2 => hq _ env2 _ H2 p2 r2 s2 ⟨ev, a2⟩
end
end Pu

namespace Pu
open PySem PySem.Spec PyProof.Rows L2 He Hk
/-! ### operations -/
/-- v is t for reading -/
def Br (K : PySem.W.Frag) (B : Addr → Prop) (H : Hp) (v : V) (t : T) : Prop := At K B H v t ∨ ∃ p, v = .ref p ∧ Holds K B H p t
def BrL (K : PySem.W.Frag) (B : Addr → Prop) (H : Hp) : List V → List T → Prop
  | [], [] => True
  | v :: vs, t :: ts => Br K B H v t ∧ BrL K B H vs ts
  | _, _ => False
def slotT : Option Slot → Option T
  | some (.val t) => some t
  | some (.own _ t) => some t
  | some (.ref _ t) => some t
  | _ => none
def tsOf (env : Env) : List Ar → Option (List T)
  | [] => some []
  | .val t :: as => match tsOf env as with | some ts => some (t :: ts) | none => none
  | .var i :: as => match slotT env[i]? with | some t => (match tsOf env as with | some ts => some (t :: ts) | none => none) | none => none
abbrev OpT := List T → (T → Prop) → Prop
/-- the operation r on values is rp on things; what it gives may be new objects alone -/
def OpOk (K : PySem.W.Frag) (r : List V → Hp → VK → Prop) (rp : OpT) : Prop := ∀ (B : Addr → Prop) (H : Hp) (vs : List V) (ts : List T) (P : T → Prop) (Q : VK), (∀ a, B a → H a ≠ none) → BrL K B H vs ts → rp ts P →
  (∀ t v H', P t → Same H H' → At K B H' v t → Q v H') → r vs H Q
/-- .. gives a new object -/
def OpNew (K : PySem.W.Frag) (r : List V → Hp → VK → Prop) (rp : OpT) : Prop := ∀ (B : Addr → Prop) (H : Hp) (vs : List V) (ts : List T) (P : T → Prop) (Q : VK), (∀ a, B a → H a ≠ none) → BrL K B H vs ts → rp ts P →
  (∀ t p H', P t → Same H H' → H p = none → Holds K (fun a => B a ∨ a = p) H' p t → Q (.ref p) H') → r vs H Q
def pOp (rp : OpT) (pa : PA) : PE := fun env P => pa env fun as env' => match tsOf env' as with
  | some ts => rp ts fun t => P t env'
  | none => False
def r2 (r : R2) : List V → Hp → VK → Prop := fun vs H Q => match vs with | [x, y] => r x y H Q | _ => False
def r1 (r : V → Hp → VK → Prop) : List V → Hp → VK → Prop := fun vs H Q => match vs with | [x] => r x H Q | _ => False
def rm (r : V → List V → Hp → VK → Prop) : List V → Hp → VK → Prop := fun vs H Q => match vs with | x :: xs => r x xs H Q | _ => False
section
variable {K : PySem.W.Frag} {O B B' : Addr → Prop} {H H' H1 H2 : Hp} {env env' env1 env2 : Env} {σ : L2.St} {p : Addr} {v : V} {t : T} {fr : Bool}
theorem br_slot {i : Nat} (R : Rel K O H σ env) (ev : σ[i]? = some (some v)) (h : slotT env[i]? = some t) : Br K (Bd O env) H v t := by
  cases e : env[i]? with
  | none => rw [e] at h; cases h
  | some s =>
    rw [e] at h
    have q := R.slot i s e
    rw [ev] at q
    cases s with
    | none => cases h
    | val u => cases h; obtain ⟨w, e1, e2⟩ := q; cases e1; exact .inl e2
    | own p u => cases h; obtain ⟨e1, e2⟩ := q; cases e1; exact .inr ⟨p, rfl, e2⟩
    | ref p u => cases h; obtain ⟨e1, e2⟩ := q; cases e1; exact .inr ⟨p, rfl, e2⟩
theorem br_args (R : Rel K O H σ env) : ∀ {as : List Ar} {vs : List V} {ts : List T}, ArOk K (Bd O env) H σ as vs → tsOf env as = some ts → BrL K (Bd O env) H vs ts
  | [], [], ts, _, e => by cases e; trivial
  | .val t :: as, v :: vs, ts, h, e => by
    unfold tsOf at e
    cases q : tsOf env as with
    | none => rw [q] at e; cases e
    | some us => rw [q] at e; cases e; exact ⟨.inl h.1, br_args R h.2 q⟩
  | .var i :: as, v :: vs, ts, h, e => by
    unfold tsOf at e
    cases q0 : slotT env[i]? with
    | none => rw [q0] at e; cases e
    | some t =>
      rw [q0] at e
      cases q : tsOf env as with
      | none => rw [q] at e; cases e
      | some us => rw [q] at e; cases e; exact ⟨br_slot R h.1 q0, br_args R h.2 q⟩
  | [], _ :: _, _, h, _ => h.elim
  | .val _ :: _, [], _, h, _ => h.elim
  | .var _ :: _, [], _, h, _ => h.elim
theorem rf_cb {r : List V → Hp → VK → Prop} {rp : OpT} {ta : TA} {pa : PA} (o : OpOk K r rp) (ha : RefA K ta pa) : RefE K (tCB r ta) (pOp rp pa) := by
  intro O H σ env P Q R hp hq
  refine ha O H σ env _ _ R hp fun as env' vs H' p1 r1 s1 a1 => ?_
  cases e : tsOf env' as with
  | none => rw [e] at p1; exact p1.elim
  | some ts =>
    rw [e] at p1
    exact o _ H' vs ts _ Q (fun a q => r1.bdom q) (br_args r1 a1 e) p1 fun t v H2 p2 sm at2 => hq t env' v H2 p2 (r1.same sm) (s1.trans (.same sm)) at2
theorem rf_cbF {r : List V → Hp → VK → Prop} {rp : OpT} {ta : TA} {pa : PA} (o : OpNew K r rp) (ha : RefA K ta pa) : RefF K (tCB r ta) (pOp rp pa) := by
  intro O H σ env P Q R hp hq
  refine ha O H σ env _ _ R hp fun as env' vs H' p1 r1 s1 a1 => ?_
  cases e : tsOf env' as with
  | none => rw [e] at p1; exact p1.elim
  | some ts =>
    rw [e] at p1
    refine o _ H' vs ts _ Q (fun a q => r1.bdom q) (br_args r1 a1 e) p1 fun t p H2 p2 sm hn ho => ?_
    refine hq t env' p H2 p2 (r1.also hn sm ho.def) (s1.trans (.same sm)) ?_ (ho.keep (.less fun a q => ?_) rfl)
    · cases q : H p with
      | none => rfl
      | some o => exact absurd hn (s1.dom p (by rw [q]; exact fun z => by cases z))
    · rcases q with (q | q) | q
      · exact .inl (.inl q)
      · exact .inr q
      · exact .inl (.inr q)
theorem OpNew.ok {r : List V → Hp → VK → Prop} {rp : OpT} (o : OpNew K r rp) : OpOk K r rp := by
  intro B H vs ts P Q hB hb hp hq
  refine o B H vs ts P Q hB hb hp fun t p H' pt sm hn ho => hq t _ H' pt sm (ho.at (fun z => hB p z hn) fun a q => .inl q)
theorem OpOk.or {r r' : List V → Hp → VK → Prop} {rp : OpT} (o : OpOk K r rp) : OpOk K (fun vs H Q => r vs H Q ∨ r' vs H Q) rp := fun B H vs ts P Q hB hb hp hq => .inl (o B H vs ts P Q hB hb hp hq)
theorem rf_op2 {r : R2} {rp : OpT} {ta tb : TE} {pa : PA} (o : OpOk K (r2 r) rp) (ha : RefA K (tCons ta (tCons tb tNil)) pa) : RefE K (tOp r ta tb) (pOp rp pa) := rf_cb o ha
theorem rf_op2F {r : R2} {rp : OpT} {ta tb : TE} {pa : PA} (o : OpNew K (r2 r) rp) (ha : RefA K (tCons ta (tCons tb tNil)) pa) : RefF K (tOp r ta tb) (pOp rp pa) := rf_cbF o ha
theorem rf_un {r : V → Hp → VK → Prop} {rp : OpT} {ta : TE} {pa : PA} (o : OpOk K (r1 r) rp) (ha : RefA K (tCons ta tNil) pa) : RefE K (tUn r ta) (pOp rp pa) := rf_cb o ha
/-! what a thing for reading is -/
theorem Br.int {i : Int} (h : Br K B H v (.int i)) : v = .int i := by
  rcases h with h | ⟨p, _, h⟩
  · cases h; rfl
  · cases h
theorem Br.str {z : Str} (h : Br K B H v (.str z)) : v = .str z := by
  rcases h with h | ⟨p, _, h⟩
  · cases h; rfl
  · cases h
theorem Br.bl {b : Bool} (h : Br K B H v (.bl b)) : v = .bl b := by
  rcases h with h | ⟨p, _, h⟩
  · cases h; rfl
  · cases h
theorem Br.non (h : Br K B H v .non) : v = .non := by
  rcases h with h | ⟨p, _, h⟩
  · cases h; rfl
  · cases h
theorem Br.ty {n : String} (h : Br K B H v (.ty n)) : v = .ty n := by
  rcases h with h | ⟨p, _, h⟩
  · cases h; rfl
  · cases h
theorem Br.glo {a : Addr} (h : Br K B H v (.glo a)) : v = .ref a := by
  rcases h with h | ⟨p, _, h⟩
  · cases h; rfl
  · cases h
theorem Br.lst {ts : List T} (h : Br K B H v (.lst ts)) : ∃ a xs, v = .ref a ∧ H a = some (.lst xs) ∧ AtL K B H xs ts := by
  rcases h with h | ⟨p, rfl, h⟩
  · cases h with | lst n e h => exact ⟨_, _, rfl, e, h⟩
  · cases h with | lst e h => exact ⟨_, _, rfl, e, h⟩
theorem Br.tup {ts : List T} (h : Br K B H v (.tup ts)) : ∃ a xs, v = .ref a ∧ SqT K H a xs ∧ AtL K B H xs ts := by
  rcases h with h | ⟨p, rfl, h⟩
  · cases h with
    | tup n e h => exact ⟨_, _, rfl, .inl e, h⟩
    | tupK e h => exact ⟨_, _, rfl, .inr e, h⟩
  · cases h
theorem Br.dct {ts : List (Key × T)} (h : Br K B H v (.dct ts)) : ∃ a kvs, v = .ref a ∧ Rd H a (.dK kvs) ∧ AtK K B H kvs ts := by
  rcases h with h | ⟨p, rfl, h⟩
  · cases h with | dct n e h => exact ⟨_, _, rfl, e, h⟩
  · cases h with | dct e h => exact ⟨_, _, rfl, .inl e, h⟩
theorem Br.scr {ns : List Int} (h : Br K B H v (.scr ns)) : ∃ a, v = .ref a ∧ SqL K H a (ns.map V.int) := by
  rcases h with h | ⟨p, rfl, h⟩
  · cases h with
    | scr n e => exact ⟨_, rfl, .inl e⟩
    | scrK e => exact ⟨_, rfl, .inr e⟩
  · cases h
theorem BrL.one {ts : List T} {vs : List V} (h : BrL K B H vs ts) {t : T} (e : ts = [t]) : ∃ v, vs = [v] ∧ Br K B H v t := by
  subst e
  match vs, h with
  | [v], h => exact ⟨v, rfl, h.1⟩
theorem BrL.two {ts : List T} {vs : List V} (h : BrL K B H vs ts) {t u : T} (e : ts = [t, u]) : ∃ v w, vs = [v, w] ∧ Br K B H v t ∧ Br K B H w u := by
  subst e
  match vs, h with
  | [v, w], h => exact ⟨v, w, rfl, h.1, h.2.1⟩
/-! ### new lists, tuples, dicts -/
theorem holds_new {a : Addr} {xs : List V} {ts : List T} (hp : H p = none) (h : AtL K B H xs ts) : Holds K (fun a => B a ∨ a = p) (upd H p (.lst xs)) p (.lst ts) :=
  .lst upd_same (h.keep ⟨fun a o _ e => by rw [upd_ne (ne_of_none e hp)]; exact e, fun a q => q.elim .inl fun z => .inr (z ▸ hp)⟩)
theorem holds_newD {kvs : List (Key × V)} {ts : List (Key × T)} (hp : H p = none) (h : AtK K B H kvs ts) : Holds K (fun a => B a ∨ a = p) (upd H p (.dK kvs)) p (.dct ts) :=
  .dct upd_same (h.keep ⟨fun a o _ e => by rw [upd_ne (ne_of_none e hp)]; exact e, fun a q => q.elim .inl fun z => .inr (z ▸ hp)⟩)
theorem same_new {o : HO} (hp : H p = none) : Same H (upd H p o) := fun a u e => by rw [upd_ne (ne_of_none e hp)]; exact e
/-- values that are kept (in a new object): names are set free -/
def ArV : List Ar → Option (List T)
  | [] => some []
  | .val t :: as => match ArV as with | some ts => some (t :: ts) | none => none
  | .var _ :: _ => none
theorem ar_vals : ∀ {as : List Ar} {vs : List V} {ts : List T}, ArOk K B H σ as vs → ArV as = some ts → AtL K B H vs ts
  | [], [], ts, _, e => by cases e; exact .nil
  | .val t :: as, v :: vs, ts, h, e => by
    unfold ArV at e
    cases q : ArV as with
    | none => rw [q] at e; cases e
    | some us => rw [q] at e; cases e; exact .cons h.1 (ar_vals h.2 q)
  | .var i :: as, _, _, _, e => by cases e
  | [], _ :: _, _, h, _ => h.elim
  | .val _ :: _, [], _, h, _ => h.elim
def pLst (pa : PA) : PE := fun env P => pa env fun as env' => match ArV as with
  | some ts => ts.length ≤ 1000000 ∧ P (.lst ts) env'
  | none => False
def pTup (pa : PA) : PE := fun env P => pa env fun as env' => match ArV as with
  | some ts => ts.length ≤ 1000000 ∧ P (.tup ts) env'
  | none => False
theorem million : 1000000 ≤ sizeLine := by decide
theorem rf_lst {ta : TA} {pa : PA} (ha : RefA K ta pa) : RefF K (tLst ta) (pLst pa) := by
  intro O H σ env P Q R hp hq
  refine ha O H σ env _ _ R hp fun as env' vs H' p1 r1 s1 a1 => ?_
  cases e : ArV as with
  | none => rw [e] at p1; exact p1.elim
  | some ts =>
    rw [e] at p1
    have al := ar_vals a1 e
    refine ⟨by rw [al.length]; exact Nat.le_trans p1.1 million, fun p hn => ?_⟩
    have sm : Same H' (upd H' p (.lst vs)) := same_new hn
    refine hq _ env' p _ p1.2 (r1.also hn sm (by rw [upd_same]; exact fun z => by cases z)) (s1.trans (.same sm)) ?_ ((holds_new (a := p) hn al).keep (.less fun a q => ?_) rfl)
    · cases q : H p with
      | none => rfl
      | some o => exact absurd hn (s1.dom p (by rw [q]; exact fun z => by cases z))
    · rcases q with (q | q) | q
      · exact .inl (.inl q)
      · exact .inr q
      · exact .inl (.inr q)
theorem rf_tup {ta : TA} {pa : PA} (ha : RefA K ta pa) : RefE K (tTup ta) (pTup pa) := by
  intro O H σ env P Q R hp hq
  refine ha O H σ env _ _ R hp fun as env' vs H' p1 r1 s1 a1 => ?_
  cases e : ArV as with
  | none => rw [e] at p1; exact p1.elim
  | some ts =>
    rw [e] at p1
    have al := ar_vals a1 e
    refine ⟨by rw [al.length]; exact Nat.le_trans p1.1 million, fun p hn => ?_⟩
    have sm : Same H' (upd H' p (.tup vs)) := same_new hn
    exact hq _ env' _ _ p1.2 (r1.same sm) (s1.trans (.same sm)) (.tup (r1.fresh hn) (.inl upd_same) (al.keep (.same sm)))
/-! ### tests -/
def pTest (pe : PE) : PT := fun env P => pe env fun t env' => match t with | .bl b => P b env' | _ => False
theorem rf_test {te : TE} {pe : PE} (he : RefE K te pe) : RefT K (tTest te) (pTest pe) := by
  intro O H σ env P Q R hp hq
  refine he O H σ env _ _ R hp fun t env' v H' p1 r1 s1 a1 => ?_
  cases t with
  | bl b => cases a1; exact ⟨b, rfl, hq b env' H' p1 r1 s1⟩
  | _ => exact p1.elim
theorem rf_tB {te : TE} {pe : PE} (he : RefE K te pe) : RefT K (tB te) (pTest pe) := rf_test he
def pAnd (c d : PT) : PT := fun env P => c env fun b env1 => if b = true then d env1 P else P false env1
def pOr (c d : PT) : PT := fun env P => c env fun b env1 => if b = true then P true env1 else d env1 P
def pNot (c : PT) : PT := fun env P => c env fun b env1 => P (!b) env1
theorem rf_and {tc td : TT} {c d : PT} (hc : RefT K tc c) (hd : RefT K td d) : RefT K (tAnd tc td) (pAnd c d) := by
  intro O H σ env P Q R hp hq
  refine hc O H σ env _ _ R hp fun b env1 H1 p1 r1 s1 => ?_
  cases b with
  | true => exact (if_pos rfl).mpr (hd O H1 σ env1 _ _ r1 ((if_pos rfl).mp p1) fun b env2 H2 p2 r2 s2 => hq b env2 H2 p2 r2 (s1.trans s2))
  | false => exact (if_neg Bool.false_ne_true).mpr (hq _ env1 H1 ((if_neg Bool.false_ne_true).mp p1) r1 s1)
theorem rf_or {tc td : TT} {c d : PT} (hc : RefT K tc c) (hd : RefT K td d) : RefT K (tOr tc td) (pOr c d) := by
  intro O H σ env P Q R hp hq
  refine hc O H σ env _ _ R hp fun b env1 H1 p1 r1 s1 => ?_
  cases b with
  | true => exact (if_pos rfl).mpr (hq _ env1 H1 ((if_pos rfl).mp p1) r1 s1)
  | false => exact (if_neg Bool.false_ne_true).mpr (hd O H1 σ env1 _ _ r1 ((if_neg Bool.false_ne_true).mp p1) fun b env2 H2 p2 r2 s2 => hq b env2 H2 p2 r2 (s1.trans s2))
theorem rf_not {tc : TT} {c : PT} (hc : RefT K tc c) : RefT K (tNot tc) (pNot c) := by
  intro O H σ env P Q R hp hq
  exact hc O H σ env _ _ R hp fun b env1 H1 p1 r1 s1 => hq _ env1 H1 p1 r1 s1
/-! truths as values -/
def pAndV (a b : PE) : PE := fun env P => a env fun t env1 => match t with | .bl c => (if c = true then b env1 P else P (.bl false) env1) | _ => False
def pOrV (a b : PE) : PE := fun env P => a env fun t env1 => match t with | .bl c => (if c = true then P (.bl true) env1 else b env1 P) | _ => False
def pNotV (a : PE) : PE := fun env P => a env fun t env1 => match t with | .bl c => P (.bl (!c)) env1 | _ => False
def pIfE (c : PT) (a b : PE) : PE := fun env P => c env fun k env1 => if k = true then a env1 P else b env1 P
theorem rf_andV {ta tb : TE} {a b : PE} (ha : RefE K ta a) (hb : RefE K tb b) : RefE K (tAndV ta tb) (pAndV a b) := by
  intro O H σ env P Q R hp hq
  refine ha O H σ env _ _ R hp fun t env1 v H1 p1 r1 s1 a1 => ?_
  cases t with
  | bl c =>
    cases a1
    refine ⟨c, rfl, ?_⟩
    cases c with
    | true => exact (if_pos rfl).mpr (hb O H1 σ env1 _ _ r1 ((if_pos rfl).mp p1) fun t env2 v H2 p2 r2 s2 a2 => hq t env2 v H2 p2 r2 (s1.trans s2) a2)
    | false => exact (if_neg Bool.false_ne_true).mpr (hq _ env1 _ H1 ((if_neg Bool.false_ne_true).mp p1) r1 s1 (.bl _))
  | _ => exact p1.elim
theorem rf_orV {ta tb : TE} {a b : PE} (ha : RefE K ta a) (hb : RefE K tb b) : RefE K (tOrV ta tb) (pOrV a b) := by
  intro O H σ env P Q R hp hq
  refine ha O H σ env _ _ R hp fun t env1 v H1 p1 r1 s1 a1 => ?_
  cases t with
  | bl c =>
    cases a1
    refine ⟨c, rfl, ?_⟩
    cases c with
    | false => exact (if_neg Bool.false_ne_true).mpr (hb O H1 σ env1 _ _ r1 ((if_neg Bool.false_ne_true).mp p1) fun t env2 v H2 p2 r2 s2 a2 => hq t env2 v H2 p2 r2 (s1.trans s2) a2)
    | true => exact (if_pos rfl).mpr (hq _ env1 _ H1 ((if_pos rfl).mp p1) r1 s1 (.bl _))
  | _ => exact p1.elim
theorem rf_notV {ta : TE} {a : PE} (ha : RefE K ta a) : RefE K (tNotV ta) (pNotV a) := by
  intro O H σ env P Q R hp hq
  refine ha O H σ env _ _ R hp fun t env1 v H1 p1 r1 s1 a1 => ?_
  cases t with
  | bl c => cases a1; exact ⟨c, rfl, hq _ env1 _ H1 p1 r1 s1 (.bl _)⟩
  | _ => exact p1.elim
theorem rf_ifE {tc : TT} {c : PT} {ta tb : TE} {a b : PE} (hc : RefT K tc c) (ha : RefE K ta a) (hb : RefE K tb b) : RefE K (tIf tc ta tb) (pIfE c a b) := by
  intro O H σ env P Q R hp hq
  refine hc O H σ env _ _ R hp fun k env1 H1 p1 r1 s1 => ?_
  cases k with
  | true => exact (if_pos rfl).mpr (ha O H1 σ env1 _ _ r1 ((if_pos rfl).mp p1) fun t env2 v H2 p2 r2 s2 a2 => hq t env2 v H2 p2 r2 (s1.trans s2) a2)
  | false => exact (if_neg Bool.false_ne_true).mpr (hb O H1 σ env1 _ _ r1 ((if_neg Bool.false_ne_true).mp p1) fun t env2 v H2 p2 r2 s2 a2 => hq t env2 v H2 p2 r2 (s1.trans s2) a2)
/-- a < b < c -/
def pChain (rp rp' : OpT) (a b c : PE) : PE := fun env P => a env fun t env1 => b env1 fun u env2 => rp [t, u] fun z => match z with
  | .bl k => if k = true then c env2 fun w env3 => rp' [u, w] fun y => P y env3 else P (.bl false) env2
  | _ => False
theorem rf_chain {r r' : R2} {rp rp' : OpT} {ta tb tc : TE} {a b c : PE} (o : OpOk K (r2 r) rp) (o' : OpOk K (r2 r') rp') (ha : RefE K ta a) (hb : RefE K tb b) (hc : RefE K tc c) : RefE K (tChain r r' ta tb tc) (pChain rp rp' a b c) := by
  intro O H σ env P Q R hp hq
  refine ha O H σ env _ _ R hp fun t env1 v H1 p1 r1 s1 a1 => ?_
  refine hb O H1 σ env1 _ _ r1 p1 fun u env2 w H2 p2 r2' s2 a2 => ?_
  refine o _ H2 [v, w] [t, u] _ _ (fun a q => r2'.bdom q) ⟨.inl (a1.keep s2.stb), .inl a2, trivial⟩ p2 fun z x H3 p3 sm a3 => ?_
  cases z with
  | bl k =>
    cases a3
    refine ⟨k, rfl, ?_⟩
    have r3 := r2'.same sm
    have s3 := s1.trans (s2.trans (.same sm))
    cases k with
    | true =>
      refine (if_pos rfl).mpr (hc O H3 σ env2 _ _ r3 ((if_pos rfl).mp p3) fun y env4 x4 H4 p4 r4 s4 a4 => ?_)
      exact o' _ H4 [w, x4] [u, y] _ _ (fun a q => r4.bdom q) ⟨.inl ((a2.keep (.same sm)).keep s4.stb), .inl a4, trivial⟩ p4 fun t5 x5 H5 p5 sm5 a5 => hq t5 env4 x5 H5 p5 (r4.same sm5) ((s3.trans s4).trans (.same sm5)) a5
    | false => exact (if_neg Bool.false_ne_true).mpr (hq _ env2 _ H3 ((if_neg Bool.false_ne_true).mp p3) r3 s3 (.bl _))
  | _ => exact p3.elim
/-! slices -/
abbrev PO := Env → (Option Int → Env → Prop) → Prop
def RefO (K : PySem.W.Frag) (to : TO) (po : PO) : Prop := ∀ (O : Addr → Prop) (H : Hp) (σ : L2.St) (env : Env) (P : Option Int → Env → Prop) (Q : Option Int → Hp → Prop), Rel K O H σ env → po env P →
  (∀ b env' H', P b env' → Rel K O H' σ env' → Stp env H env' H' → Q b H') → to σ H Q
def pNoPart : PO := fun env P => P none env
def pPart (pe : PE) : PO := fun env P => pe env fun t env' => match t with | .int i => P (some i) env' | _ => False
theorem rf_noPart : RefO K tNoPart pNoPart := fun O H σ env P Q R hp hq => hq none env H hp R (.refl _ _)
theorem rf_part {te : TE} {pe : PE} (he : RefE K te pe) : RefO K (tPart te) (pPart pe) := by
  intro O H σ env P Q R hp hq
  refine he O H σ env _ _ R hp fun t env' v H' p1 r1 s1 a1 => ?_
  cases t with
  | int b => cases a1; exact ⟨b, rfl, hq _ env' H' p1 r1 s1⟩
  | _ => exact p1.elim
end
end Pu

namespace Pu
open PySem PySem.Spec PyProof.Rows L2 He Hk
/-! ### the operations on things -/
def valT (kvs : List (Key × T)) (k : Key) : Option T := (kvs.find? fun kv => decide (kv.1 = k)).map (·.2)
def putT (kvs : List (Key × T)) (k : Key) (v : T) : List (Key × T) :=
  if (kvs.any fun kv => decide (kv.1 = k)) = true then kvs.map (fun kv => if kv.1 = k then (kv.1, v) else kv) else kvs ++ [(k, v)]
def mergeT (kvs more : List (Key × T)) : List (Key × T) := more.foldl (fun acc kv => putT acc kv.1 kv.2) kvs
def dropT (kvs : List (Key × T)) (k : Key) : List (Key × T) := kvs.filter fun kv => decide (kv.1 ≠ k)
def keyT : T → Option Key
  | .int i => some (.inl i)
  | .str z => some (.inr z)
  | _ => none
def kT : Key → T
  | .inl i => .int i
  | .inr z => .str z
def cutT (xs : List T) (lo hi : Option Int) : List T := (xs.drop (HT.sIx xs.length 0 lo)).take (HT.sIx xs.length xs.length hi - HT.sIx xs.length 0 lo)
section
variable {K : PySem.W.Frag} {O B B' : Addr → Prop} {H H' H1 H2 : Hp} {env env' env1 env2 : Env} {σ : L2.St} {p : Addr} {v : V} {t : T} {fr : Bool}
theorem AtK.val : ∀ {kvs : List (Key × V)} {ts : List (Key × T)} {k : Key} {t : T}, AtK K B H kvs ts → valT ts k = some t → ∃ v, valV kvs k = some v ∧ At K B H v t
  | _, _, k, t, .nil, e => by cases e
  | _, _, k, t, .cons (k := k') (x := x) (t := t') h r, e => by
    unfold valT at e
    unfold valV
    rw [List.find?_cons] at e ⊢
    by_cases c : k' = k
    · simp only [c, decide_true] at e ⊢; cases e; exact ⟨x, rfl, h⟩
    · simp only [c, decide_false] at e ⊢; exact AtK.val r e
theorem AtK.val_none : ∀ {kvs : List (Key × V)} {ts : List (Key × T)} {k : Key}, AtK K B H kvs ts → valT ts k = none → valV kvs k = none
  | _, _, k, .nil, e => rfl
  | _, _, k, .cons (k := k') (x := x) (t := t') h r, e => by
    unfold valT at e
    unfold valV
    rw [List.find?_cons] at e ⊢
    by_cases c : k' = k
    · simp only [c, decide_true] at e; cases e
    · simp only [c, decide_false] at e ⊢; exact AtK.val_none r e
theorem AtK.any {k : Key} : ∀ {kvs : List (Key × V)} {ts : List (Key × T)}, AtK K B H kvs ts → (kvs.any fun kv => decide (kv.1 = k)) = ts.any fun kv => decide (kv.1 = k)
  | _, _, .nil => rfl
  | _, _, .cons h r => by rw [List.any_cons, List.any_cons, r.any]
theorem AtK.app : ∀ {xs ys : List (Key × V)} {ts us : List (Key × T)}, AtK K B H xs ts → AtK K B H ys us → AtK K B H (xs ++ ys) (ts ++ us)
  | _, _, _, _, .nil, s => s
  | _, _, _, _, .cons h r, s => .cons h (r.app s)
theorem AtK.rep {k : Key} (hv : At K B H v t) : ∀ {kvs : List (Key × V)} {ts : List (Key × T)}, AtK K B H kvs ts → AtK K B H (kvs.map fun kv => if kv.1 = k then (kv.1, v) else kv) (ts.map fun kv => if kv.1 = k then (kv.1, t) else kv)
  | _, _, .nil => .nil
  | _, _, .cons (k := k') (x := x) (t := t') h r => by
    rw [List.map_cons, List.map_cons]
    by_cases c : k' = k
    · rw [if_pos c, if_pos c]; exact .cons hv (AtK.rep hv r)
    · rw [if_neg c, if_neg c]; exact .cons h (AtK.rep hv r)
theorem AtK.put {k : Key} {kvs : List (Key × V)} {ts : List (Key × T)} (h : AtK K B H kvs ts) (hv : At K B H v t) : AtK K B H (putK kvs k v) (putT ts k t) := by
  unfold putK putT
  rw [h.any]
  split
  · exact h.rep hv
  · exact h.app (.cons hv .nil)
theorem AtK.merge : ∀ {more : List (Key × V)} {ms : List (Key × T)} {kvs : List (Key × V)} {ts : List (Key × T)}, AtK K B H more ms → AtK K B H kvs ts → AtK K B H (mergeK kvs more) (mergeT ts ms)
  | _, _, _, _, .nil, h => h
  | (_ :: more), (_ :: ms), _, _, .cons hx r, h => AtK.merge (more := more) (ms := ms) r (h.put hx)
theorem AtK.drop {k : Key} : ∀ {kvs : List (Key × V)} {ts : List (Key × T)}, AtK K B H kvs ts → AtK K B H (dropK kvs k) (dropT ts k)
  | _, _, .nil => .nil
  | _, _, .cons (k := k') (x := x) (t := t') h r => by
    unfold dropK dropT
    rw [List.filter_cons, List.filter_cons]
    by_cases c : k' = k
    · simp only [c, ne_eq, not_true, decide_false]; exact AtK.drop r
    · simp only [c, ne_eq, not_false_eq_true, decide_true, if_true]; exact .cons h (AtK.drop r)
theorem AtK.keysT : ∀ {kvs : List (Key × V)} {ts : List (Key × T)}, AtK K B H kvs ts → AtL K B H (kvs.map fun kv => kV kv.1) (ts.map fun kv => kT kv.1)
  | _, _, .nil => .nil
  | _, _, .cons (k := k) h r => .cons (by cases k; exact .int _; exact .str _) r.keysT
theorem at_key {k : Key} (h : Br K B H v t) (e : keyT t = some k) : v = kV k := by
  cases t with
  | int i => cases e; exact h.int
  | str z => cases e; exact h.str
  | _ => cases e
theorem AtL.cut {xs : List V} {ts : List T} (h : AtL K B H xs ts) (lo hi : Option Int) : AtL K B H (cutV xs lo hi) (cutT ts lo hi) := by
  unfold cutV cutT
  rw [h.length]
  exact (h.drop _).take _
theorem AtL.at {xs : List V} {ts : List T} {i : Int} {t : T} (h : AtL K B H xs ts) (e : atI ts i = some t) : ∃ v, atI xs i = some v ∧ At K B H v t := by
  unfold atI at e ⊢
  rw [h.length]
  cases q : ixN ts.length i with
  | none => rw [q] at e; cases e
  | some j => rw [q] at e; exact h.get' e
/-! #### numbers and texts -/
def oAdd : OpT
  | [.int i, .int j], P => P (.int (i + j))
  | [.str a, .str b], P => a.length + b.length ≤ 16000000 ∧ P (.str (a ++ b))
  | [.lst a, .lst b], P => a.length + b.length ≤ 1000000 ∧ P (.lst (a ++ b))
  | [.tup a, .tup b], P => a.length + b.length ≤ 1000000 ∧ P (.tup (a ++ b))
  | _, _ => False
theorem line16 : 16000000 ≤ sizeLine := by decide
theorem OpOk.pair {r : R2} {rp : OpT} (h : ∀ (B : Addr → Prop) (H : Hp) (v w : V) (t u : T) (P : T → Prop) (Q : VK), (∀ a, B a → H a ≠ none) → Br K B H v t → Br K B H w u → rp [t, u] P → (∀ t v H', P t → Same H H' → At K B H' v t → Q v H') → r v w H Q)
    (h2 : ∀ ts P, rp ts P → ∃ t u, ts = [t, u]) : OpOk K (r2 r) rp := by
  intro B H vs ts P Q hB hb hp hq
  obtain ⟨t, u, rfl⟩ := h2 ts P hp
  obtain ⟨v, w, rfl, b1, b2⟩ := hb.two rfl
  exact h B H v w t u P Q hB b1 b2 hp hq
theorem OpOk.uno {r : List V → Hp → VK → Prop} {rp : OpT} (h : ∀ (B : Addr → Prop) (H : Hp) (v : V) (t : T) (P : T → Prop) (Q : VK), (∀ a, B a → H a ≠ none) → Br K B H v t → rp [t] P → (∀ t v H', P t → Same H H' → At K B H' v t → Q v H') → r [v] H Q)
    (h2 : ∀ ts P, rp ts P → ∃ t, ts = [t]) : OpOk K r rp := by
  intro B H vs ts P Q hB hb hp hq
  obtain ⟨t, rfl⟩ := h2 ts P hp
  obtain ⟨v, rfl, b1⟩ := hb.one rfl
  exact h B H v t P Q hB b1 hp hq
theorem at_new {xs : List V} {ts : List T} (hB : ∀ a, B a → H a ≠ none) (hp : H p = none) (h : AtL K B H xs ts) : At K B (upd H p (.lst xs)) (.ref p) (.lst ts) :=
  .lst (fun z => hB p z hp) upd_same (h.keep (.same (same_new hp)))
theorem at_newT {xs : List V} {ts : List T} (hB : ∀ a, B a → H a ≠ none) (hp : H p = none) (h : AtL K B H xs ts) : At K B (upd H p (.tup xs)) (.ref p) (.tup ts) :=
  .tup (fun z => hB p z hp) (.inl upd_same) (h.keep (.same (same_new hp)))
theorem at_newD {xs : List (Key × V)} {ts : List (Key × T)} (hB : ∀ a, B a → H a ≠ none) (hp : H p = none) (h : AtK K B H xs ts) : At K B (upd H p (.dK xs)) (.ref p) (.dct ts) :=
  .dct (fun z => hB p z hp) (.inl upd_same) (h.keep (.same (same_new hp)))
theorem same_at (h : Br K B H v t) (ht : ∀ p, ¬ Holds K B H p t) : At K B H v t := by
  rcases h with h | ⟨p, _, h⟩
  · exact h
  · exact absurd h (ht p)
theorem ok_add : OpOk K (r2 (rAdd K)) oAdd := by
  refine OpOk.pair (fun B H v w t u P Q hB hv hw hp hq => ?_) fun ts P h => by unfold oAdd at h; split at h <;> first | exact ⟨_, _, rfl⟩ | exact h.elim
  unfold oAdd at hp
  split at hp
  · rename_i e; cases e
    cases hv.int; cases hw.int
    exact v_addI (hq _ _ H hp (Same.refl H) (.int _))
  · rename_i e; cases e
    cases hv.str; cases hw.str
    exact v_addT (Nat.le_trans hp.1 line16) (hq _ _ H hp.2 (Same.refl H) (.str _))
  · rename_i e; cases e
    obtain ⟨a, xs, rfl, ha, al⟩ := hv.lst
    obtain ⟨b, ys, rfl, hb, bl⟩ := hw.lst
    refine Or.inr (Or.inr (Or.inl ⟨a, b, xs, ys, rfl, rfl, ha, hb, by rw [al.length, bl.length]; exact Nat.le_trans hp.1 million, fun p hp' => hq _ _ _ hp.2 (same_new hp') (at_new hB hp' (al.append bl))⟩))
  · rename_i e; cases e
    have hv' := hv
    have hw' := hw
    obtain ⟨a, xs, rfl, ha, al⟩ := hv.tup
    obtain ⟨b, ys, rfl, hb, bl⟩ := hw.tup
    refine Or.inr (Or.inr (Or.inr ⟨a, b, xs, ys, rfl, rfl, ha, hb, by rw [al.length, bl.length]; exact Nat.le_trans hp.1 million, fun e => ?_, fun _ e => ?_, fun _ _ p hp' => hq _ _ _ hp.2 (same_new hp') (at_newT hB hp' (al.append bl))⟩))
    · subst e; cases al
      exact hq _ _ H hp.2 (Same.refl H) (same_at hw' fun p z => nomatch z)
    · subst e; cases bl
      rw [List.append_nil] at hp
      exact hq _ _ H hp.2 (Same.refl H) (same_at hv' fun p z => nomatch z)
  · exact hp.elim
/-- two numbers -/
def oI (C : Int → Int → Prop) (f : Int → Int → T) : OpT
  | [.int i, .int j], P => C i j ∧ P (f i j)
  | _, _ => False
theorem ok_I {C : Int → Int → Prop} {f : Int → Int → V} {g : Int → Int → T} (hf : ∀ i j B H, At K B H (f i j) (g i j)) : OpOk K (r2 (rI C f)) (oI C g) := by
  refine OpOk.pair (fun B H v w t u P Q hB hv hw hp hq => ?_) fun ts P h => by unfold oI at h; split at h <;> first | exact ⟨_, _, rfl⟩ | exact h.elim
  unfold oI at hp
  split at hp
  · rename_i e; cases e
    cases hv.int; cases hw.int
    exact ⟨_, _, rfl, rfl, hp.1, hq _ _ H hp.2 (Same.refl H) (hf _ _ _ _)⟩
  · exact hp.elim
def oI0 (f : Int → Int → T) : OpT
  | [.int i, .int j], P => P (f i j)
  | _, _ => False
theorem ok_I0 {f : Int → Int → V} {g : Int → Int → T} (hf : ∀ i j B H, At K B H (f i j) (g i j)) : OpOk K (r2 (rI0 f)) (oI0 g) := by
  refine OpOk.pair (fun B H v w t u P Q hB hv hw hp hq => ?_) fun ts P h => by unfold oI0 at h; split at h <;> first | exact ⟨_, _, rfl⟩ | exact h.elim
  unfold oI0 at hp
  split at hp
  · rename_i e; cases e
    cases hv.int; cases hw.int
    exact ⟨_, _, rfl, rfl, hq _ _ H hp (Same.refl H) (hf _ _ _ _)⟩
  · exact hp.elim
def oSub : OpT := oI0 fun i j => .int (i - j)
def oDiv : OpT := oI (fun _ j => 0 < j ∧ j < 18446744073709551616) fun i j => .int (i / j)
def oMod : OpT := oI (fun _ j => 0 < j) fun i j => .int (i % j)
def oPow : OpT := oI (fun i j => 0 ≤ j ∧ j ≤ 1000000 ∧ -18446744073709551616 < i ∧ i < 18446744073709551616) fun i j => .int (i ^ j.toNat)
def oLe : OpT := oI0 fun i j => .bl (decide (i ≤ j))
def oGt : OpT := oI0 fun i j => .bl (decide (j < i))
def oGe : OpT := oI0 fun i j => .bl (decide (j ≤ i))
theorem ok_sub : OpOk K (r2 Hk.rSub) oSub := ok_I0 fun _ _ _ _ => .int _
theorem ok_mod : OpOk K (r2 rMod) oMod := ok_I fun _ _ _ _ => .int _
theorem ok_le : OpOk K (r2 rLeI) oLe := ok_I0 fun _ _ _ _ => .bl _
theorem ok_gt : OpOk K (r2 rGtI) oGt := ok_I0 fun _ _ _ _ => .bl _
theorem ok_ge : OpOk K (r2 rGeI) oGe := ok_I0 fun _ _ _ _ => .bl _
theorem ok_div : OpOk K (r2 rDiv) oDiv := by
  refine OpOk.pair (fun B H v w t u P Q hB hv hw hp hq => ?_) fun ts P h => by unfold oDiv oI at h; split at h <;> first | exact ⟨_, _, rfl⟩ | exact h.elim
  unfold oDiv oI at hp
  split at hp
  · rename_i e; cases e
    cases hv.int; cases hw.int
    exact v_div (s_div hp.1.1 hp.1.2) (hq _ _ H hp.2 (Same.refl H) (.int _))
  · exact hp.elim
theorem ok_pow : OpOk K (r2 rPow) oPow := by
  refine OpOk.pair (fun B H v w t u P Q hB hv hw hp hq => ?_) fun ts P h => by unfold oPow oI at h; split at h <;> first | exact ⟨_, _, rfl⟩ | exact h.elim
  unfold oPow oI at hp
  split at hp
  · rename_i e; cases e
    cases hv.int; cases hw.int
    exact v_pow (s_pow hp.1.1 hp.1.2.1 hp.1.2.2) (hq _ _ H hp.2 (Same.refl H) (.int _))
  · exact hp.elim
def oNeg : OpT
  | [.int i], P => P (.int (-i))
  | _, _ => False
theorem ok_neg : OpOk K (r1 rNeg) oNeg := by
  refine OpOk.uno (fun B H v t P Q hB hv hp hq => ?_) fun ts P h => by unfold oNeg at h; split at h <;> first | exact ⟨_, rfl⟩ | exact h.elim
  unfold oNeg at hp
  split at hp
  · rename_i e; cases e
    cases hv.int
    exact v_neg (hq _ _ H hp (Same.refl H) (.int _))
  · exact hp.elim
def oMul : OpT
  | [.int i, .int j], P => CMulW i j ∧ P (.int (i * j))
  | [.str z, .int k], P => (-1000 < k ∧ k < 1000 ∧ z.length ≤ 1000) ∧ P (.str (Txt.mul z k))
  | [.lst xs, .int k], P => (0 ≤ k ∧ k < 1000 ∧ xs.length ≤ 1000) ∧ P (.lst (List.replicate k.toNat xs).flatten)
  | _, _ => False
theorem ok_mul : OpOk K (r2 (rMulX K)) oMul := by
  refine OpOk.pair (fun B H v w t u P Q hB hv hw hp hq => ?_) fun ts P h => by unfold oMul at h; split at h <;> first | exact ⟨_, _, rfl⟩ | exact h.elim
  unfold oMul at hp
  split at hp
  · rename_i e; cases e
    cases hv.int; cases hw.int
    exact Or.inl (v_mulI hp.1 (hq _ _ H hp.2 (Same.refl H) (.int _)))
  · rename_i e; cases e
    cases hv.str; cases hw.int
    exact Or.inr ⟨_, _, rfl, rfl, hp.1.2.1, hp.1.1, hp.1.2.2, hq _ _ H hp.2 (Same.refl H) (.str _)⟩
  · rename_i e; cases e
    obtain ⟨a, xs, rfl, ha, al⟩ := hv.lst
    cases hw.int
    obtain ⟨h1, h2, h3⟩ := hp.1
    exact Or.inl (Or.inr ⟨a, _, xs, rfl, rfl, ha, by omega, by omega, Nat.le_trans (Nat.mul_le_mul (show xs.length ≤ 1000 by rw [al.length]; exact h3) (show _ ≤ 1000 by omega)) million, fun p hp' => hq _ _ _ hp.2 (same_new hp') (at_new hB hp' (al.rep _))⟩)
  · exact hp.elim
def oLt : OpT
  | [.int i, .int j], P => P (.bl (decide (i < j)))
  | [.str a, .str b], P => P (.bl (decide (a.cps.toList < b.cps.toList)))
  | _, _ => False
theorem ok_lt : OpOk K (r2 rLtU) oLt := by
  refine OpOk.pair (fun B H v w t u P Q hB hv hw hp hq => ?_) fun ts P h => by unfold oLt at h; split at h <;> first | exact ⟨_, _, rfl⟩ | exact h.elim
  unfold oLt at hp
  split at hp
  · rename_i e; cases e
    cases hv.int; cases hw.int
    exact v_lt (hq _ _ H hp (Same.refl H) (.bl _))
  · rename_i e; cases e
    cases hv.str; cases hw.str
    exact Or.inr ⟨_, _, rfl, rfl, hq _ _ H hp (Same.refl H) (.bl _)⟩
  · exact hp.elim
end
end Pu

namespace Pu
open PySem PySem.Spec PyProof.Rows L2 He Hk
/-! ### as the library's data -/
mutual
def T.toD : T → PyData
  | .bl b => .bool b
  | .int i => .int i
  | .str z => .str z
  | .lst xs => .list (T.toDs xs)
  | .tup xs => .tuple (T.toDs xs)
  | .dct kvs => .dict (T.toDk kvs)
  | _ => .none
def T.toDs : List T → List PyData
  | [] => []
  | t :: r => t.toD :: T.toDs r
def T.toDk : List (Key × T) → List (PyData × PyData)
  | [] => []
  | (k, t) :: r => (kD k, t.toD) :: T.toDk r
end
mutual
/-- none, truths, numbers, texts, lists, tuples, dicts alone; d: dicts too -/
def T.dat (d : Bool) : T → Bool
  | .non => true
  | .bl _ => true
  | .int _ => true
  | .str _ => true
  | .lst xs => T.datL d xs
  | .tup xs => T.datL d xs
  | .dct kvs => d && T.datK d kvs
  | _ => false
def T.datL (d : Bool) : List T → Bool
  | [] => true
  | t :: r => t.dat d && T.datL d r
def T.datK (d : Bool) : List (Key × T) → Bool
  | [] => true
  | (_, t) :: r => t.dat d && T.datK d r
end
section
variable {K : PySem.W.Frag} {O B B' : Addr → Prop} {H H' H1 H2 : Hp} {env env' env1 env2 : Env} {σ : L2.St} {p : Addr} {v : V} {t : T} {fr : Bool}
mutual
theorem At.dp : ∀ {v : V} {t : T}, At K B H v t → t.dat false = true → Dp K H v t.toD
  | _, _, .non, _ => .non
  | _, _, .bl b, _ => .bl b
  | _, _, .int i, _ => .int i
  | _, _, .str z, _ => .str z
  | _, _, .lst n e h, d => .lst (.inl (.inl e)) (AtL.dp h d)
  | _, _, .tup n e h, d => .tup (.inl e) (AtL.dp h d)
  | _, _, .tupK e h, d => .tup (.inr e) (AtL.dp h d)
  | _, _, .ty _, d => by cases d
  | _, _, .glo _, d => by cases d
  | _, _, .scr _ _, d => by cases d
  | _, _, .scrK _, d => by cases d
  | _, _, .dct _ _ _, d => by cases d
  | _, _, .ins _ _ _, d => by cases d
theorem AtL.dp : ∀ {v : List V} {t : List T}, AtL K B H v t → T.datL false t = true → DpAll K H v (T.toDs t)
  | _, _, .nil, _ => .nil
  | _, _, .cons h r, d => by
    obtain ⟨d1, d2⟩ := Bool.and_eq_true_iff.mp d
    exact .cons (At.dp h d1) (AtL.dp r d2)
end
theorem Br.dp (h : Br K B H v t) (d : t.dat false = true) : Dp K H v t.toD := by
  rcases h with h | ⟨p, rfl, h⟩
  · exact h.dp d
  · cases h with
    | lst e h => exact .lst (.inl (.inl e)) (h.dp d)
    | dct e h => cases d
    | ins e h => cases d
/-! ### == and != -/
def eqS (t u : T) : Option Bool := match t with
  | .int i => (match u with | .int j => some (decide (i = j)) | .non => some false | .str _ => some false | _ => none)
  | .str a => (match u with | .str b => some (decide (a = b)) | .non => some false | .int _ => some false | .bl _ => some false | _ => none)
  | .bl a => (match u with | .bl b => some (decide (a = b)) | .non => some false | .str _ => some false | _ => none)
  | .non => (match u with | .non => some true | .int _ => some false | .str _ => some false | .bl _ => some false | _ => none)
  | .lst xs => (match u with | .lst [] => some xs.isEmpty | _ => none)
  | .tup xs => (match u with | .tup [] => some xs.isEmpty | _ => none)
  | .dct xs => (match u with | .dct [] => some xs.isEmpty | _ => none)
  | _ => none
def oEq : OpT
  | [t, u], P => match eqS t u with
    | some b => P (.bl b)
    | none => (t.dat false = true ∧ u.dat false = true ∧ t.toD.depth ≤ 64) ∧ P (.bl (PyData.eqv t.toD u.toD))
  | _, _ => False
def oNe : OpT
  | [t, u], P => match eqS t u with
    | some b => P (.bl (!b))
    | none => (t.dat false = true ∧ u.dat false = true ∧ t.toD.depth ≤ 64) ∧ P (.bl (!PyData.eqv t.toD u.toD))
  | _, _ => False
theorem isEmpty_l {α β : Type} {xs : List α} {ys : List β} (h : xs.length = ys.length) : xs.isEmpty = ys.isEmpty := by
  cases xs <;> cases ys <;> first | rfl | cases h
theorem eq_case {t u : T} {b : Bool} {w : V} (e : eqS t u = some b) (hv : Br K B H v t) (hw : Br K B H w u) : (scal v w = true ∧ decide (v = w) = b) ∨
    (∃ a c xs, v = .ref a ∧ w = .ref c ∧ H a = some (.lst xs) ∧ H c = some (.lst []) ∧ xs.isEmpty = b) ∨ (∃ a c kvs, v = .ref a ∧ w = .ref c ∧ Rd H a (.dK kvs) ∧ Rd H c (.dK []) ∧ kvs.isEmpty = b) ∨ ∃ a c xs, v = .ref a ∧ w = .ref c ∧ SqT K H a xs ∧ SqT K H c [] ∧ xs.isEmpty = b := by
  cases t with
  | int i =>
    cases hv.int
    cases u with
    | int j => cases hw.int; cases e; exact .inl ⟨rfl, by simp⟩
    | non => cases hw.non; cases e; exact .inl ⟨rfl, by simp⟩
    | str z => cases hw.str; cases e; exact .inl ⟨rfl, by simp⟩
    | _ => cases e
  | str i =>
    cases hv.str
    cases u with
    | int j => cases hw.int; cases e; exact .inl ⟨rfl, by simp⟩
    | non => cases hw.non; cases e; exact .inl ⟨rfl, by simp⟩
    | str z => cases hw.str; cases e; exact .inl ⟨rfl, by simp⟩
    | bl z => cases hw.bl; cases e; exact .inl ⟨rfl, by simp⟩
    | _ => cases e
  | bl i =>
    cases hv.bl
    cases u with
    | non => cases hw.non; cases e; exact .inl ⟨rfl, by simp⟩
    | str z => cases hw.str; cases e; exact .inl ⟨rfl, by simp⟩
    | bl z => cases hw.bl; cases e; exact .inl ⟨rfl, by simp⟩
    | _ => cases e
  | non =>
    cases hv.non
    cases u with
    | int j => cases hw.int; cases e; exact .inl ⟨rfl, by simp⟩
    | non => cases hw.non; cases e; exact .inl ⟨rfl, by simp⟩
    | str z => cases hw.str; cases e; exact .inl ⟨rfl, by simp⟩
    | bl z => cases hw.bl; cases e; exact .inl ⟨rfl, by simp⟩
    | _ => cases e
  | lst ts =>
    obtain ⟨a, xs, rfl, ha, al⟩ := hv.lst
    cases u with
    | lst us =>
      obtain ⟨c, ys, rfl, hc, cl⟩ := hw.lst
      cases us with
      | cons _ _ => cases e
      | nil => cases cl; cases e; exact .inr (.inl ⟨a, c, xs, rfl, rfl, ha, hc, isEmpty_l al.length⟩)
    | _ => cases e
  | tup ts =>
    obtain ⟨a, xs, rfl, ha, al⟩ := hv.tup
    cases u with
    | tup us =>
      obtain ⟨c, ys, rfl, hc, cl⟩ := hw.tup
      cases us with
      | cons _ _ => cases e
      | nil => cases cl; cases e; exact .inr (.inr (.inr ⟨a, c, xs, rfl, rfl, ha, hc, isEmpty_l al.length⟩))
    | _ => cases e
  | dct ts =>
    obtain ⟨a, xs, rfl, ha, al⟩ := hv.dct
    cases u with
    | dct us =>
      obtain ⟨c, ys, rfl, hc, cl⟩ := hw.dct
      cases us with
      | cons _ _ => cases e
      | nil => cases cl; cases e; exact .inr (.inr (.inl ⟨a, c, xs, rfl, rfl, ha, hc, isEmpty_l al.length⟩))
    | _ => cases e
  | _ => cases e
theorem ok_eq : OpOk K (r2 (rEqY K)) oEq := by
  refine OpOk.pair (fun B H v w t u P Q hB hv hw hp hq => ?_) fun ts P h => by unfold oEq at h; split at h <;> first | exact ⟨_, _, rfl⟩ | exact h.elim
  unfold oEq at hp
  dsimp only at hp
  cases e : eqS t u with
  | none =>
    rw [e] at hp
    exact .inr (.inl ⟨_, _, hv.dp hp.1.1, hw.dp hp.1.2.1, hp.1.2.2, hq _ _ H hp.2 (Same.refl H) (.bl _)⟩)
  | some b =>
    rw [e] at hp
    have q := hq _ _ H hp (Same.refl H) (.bl _)
    rcases eq_case e hv hw with ⟨h1, rfl⟩ | ⟨a, c, xs, rfl, rfl, h1, h2, rfl⟩ | ⟨a, c, xs, rfl, rfl, h1, h2, rfl⟩ | ⟨a, c, xs, rfl, rfl, h1, h2, rfl⟩
    · exact .inl ⟨h1, q⟩
    · exact .inr (.inr (.inl ⟨a, c, xs, rfl, rfl, h1, h2, q⟩))
    · exact .inr (.inr (.inr (.inl ⟨a, c, xs, rfl, rfl, h1, h2, q⟩)))
    · exact .inr (.inr (.inr (.inr ⟨a, c, xs, rfl, rfl, h1, h2, q⟩)))
theorem ok_ne : OpOk K (r2 (rNeY K)) oNe := by
  refine OpOk.pair (fun B H v w t u P Q hB hv hw hp hq => ?_) fun ts P h => by unfold oNe at h; split at h <;> first | exact ⟨_, _, rfl⟩ | exact h.elim
  unfold oNe at hp
  dsimp only at hp
  cases e : eqS t u with
  | none =>
    rw [e] at hp
    exact .inr (.inl ⟨_, _, hv.dp hp.1.1, hw.dp hp.1.2.1, hp.1.2.2, hq _ _ H hp.2 (Same.refl H) (.bl _)⟩)
  | some b =>
    rw [e] at hp
    have q := hq _ _ H hp (Same.refl H) (.bl _)
    rcases eq_case e hv hw with ⟨h1, rfl⟩ | ⟨a, c, xs, rfl, rfl, h1, h2, rfl⟩ | ⟨a, c, xs, rfl, rfl, h1, h2, rfl⟩ | ⟨a, c, xs, rfl, rfl, h1, h2, rfl⟩
    · exact .inl ⟨h1, q⟩
    · exact .inr (.inr (.inl (.inl ⟨a, c, xs, rfl, rfl, h1, h2, q⟩)))
    · exact .inr (.inr (.inl (.inr ⟨a, c, xs, rfl, rfl, h1, h2, q⟩)))
    · exact .inr (.inr (.inr ⟨a, c, xs, rfl, rfl, h1, h2, q⟩))
/-! ### in, not in -/
def flatT : T → Bool
  | .non => true
  | .bl _ => true
  | .int _ => true
  | .str _ => true
  | _ => false
def eqF : T → T → Bool
  | .non, .non => true
  | .bl a, .bl b => a == b
  | .bl a, .int b => (if a then 1 else 0) == b
  | .int a, .bl b => a == (if b then 1 else 0)
  | .int a, .int b => a == b
  | .str a, .str b => a == b
  | _, _ => false
def inT (x : T) (xs : List T) : Bool := xs.any fun y => eqF y x
theorem at_flat (h : At K B H v t) (f : flatT t = true) : flatV v = true := by
  cases h <;> first | rfl | exact absurd f Bool.false_ne_true
theorem at_eqF {w : V} {u : T} (h : At K B H v t) (h2 : At K B H w u) (f : flatT t = true) (f2 : flatT u = true) : eqV v w = eqF t u := by
  cases h <;> first | exact absurd f Bool.false_ne_true | (cases h2 <;> first | rfl | exact absurd f2 Bool.false_ne_true)
theorem atl_flat : ∀ {xs : List V} {ts : List T}, AtL K B H xs ts → ts.all flatT = true → xs.all flatV = true
  | _, _, .nil, _ => rfl
  | _, _, .cons h r, f => by
    rw [List.all_cons] at f ⊢
    obtain ⟨f1, f2⟩ := Bool.and_eq_true_iff.mp f
    rw [at_flat h f1, atl_flat r f2]; rfl
theorem atl_in {x : V} {u : T} (hx : At K B H x u) (fx : flatT u = true) : ∀ {xs : List V} {ts : List T}, AtL K B H xs ts → ts.all flatT = true → inV x xs = inT u ts
  | _, _, .nil, _ => rfl
  | _, _, .cons h r, f => by
    rw [List.all_cons] at f
    obtain ⟨f1, f2⟩ := Bool.and_eq_true_iff.mp f
    unfold inV inT
    rw [List.any_cons, List.any_cons, at_eqF h hx f1 fx]
    have := atl_in hx fx r f2
    unfold inV inT at this
    rw [this]
theorem br_flat (h : Br K B H v t) (f : flatT t = true) : At K B H v t := same_at h fun p z => by cases z <;> cases f
def oInG (neg : Bool) : OpT
  | [x, c], P => (match c with
    | .str z => (match x with | .str x => x.length = 1 ∧ P (.bl (neg ^^ decide (x.cps.getD 0 0 ∈ z.cps.toList))) | _ => False)
    | .lst xs => (flatT x = true ∧ xs.all flatT = true) ∧ P (.bl (neg ^^ inT x xs))
    | .tup xs => (flatT x = true ∧ xs.all flatT = true) ∧ P (.bl (neg ^^ inT x xs))
    | _ => False)
  | _, _ => False
def oIn : OpT := oInG false
def oNotIn : OpT := oInG true
theorem one_sign {x : Str} (h : x.length = 1) : x = ⟨#[x.cps.getD 0 0]⟩ := by
  obtain ⟨a⟩ := x
  have h' : a.size = 1 := h
  have e : a = #[a.getD 0 0] := by
    apply Array.ext
    · simpa using h'
    · intro i h1 h2
      have : i = 0 := by omega
      subst this
      simp [Array.getD, h']
  exact congrArg Str.mk e
theorem ok_in : OpOk K (r2 (rInU K)) oIn := by
  refine OpOk.pair (fun B H v w t u P Q hB hv hw hp hq => ?_) fun ts P h => by unfold oIn oInG at h; split at h <;> first | exact ⟨_, _, rfl⟩ | exact h.elim
  unfold oIn oInG at hp
  dsimp only at hp
  cases u with
  | str z =>
    cases t with
    | str x =>
      cases hv.str; cases hw.str
      have q := hq _ _ H hp.2 (Same.refl H) (.bl _)
      rw [Bool.false_xor] at q
      exact .inl ⟨_, _, congrArg V.str (one_sign hp.1), rfl, q⟩
    | _ => exact hp.elim
  | lst ts =>
    obtain ⟨a, xs, rfl, ha, al⟩ := hw.lst
    have av := br_flat hv hp.1.1
    have q := hq _ _ H hp.2 (Same.refl H) (.bl _)
    rw [Bool.false_xor, ← atl_in av hp.1.1 al hp.1.2] at q
    exact .inr ⟨a, xs, rfl, .inl (.inl (.inl ha)), at_flat av hp.1.1, atl_flat al hp.1.2, q⟩
  | tup ts =>
    obtain ⟨a, xs, rfl, ha, al⟩ := hw.tup
    have av := br_flat hv hp.1.1
    have q := hq _ _ H hp.2 (Same.refl H) (.bl _)
    rw [Bool.false_xor, ← atl_in av hp.1.1 al hp.1.2] at q
    exact .inr ⟨a, xs, rfl, .inr ha, at_flat av hp.1.1, atl_flat al hp.1.2, q⟩
  | _ => exact hp.elim
theorem ok_notIn : OpOk K (r2 (rNotInU K)) oNotIn := by
  refine OpOk.pair (fun B H v w t u P Q hB hv hw hp hq => ?_) fun ts P h => by unfold oNotIn oInG at h; split at h <;> first | exact ⟨_, _, rfl⟩ | exact h.elim
  unfold oNotIn oInG at hp
  dsimp only at hp
  cases u with
  | str z =>
    cases t with
    | str x =>
      cases hv.str; cases hw.str
      have q := hq _ _ H hp.2 (Same.refl H) (.bl _)
      rw [Bool.true_xor] at q
      exact .inl ⟨_, _, congrArg V.str (one_sign hp.1), rfl, q⟩
    | _ => exact hp.elim
  | lst ts =>
    obtain ⟨a, xs, rfl, ha, al⟩ := hw.lst
    have av := br_flat hv hp.1.1
    have q := hq _ _ H hp.2 (Same.refl H) (.bl _)
    rw [Bool.true_xor, ← atl_in av hp.1.1 al hp.1.2] at q
    exact .inr ⟨a, xs, rfl, .inl (.inl (.inl ha)), at_flat av hp.1.1, atl_flat al hp.1.2, q⟩
  | tup ts =>
    obtain ⟨a, xs, rfl, ha, al⟩ := hw.tup
    have av := br_flat hv hp.1.1
    have q := hq _ _ H hp.2 (Same.refl H) (.bl _)
    rw [Bool.true_xor, ← atl_in av hp.1.1 al hp.1.2] at q
    exact .inr ⟨a, xs, rfl, .inr ha, at_flat av hp.1.1, atl_flat al hp.1.2, q⟩
  | _ => exact hp.elim
/-! ### items, slices -/
def oIx : OpT
  | [.lst xs, .int i], P => match atI xs i with | some t => P t | none => False
  | [.tup xs, .int i], P => match atI xs i with | some t => P t | none => False
  | [.scr ns, .int i], P => match atI ns i with | some n => P (.int n) | none => False
  | [.str z, .int i], P => z.length ≤ 16000000 ∧ match atI z.cps.toList i with | some c => P (.str ⟨#[c]⟩) | none => False
  | _, _ => False
theorem atI_map {α β : Type} {f : α → β} {xs : List α} {i : Int} {x : α} (h : atI xs i = some x) : atI (xs.map f) i = some (f x) := by
  unfold atI at h ⊢
  rw [List.length_map]
  cases q : ixN xs.length i with
  | none => rw [q] at h; cases h
  | some j =>
    rw [q] at h
    show (xs.map f)[j]? = _
    rw [List.getElem?_map, show xs[j]? = some x from h]; rfl
theorem ok_ix : OpOk K (r2 (rIxU K)) oIx := by
  refine OpOk.pair (fun B H v w t u P Q hB hv hw hp hq => ?_) fun ts P h => by unfold oIx at h; split at h <;> first | exact ⟨_, _, rfl⟩ | exact h.elim
  unfold oIx at hp
  split at hp
  · rename_i e; cases e
    obtain ⟨a, xs, rfl, ha, al⟩ := hv.lst
    cases hw.int
    cases e : atI _ _ with
    | none => rw [e] at hp; exact hp.elim
    | some t =>
      rw [e] at hp
      obtain ⟨x, e1, e2⟩ := al.at e
      exact v_ixL ha e1 (hq _ _ H hp (Same.refl H) e2)
  · rename_i e; cases e
    obtain ⟨a, xs, rfl, ha, al⟩ := hv.tup
    cases hw.int
    cases e : atI _ _ with
    | none => rw [e] at hp; exact hp.elim
    | some t =>
      rw [e] at hp
      obtain ⟨x, e1, e2⟩ := al.at e
      exact Or.inr (Or.inl ⟨a, xs, _, x, rfl, rfl, ha, e1, hq _ _ H hp (Same.refl H) e2⟩)
  · rename_i e; cases e
    obtain ⟨a, rfl, ha⟩ := hv.scr
    cases hw.int
    cases e : atI _ _ with
    | none => rw [e] at hp; exact hp.elim
    | some t =>
      rw [e] at hp
      exact v_ixQ ha (atI_map e) (hq _ _ H hp (Same.refl H) (.int _))
  · rename_i e; cases e
    cases hv.str
    cases hw.int
    obtain ⟨h1, hp⟩ := hp
    cases e : atI _ _ with
    | none => rw [e] at hp; exact hp.elim
    | some t =>
      rw [e] at hp
      exact v_ixS (Nat.le_trans h1 line16) e (hq _ _ H hp (Same.refl H) (.str _))
  · exact hp.elim
/-- d[k] -/
def oDGet : OpT
  | [.dct kvs, k], P => match keyT k with | some k => (match valT kvs k with | some t => P t | none => False) | none => False
  | _, _ => False
theorem ok_dget : OpOk K (r2 fun x y H Q => ∃ a v, x = .ref a ∧ DGet H a y (some v) ∧ Q v H) oDGet := by
  refine OpOk.pair (fun B H v w t u P Q hB hv hw hp hq => ?_) fun ts P h => by unfold oDGet at h; split at h <;> first | exact ⟨_, _, rfl⟩ | exact h.elim
  unfold oDGet at hp
  split at hp
  · rename_i e; cases e
    rename_i ks
    obtain ⟨a, kvs, rfl, ha, al⟩ := hv.dct
    cases e : keyT u with
    | none => rw [e] at hp; exact hp.elim
    | some k =>
      rw [e] at hp
      dsimp only at hp
      cases e2 : valT ks k with
      | none => rw [e2] at hp; exact hp.elim
      | some t =>
        rw [e2] at hp
        obtain ⟨x, e3, e4⟩ := al.val e2
        exact ⟨a, x, rfl, .inl ⟨kvs, k, ha, at_key hw e, e3.symm⟩, hq _ _ H hp (Same.refl H) e4⟩
  · exact hp.elim
theorem rf_dget {ta tb : TE} {pa : PA} (ha : RefA K (tCons ta (tCons tb tNil)) pa) : RefE K (tDGet ta tb) (pOp oDGet pa) := rf_op2 (r := fun x y H Q => ∃ a v, x = .ref a ∧ DGet H a y (some v) ∧ Q v H) ok_dget ha
/-! slices -/
def oSl : T → Option Int → Option Int → (T → Prop) → Prop
  | .lst xs, lo, hi, P => P (.lst (cutT xs lo hi))
  | .tup xs, lo, hi, P => P (.tup (cutT xs lo hi))
  | .str z, lo, hi, P => z.length ≤ 16000000 ∧ P (.str (cutS z lo hi))
  | _, _, _, _ => False
end
end Pu

namespace Pu
open PySem PySem.Spec PyProof.Rows L2 He Hk
section
variable {K : PySem.W.Frag} {O B B' : Addr → Prop} {H H' H1 H2 : Hp} {env env' env1 env2 : Env} {σ : L2.St} {p : Addr} {v : V} {t : T} {fr : Bool}
theorem ok_sl {lo hi : Option Int} {P : T → Prop} {Q : VK} (hB : ∀ a, B a → H a ≠ none) (hv : Br K B H v t) (hp : oSl t lo hi P) (hq : ∀ t v H', P t → Same H H' → At K B H' v t → Q v H') : rSlU K v lo hi H Q := by
  unfold oSl at hp
  split at hp
  · obtain ⟨a, xs, rfl, ha, al⟩ := hv.lst
    exact Or.inr (Or.inl ⟨a, xs, rfl, .inl (.inl ha), fun p hn => hq _ _ _ hp (same_new hn) (at_new hB hn (al.cut _ _))⟩)
  · have hv' := hv
    obtain ⟨a, xs, rfl, ha, al⟩ := hv.tup
    refine Or.inr (Or.inr ⟨a, xs, rfl, ha, fun ⟨z1, z2⟩ => ?_, fun _ p hn => hq _ _ _ hp (same_new hn) (at_newT hB hn (al.cut _ _))⟩)
    refine hq _ _ H hp (Same.refl H) ?_
    rename_i ts _
    have ec : cutT ts lo hi = ts := by
      unfold cutT
      rw [← al.length, z1, z2, List.drop_zero, al.length, Nat.sub_zero, List.take_length]
    rw [ec]
    exact same_at hv' fun p z => nomatch z
  · cases hv.str
    exact v_slS (Nat.le_trans hp.1 line16) (hq _ _ H hp.2 (Same.refl H) (.str _))
  · exact hp.elim
def pSl (pe : PE) (lo hi : PO) : PE := fun env P => pe env fun t env1 => lo env1 fun l env2 => hi env2 fun u env3 => oSl t l u fun z => P z env3
def pSlV (i : Nat) (lo hi : PO) : PE := fun env P => has env i ∧ lo env fun l env2 => hi env2 fun u env3 => match slotT env3[i]? with
  | some t => oSl t l u fun z => P z env3
  | none => False
theorem rf_sl {te : TE} {tl th : TO} {pe : PE} {lo hi : PO} (he : RefE K te pe) (hl : RefO K tl lo) (hh : RefO K th hi) : RefE K (tSl (rSlU K) te tl th) (pSl pe lo hi) := by
  intro O H σ env P Q R hp hq
  refine he O H σ env _ _ R hp fun t env1 v H1 p1 r1 s1 a1 => ?_
  refine hl O H1 σ env1 _ _ r1 p1 fun l env2 H2 p2 r2 s2 => ?_
  refine hh O H2 σ env2 _ _ r2 p2 fun u env3 H3 p3 r3 s3 => ?_
  exact ok_sl (fun a q => r3.bdom q) (.inl (a1.keep (s2.trans s3).stb)) p3 fun z x H4 p4 sm a4 => hq z env3 x H4 p4 (r3.same sm) ((s1.trans (s2.trans s3)).trans (.same sm)) a4
theorem rf_slV {i : Nat} {tl th : TO} {lo hi : PO} (hl : RefO K tl lo) (hh : RefO K th hi) : RefE K (tSl (rSlU K) (tVar i) tl th) (pSlV i lo hi) := by
  rintro O H σ env P Q R ⟨hs, hp⟩ hq
  obtain ⟨v, ev⟩ := R.has hs
  refine ⟨v, ev, ?_⟩
  refine hl O H σ env _ _ R hp fun l env2 H2 p2 r2 s2 => ?_
  refine hh O H2 σ env2 _ _ r2 p2 fun u env3 H3 p3 r3 s3 => ?_
  cases e : slotT env3[i]? with
  | none => rw [e] at p3; exact p3.elim
  | some t =>
    rw [e] at p3
    exact ok_sl (fun a q => r3.bdom q) (br_slot r3 ev e) p3 fun z x H4 p4 sm a4 => hq z env3 x H4 p4 (r3.same sm) ((s2.trans s3).trans (.same sm)) a4
/-! ### calls of what is built in -/
def oLen : OpT
  | [t], P => (match t with
    | .lst xs => P (.int xs.length)
    | .tup xs => P (.int xs.length)
    | .dct xs => P (.int xs.length)
    | .scr ns => P (.int ns.length)
    | .str z => z.length ≤ 16000000 ∧ P (.int z.length)
    | _ => False)
  | _, _ => False
theorem ok_len : OpOk K (rLenX K) oLen := by
  refine OpOk.uno (fun B H v t P Q hB hv hp hq => ?_) fun ts P h => by unfold oLen at h; split at h <;> first | exact ⟨_, rfl⟩ | exact h.elim
  unfold oLen at hp
  dsimp only at hp
  cases t with
  | lst ts =>
    obtain ⟨a, xs, rfl, ha, al⟩ := hv.lst
    exact .inl (v_lenL ha (by rw [al.length]; exact hq _ _ H hp (Same.refl H) (.int _)))
  | tup ts =>
    obtain ⟨a, xs, rfl, ha, al⟩ := hv.tup
    exact .inl (Or.inl ⟨.ref a, xs.length, rfl, Or.inr ⟨xs, ha, rfl⟩, by rw [al.length]; exact hq _ _ H hp (Same.refl H) (.int _)⟩)
  | dct ts =>
    obtain ⟨a, xs, rfl, ha, al⟩ := hv.dct
    exact .inr ⟨a, xs, rfl, ha, by rw [al.length]; exact hq _ _ H hp (Same.refl H) (.int _)⟩
  | scr ns =>
    obtain ⟨a, rfl, ha⟩ := hv.scr
    exact .inl (v_lenQ ha (by rw [List.length_map]; exact hq _ _ H hp (Same.refl H) (.int _)))
  | str z =>
    cases hv.str
    exact .inl (v_lenS (Nat.le_trans hp.1 line16) (hq _ _ H hp.2 (Same.refl H) (.int _)))
  | _ => exact hp.elim
/-- the types that are asked for -/
def tyN : T → Option String
  | .non => some "NoneType"
  | .bl _ => some "bool"
  | .int _ => some "int"
  | .str _ => some "str"
  | .lst _ => some "list"
  | .scr _ => some "list"
  | .tup _ => some "tuple"
  | .dct _ => some "dict"
  | _ => none
def oIsi : OpT
  | [t, .ty n], P => match tyN t with | some a => (match kitB a n with | some b => P (.bl b) | none => False) | none => False
  | _, _ => False
theorem br_ty {a : String} (h : Br K B H v t) (e : tyN t = some a) : TyX K H v (.type a) := by
  cases t with
  | non => cases e; cases h.non; exact .base .non
  | bl b => cases e; cases h.bl; exact .base (.bl b)
  | int b => cases e; cases h.int; exact .base (.int b)
  | str b => cases e; cases h.str; exact .base (.str b)
  | lst ts => cases e; obtain ⟨p, xs, rfl, ha, al⟩ := h.lst; exact .base (.lst ha)
  | scr ts =>
    cases e
    obtain ⟨p, rfl, ha⟩ := h.scr
    rcases ha with (ha | ⟨o, ha⟩) | ⟨o, its, n, h1, h2, _⟩
    · exact .base (.lst ha)
    · exact .base (.frz ha)
    · exact .kList h1 h2
  | tup ts =>
    cases e
    obtain ⟨p, xs, rfl, ha, al⟩ := h.tup
    rcases ha with (ha | ⟨o, ha⟩) | ⟨o, its, n, h1, h2, _⟩
    · exact .base (.tup ha)
    · exact .fTuple ha
    · exact .kTuple h1 h2
  | dct ts =>
    cases e
    obtain ⟨p, xs, rfl, ha, al⟩ := h.dct
    rcases ha with ha | ⟨o, ha⟩
    · exact .base (.dK ha)
    · exact .fDict ha
  | _ => cases e
theorem ok_isi : OpOk K (rIsi K) oIsi := by
  intro B H vs ts P Q hB hb hp hq
  unfold oIsi at hp
  split at hp
  · rename_i _ t n
    obtain ⟨x, c, rfl, hx, hc⟩ := hb.two rfl
    cases hc.ty
    cases e : tyN t with
    | none => rw [e] at hp; exact hp.elim
    | some a =>
      rw [e] at hp
      dsimp only at hp
      cases e2 : kitB a n with
      | none => rw [e2] at hp; exact hp.elim
      | some b =>
        rw [e2] at hp
        exact ⟨x, .ty n, _, .type n, b, rfl, ClsV.ty n, br_ty hx e, kit_ty e2, hq _ _ H hp (Same.refl H) (.bl _)⟩
  · exact hp.elim
def boolsT : List T → Option (List Bool)
  | [] => some []
  | .bl b :: r => match boolsT r with | some bs => some (b :: bs) | none => none
  | _ => none
def intsT : List T → Option (List Int)
  | [] => some []
  | .int b :: r => match intsT r with | some bs => some (b :: bs) | none => none
  | _ => none
def strsT : List T → Option (List Str)
  | [] => some []
  | .str b :: r => match strsT r with | some bs => some (b :: bs) | none => none
  | _ => none
theorem at_bools : ∀ {xs : List V} {ts : List T} {bs : List Bool}, AtL K B H xs ts → boolsT ts = some bs → xs = bs.map V.bl
  | _, _, _, .nil, e => by cases e; rfl
  | _, _, _, .cons (t := t) (ts := ts) h r, e => by
    cases t with
    | bl b =>
      unfold boolsT at e
      cases q : boolsT ts with
      | none => rw [q] at e; cases e
      | some cs => rw [q] at e; cases e; cases h; rw [at_bools r q]; rfl
    | _ => cases e
theorem at_ints : ∀ {xs : List V} {ts : List T} {bs : List Int}, AtL K B H xs ts → intsT ts = some bs → xs = bs.map V.int
  | _, _, _, .nil, e => by cases e; rfl
  | _, _, _, .cons (t := t) (ts := ts) h r, e => by
    cases t with
    | int b =>
      unfold intsT at e
      cases q : intsT ts with
      | none => rw [q] at e; cases e
      | some cs => rw [q] at e; cases e; cases h; rw [at_ints r q]; rfl
    | _ => cases e
theorem at_strs : ∀ {xs : List V} {ts : List T} {bs : List Str}, AtL K B H xs ts → strsT ts = some bs → xs = bs.map V.str
  | _, _, _, .nil, e => by cases e; rfl
  | _, _, _, .cons (t := t) (ts := ts) h r, e => by
    cases t with
    | str b =>
      unfold strsT at e
      cases q : strsT ts with
      | none => rw [q] at e; cases e
      | some cs => rw [q] at e; cases e; cases h; rw [at_strs r q]; rfl
    | _ => cases e
theorem bools_map (bs : List Bool) : boolsT (bs.map T.bl) = some bs := by
  induction bs with
  | nil => rfl
  | cons b r ih => show (match boolsT (r.map T.bl) with | some bs => some (b :: bs) | none => none) = _; rw [ih]
theorem ints_map (bs : List Int) : intsT (bs.map T.int) = some bs := by
  induction bs with
  | nil => rfl
  | cons b r ih => show (match intsT (r.map T.int) with | some bs => some (b :: bs) | none => none) = _; rw [ih]
theorem strs_map (bs : List Str) : strsT (bs.map T.str) = some bs := by
  induction bs with
  | nil => rfl
  | cons b r ih => show (match strsT (r.map T.str) with | some bs => some (b :: bs) | none => none) = _; rw [ih]
def oAll : OpT
  | [.lst ts], P => match boolsT ts with | some bs => P (.bl (bs.all id)) | none => False
  | _, _ => False
theorem ok_all : OpOk K (rAll K) oAll := by
  refine OpOk.uno (fun B H v t P Q hB hv hp hq => ?_) fun ts P h => by unfold oAll at h; split at h <;> first | exact ⟨_, rfl⟩ | exact h.elim
  unfold oAll at hp
  split at hp
  · rename_i ts e; cases e
    obtain ⟨a, xs, rfl, ha, al⟩ := hv.lst
    cases e : boolsT ts with
    | none => rw [e] at hp; exact hp.elim
    | some bs =>
      rw [e] at hp
      rw [at_bools al e] at ha
      exact ⟨a, bs, rfl, .inl (.inl ha), hq _ _ H hp (Same.refl H) (.bl _)⟩
  · exact hp.elim
def maxL : List Int → Int
  | [] => 0
  | [a] => a
  | a :: r => max a (maxL r)
def minL : List Int → Int
  | [] => 0
  | [a] => a
  | a :: r => min a (minL r)
theorem maxL_is : ∀ {ns : List Int} {m : Int}, m ∈ ns → (∀ y, y ∈ ns → y ≤ m) → m = maxL ns
  | [], m, h, _ => by simp at h
  | [a], m, h, _ => by simpa [maxL] using h
  | a :: b :: r, m, h, hb => by
    have key : ∀ l : List Int, l ≠ [] → maxL l ∈ l ∧ ∀ y, y ∈ l → y ≤ maxL l := by
      intro l
      induction l with
      | nil => intro h; exact absurd rfl h
      | cons x xs ih =>
        intro _
        cases xs with
        | nil => exact ⟨by simp [maxL], by simp [maxL]⟩
        | cons y ys =>
          obtain ⟨h1, h2⟩ := ih (by simp)
          have e : maxL (x :: y :: ys) = max x (maxL (y :: ys)) := rfl
          rw [e]
          refine ⟨?_, ?_⟩
          · by_cases c : x ≤ maxL (y :: ys)
            · rw [Int.max_eq_right c]; exact List.mem_cons_of_mem _ h1
            · rw [Int.max_eq_left (by omega)]; exact List.mem_cons_self
          · intro z hz
            rcases List.mem_cons.mp hz with rfl | hz
            · omega
            · have := h2 z hz; omega
    obtain ⟨k1, k2⟩ := key (a :: b :: r) (by simp)
    have := hb _ k1
    have := k2 _ h
    omega
def oMax : OpT
  | [.lst ts], P => match intsT ts with | some ns => ns ≠ [] ∧ P (.int (maxL ns)) | none => False
  | _, _ => False
theorem ok_max : OpOk K (rMax K) oMax := by
  refine OpOk.uno (fun B H v t P Q hB hv hp hq => ?_) fun ts P h => by unfold oMax at h; split at h <;> first | exact ⟨_, rfl⟩ | exact h.elim
  unfold oMax at hp
  split at hp
  · rename_i ts e; cases e
    obtain ⟨a, xs, rfl, ha, al⟩ := hv.lst
    cases e : intsT ts with
    | none => rw [e] at hp; exact hp.elim
    | some ns =>
      rw [e] at hp
      rw [at_ints al e] at ha
      refine ⟨a, ns, rfl, .inl (.inl ha), ?_, fun m h1 h2 => ?_⟩
      · cases ns with
        | nil => exact absurd rfl hp.1
        | cons _ _ => exact Nat.succ_pos _
      · rw [maxL_is h1 h2]
        exact hq _ _ H hp.2 (Same.refl H) (.int _)
  · exact hp.elim
def oMax2 : OpT
  | [.int i, .int j], P => P (.int (if j > i then j else i))
  | _, _ => False
def oMin2 : OpT
  | [.int i, .int j], P => P (.int (if j < i then j else i))
  | _, _ => False
theorem ok_max2 : OpOk K rMax2 oMax2 := by
  intro B H vs ts P Q hB hb hp hq
  unfold oMax2 at hp
  split at hp
  · obtain ⟨x, c, rfl, hx, hc⟩ := hb.two rfl
    cases hx.int; cases hc.int
    exact v_max2 (hq _ _ H hp (Same.refl H) (.int _))
  · exact hp.elim
theorem ok_min2 : OpOk K rMin2 oMin2 := by
  intro B H vs ts P Q hB hb hp hq
  unfold oMin2 at hp
  split at hp
  · obtain ⟨x, c, rfl, hx, hc⟩ := hb.two rfl
    cases hx.int; cases hc.int
    exact v_min2 (hq _ _ H hp (Same.refl H) (.int _))
  · exact hp.elim
def oListD : OpT
  | [.dct kvs], P => P (.lst (kvs.map fun kv => kT kv.1))
  | _, _ => False
theorem ok_listD : OpNew K rListD oListD := by
  intro B H vs ts P Q hB hb hp hq
  unfold oListD at hp
  split at hp
  · obtain ⟨x, rfl, hx⟩ := hb.one rfl
    obtain ⟨a, kvs, rfl, ha, al⟩ := hx.dct
    exact ⟨a, kvs, rfl, ha, fun p hn => hq _ _ _ hp (same_new hn) hn (holds_new (a := p) hn al.keysT)⟩
  · exact hp.elim
def oListV : OpT
  | [.dct kvs], P => P (.lst (kvs.map (·.2)))
  | _, _ => False
theorem rf_listVals {te : TE} {pa : PA} (ha : RefA K (tCons te tNil) pa) : RefF K (tListVals te) (pOp oListV pa) := by
  refine rf_cbF (r := r1 fun x H1 Q => ∃ (d : Addr) (kvs : List (Key × V)), x = .ref d ∧ Rd H1 d (.dK kvs) ∧ ∀ p, H1 p = none → Q (.ref p) (upd H1 p (.lst (kvs.map (·.2))))) ?_ ha
  intro B H vs ts P Q hB hb hp hq
  unfold oListV at hp
  split at hp
  · obtain ⟨x, rfl, hx⟩ := hb.one rfl
    obtain ⟨a, kvs, rfl, ha, al⟩ := hx.dct
    exact ⟨a, kvs, rfl, ha, fun p hn => hq _ _ _ hp (same_new hn) hn (holds_new (a := p) hn al.vals)⟩
  · exact hp.elim
/-- pairs for a dict -/
def pairs : List T → Option (List (Key × T))
  | [] => some []
  | .tup [k, t] :: r => match keyT k with | some k => (match pairs r with | some kvs => some ((k, t) :: kvs) | none => none) | none => none
  | _ => none
theorem pairs_cons {k t : T} {r : List T} : pairs (.tup [k, t] :: r) = match keyT k with | some k => (match pairs r with | some kvs => some ((k, t) :: kvs) | none => none) | none => none := rfl
def oDict : OpT
  | [.dct kvs], P => P (.dct kvs)
  | [.lst ts], P => match pairs ts with | some kvs => P (.dct (mergeT [] kvs)) | none => False
  | _, _ => False
theorem at_pairs : ∀ {xs : List V} {ts : List T} {kvs : List (Key × T)}, AtL K B H xs ts → pairs ts = some kvs → ∃ (ps : List Addr) (ks : List (Key × V)), xs = ps.map V.ref ∧ Paired (fun p kv => SqT K H p [kV kv.1, kv.2]) ps ks ∧ AtK K B H ks kvs
  | _, _, _, .nil, e => by cases e; exact ⟨[], [], rfl, .nil, .nil⟩
  | _, _, kvs, .cons (t := t) (ts := ts) h r, e => by
    cases t with
    | tup us =>
      match us, e with
      | [k, u], e =>
        rw [pairs_cons] at e
        cases e1 : keyT k with
        | none => rw [e1] at e; cases e
        | some k' =>
          rw [e1] at e
          dsimp only at e
          cases e2 : pairs ts with
          | none => rw [e2] at e; cases e
          | some kvs' =>
            rw [e2] at e
            cases e
            obtain ⟨ps, ks, rfl, h1, h2⟩ := at_pairs r e2
            obtain ⟨a, ys, rfl, ha, al⟩ := Br.tup (.inl h)
            cases al with
            | cons b1 al =>
              cases al with
              | cons b2 al =>
                cases al
                have ek := at_key (.inl b1) e1
                subst ek
                exact ⟨a :: ps, (k', _) :: ks, rfl, .cons ha h1, .cons b2 h2⟩
      | [], e => cases e
      | [_], e => cases e
      | _ :: _ :: _ :: _, e => cases e
    | _ => cases e
theorem ok_dict : OpNew K (rDictU K) oDict := by
  intro B H vs ts P Q hB hb hp hq
  unfold oDict at hp
  split at hp
  · obtain ⟨x, rfl, hx⟩ := hb.one rfl
    obtain ⟨a, kvs, rfl, ha, al⟩ := hx.dct
    exact Or.inl ⟨a, kvs, rfl, ha, fun p hn => hq _ _ _ hp (same_new hn) hn (holds_newD hn al)⟩
  · obtain ⟨x, rfl, hx⟩ := hb.one rfl
    obtain ⟨a, xs, rfl, ha, al⟩ := hx.lst
    rename_i _ ts
    cases e : pairs ts with
    | none => rw [e] at hp; exact hp.elim
    | some kvs =>
      rw [e] at hp
      obtain ⟨ps, ks, rfl, h1, h2⟩ := at_pairs al e
      exact Or.inr ⟨a, ps, ks, rfl, .inl (.inl ha), h1, fun p hn => hq _ _ _ hp (same_new hn) hn (holds_newD hn (h2.merge .nil))⟩
  · exact hp.elim
def oTuple : OpT
  | [.lst ts], P => P (.tup ts)
  | [.tup ts], P => P (.tup ts)
  | _, _ => False
theorem ok_tuple : OpOk K (rTupleU K) oTuple := by
  intro B H vs ts P Q hB hb hp hq
  unfold oTuple at hp
  split at hp
  · obtain ⟨x, rfl, hx⟩ := hb.one rfl
    obtain ⟨a, xs, rfl, ha, al⟩ := hx.lst
    exact ⟨a, xs, rfl, .inl ⟨.inl (.inl ha), fun p hn => hq _ _ _ hp (same_new hn) (at_newT hB hn al)⟩⟩
  · obtain ⟨x, rfl, hx⟩ := hb.one rfl
    have hx' := hx
    obtain ⟨a, xs, rfl, ha, al⟩ := hx.tup
    exact ⟨a, xs, rfl, .inr ⟨ha, hq _ _ H hp (Same.refl H) (same_at hx' fun p z => nomatch z)⟩⟩
  · exact hp.elim
def oInt1 : OpT
  | [.int i], P => P (.int i)
  | [.bl b], P => P (.int (if b then 1 else 0))
  | _, _ => False
theorem ok_int1 : OpOk K rInt1 oInt1 := by
  intro B H vs ts P Q hB hb hp hq
  unfold oInt1 at hp
  split at hp
  · obtain ⟨x, rfl, hx⟩ := hb.one rfl
    cases hx.int
    exact .inl ⟨_, rfl, hq _ _ H hp (Same.refl H) (.int _)⟩
  · obtain ⟨x, rfl, hx⟩ := hb.one rfl
    cases hx.bl
    exact .inr ⟨_, rfl, hq _ _ H hp (Same.refl H) (.int _)⟩
  · exact hp.elim
def isNon : T → Bool
  | .non => true
  | _ => false
def oIsN : OpT
  | [t, .non], P => P (.bl (isNon t))
  | _, _ => False
def oNotN : OpT
  | [t, .non], P => P (.bl (!isNon t))
  | _, _ => False
theorem br_non (h : Br K B H v t) : decide (v = .non) = isNon t := by
  rcases h with h | ⟨p, rfl, h⟩
  · cases h <;> rfl
  · cases h <;> rfl
theorem ok_isN : OpOk K (r2 Hk.rIsN) oIsN := by
  intro B H vs ts P Q hB hb hp hq
  unfold oIsN at hp
  split at hp
  · obtain ⟨x, c, rfl, hx, hc⟩ := hb.two rfl
    cases hc.non
    exact ⟨rfl, by rw [br_non hx]; exact hq _ _ H hp (Same.refl H) (.bl _)⟩
  · exact hp.elim
theorem ok_notN : OpOk K (r2 (fun x y H Q => y = .non ∧ Q (.bl (!decide (x = .non))) H)) oNotN := by
  intro B H vs ts P Q hB hb hp hq
  unfold oNotN at hp
  split at hp
  · obtain ⟨x, c, rfl, hx, hc⟩ := hb.two rfl
    cases hc.non
    exact ⟨rfl, by rw [br_non hx]; exact hq _ _ H hp (Same.refl H) (.bl _)⟩
  · exact hp.elim
/-- ''.join(xs) -/
def oJoin : OpT
  | [.str a, .lst ts], P => match strsT ts with | some ys => (ys.map (·.length)).sum + ys.length * a.length ≤ 16777216 ∧ P (.str (Txt.join a ys)) | none => False
  | _, _ => False
/-- a method of a text -/
def pM (rp : OpT) (pe : PE) (pa : PA) : PE := fun env P => pe env fun t env1 => match t with
  | .str z => pa env1 fun as env2 => (match tsOf env2 as with | some ts => rp (.str z :: ts) fun u => P u env2 | none => False)
  | _ => False
theorem rf_mA {r : V → List V → Hp → VK → Prop} {rp : OpT} {te : TE} {ta : TA} {pe : PE} {pa : PA} (o : OpOk K (rm r) rp) (he : RefE K te pe) (ha : RefA K ta pa) {G : V → Hp → Prop} (hg : ∀ z H, G (.str z) H) :
    RefE K (fun σ H Q => te σ H fun x H1 => G x H1 ∧ ta σ H1 fun xs H2 => r x xs H2 Q) (pM rp pe pa) := by
  intro O H σ env P Q R hp hq
  refine he O H σ env _ _ R hp fun t env1 v H1 p1 r1 s1 a1 => ?_
  cases t with
  | str z =>
    cases a1
    refine ⟨hg _ _, ?_⟩
    refine ha O H1 σ env1 _ _ r1 p1 fun as env2 vs H2 p2 r2 s2 a2 => ?_
    cases e : tsOf env2 as with
    | none => rw [e] at p2; exact p2.elim
    | some ts =>
      rw [e] at p2
      exact o _ H2 (.str z :: vs) (.str z :: ts) _ Q (fun a q => r2.bdom q) ⟨.inl (.str z), br_args r2 a2 e⟩ p2 fun t v H3 p3 sm a3 => hq t env2 v H3 p3 (r2.same sm) ((s1.trans s2).trans (.same sm)) a3
  | _ => exact p1.elim
theorem rf_m1 {r : V → List V → Hp → VK → Prop} {rp : OpT} {te tb : TE} {pe : PE} {pa : PA} (o : OpOk K (rm r) rp) (he : RefE K te pe) (ha : RefA K (tCons tb tNil) pa) : RefE K (tM1 r te tb) (pM rp pe pa) := rf_mA o he ha fun z _ => ⟨z, rfl⟩
theorem rf_m0 {r : V → List V → Hp → VK → Prop} {rp : OpT} {te : TE} {pe : PE} (o : OpOk K (rm r) rp) (he : RefE K te pe) : RefE K (tM0 r te) (pM rp pe pNil) := rf_mA (ta := tNil) o he rfa_nil fun z _ => ⟨z, rfl⟩
theorem rf_bmS {r : V → List V → Hp → VK → Prop} {rp : OpT} {te : TE} {ta : TA} {pe : PE} {pa : PA} (o : OpOk K (rm r) rp) (he : RefE K te pe) (ha : RefA K ta pa) : RefE K (tBM K "str" r te ta) (pM rp pe pa) := rf_mA o he ha fun z _ => rfl
theorem ok_join : OpOk K (rm (rJoin K)) oJoin := by
  intro B H vs ts P Q hB hb hp hq
  unfold oJoin at hp
  split at hp
  · rename_i _ a ts
    obtain ⟨x, c, rfl, hx, hc⟩ := hb.two rfl
    cases hx.str
    obtain ⟨b, xs, rfl, hb, bl⟩ := hc.lst
    cases e : strsT ts with
    | none => rw [e] at hp; exact hp.elim
    | some ys =>
      rw [e] at hp
      rw [at_strs bl e] at hb
      exact ⟨a, b, ys, rfl, rfl, .inl (.inl (.inl hb)), hp.1, hq _ _ H hp.2 (Same.refl H) (.str _)⟩
  · exact hp.elim
/-! ### displays of dicts -/
def pDNew : PE := fun env P => P (.dct []) env
theorem rf_dnew : RefF K tDNewK pDNew := by
  intro O H σ env P Q R hp hq p hn
  have sm : Same H (upd H p (.dK [])) := same_new hn
  exact hq _ env p _ hp (R.also hn sm (by rw [upd_same]; exact fun z => by cases z)) (.same sm) hn (.dct upd_same .nil)
abbrev PP := Env → (List (T × T) → Env → Prop) → Prop
def pPairs : List (PE × PE) → PP
  | [], env, P => P [] env
  | (a, b) :: r, env, P => a env fun t env1 => b env1 fun u env2 => pPairs r env2 fun l env3 => P ((t, u) :: l) env3
inductive RefP (K : PySem.W.Frag) : List (TE × TE) → List (PE × PE) → Prop
  | nil : RefP K [] []
  | cons {ta tb : TE} {a b : PE} {rs : List (TE × TE)} {ps : List (PE × PE)} (ha : RefE K ta a) (hb : RefE K tb b) (r : RefP K rs ps) : RefP K ((ta, tb) :: rs) ((a, b) :: ps)
def PairOk (K : PySem.W.Frag) (B : Addr → Prop) (H : Hp) : List (T × T) → List (V × V) → Prop
  | [], [] => True
  | (t, u) :: l, (v, w) :: m => At K B H v t ∧ At K B H w u ∧ PairOk K B H l m
  | _, _ => False
theorem PairOk.keep (s : StB B H B' H') : ∀ {l : List (T × T)} {m : List (V × V)}, PairOk K B H l m → PairOk K B' H' l m
  | [], [], _ => trivial
  | (t, u) :: l, (v, w) :: m, h => ⟨h.1.keep s, h.2.1.keep s, PairOk.keep s h.2.2⟩
  | [], _ :: _, h => h.elim
  | _ :: _, [], h => h.elim
theorem rf_pairs {rs : List (TE × TE)} {ps : List (PE × PE)} (h : RefP K rs ps) : ∀ (O : Addr → Prop) (H : Hp) (σ : L2.St) (env : Env) (P : List (T × T) → Env → Prop) (R : List (V × V) → Hp → Prop), Rel K O H σ env → pPairs ps env P →
    (∀ l env' m H', P l env' → Rel K O H' σ env' → Stp env H env' H' → PairOk K (Bd O env') H' l m → R m H') → tPairs rs σ H R := by
  induction h with
  | nil => intro O H σ env P R r hp hq; exact hq [] env [] H hp r (.refl _ _) trivial
  | cons ha hb _ ih =>
    intro O H σ env P R r hp hq
    refine ha O H σ env _ _ r hp fun t env1 v H1 p1 r1 s1 a1 => ?_
    refine hb O H1 σ env1 _ _ r1 p1 fun u env2 w H2 p2 r2 s2 a2 => ?_
    refine ih O H2 σ env2 _ _ r2 p2 fun l env3 m H3 p3 r3 s3 a3 => ?_
    exact hq _ env3 _ H3 p3 r3 (s1.trans (s2.trans s3)) ⟨a1.keep (s2.trans s3).stb, a2.keep s3.stb, a3⟩
def keyed : List (T × T) → Option (List (Key × T))
  | [] => some []
  | (k, t) :: r => match keyT k with | some k => (match keyed r with | some l => some ((k, t) :: l) | none => none) | none => none
def pDisp (ps : List (PE × PE)) : PE := fun env P => pPairs ps env fun l env' => match keyed l with
  | some kvs => kvs.length ≤ 15 ∧ P (.dct (mergeT [] kvs)) env'
  | none => False
theorem pair_keys : ∀ {l : List (T × T)} {m : List (V × V)} {kvs : List (Key × T)}, PairOk K B H l m → keyed l = some kvs → ∃ ks : List (Key × V), m = ks.map (fun kv => (kV kv.1, kv.2)) ∧ AtK K B H ks kvs
  | [], [], kvs, _, e => by cases e; exact ⟨[], rfl, .nil⟩
  | (t, u) :: l, (v, w) :: m, kvs, h, e => by
    unfold keyed at e
    cases e1 : keyT t with
    | none => rw [e1] at e; cases e
    | some k =>
      rw [e1] at e
      dsimp only at e
      cases e2 : keyed l with
      | none => rw [e2] at e; cases e
      | some kvs' =>
        rw [e2] at e
        cases e
        obtain ⟨ks, rfl, h1⟩ := pair_keys h.2.2 e2
        have ek := at_key (.inl h.1) e1
        subst ek
        exact ⟨(k, w) :: ks, rfl, .cons h.2.1 h1⟩
  | [], _ :: _, _, h, _ => h.elim
  | _ :: _, [], _, h, _ => h.elim
theorem rf_disp {rs : List (TE × TE)} {ps : List (PE × PE)} (h : RefP K rs ps) : RefF K (tDisp rs) (pDisp ps) := by
  intro O H σ env P Q R hp hq p hn
  have sm : Same H (upd H p (.dK [])) := same_new hn
  have R1 := R.also hn sm (by rw [upd_same]; exact fun z => by cases z)
  refine rf_pairs h _ _ σ env _ _ R1 hp fun l env' m H' p1 r1 s1 a1 => ?_
  have nr : ¬ Root env p := R1.out p (.inr rfl)
  have e' : H' p = some (.dK []) := s1.keep p _ nr upd_same
  cases e : keyed l with
  | none => rw [e] at p1; exact p1.elim
  | some kvs =>
    rw [e] at p1
    obtain ⟨ks, rfl, ak⟩ := pair_keys a1 e
    refine ⟨e', ks, rfl, by rw [ak.length]; exact p1.1, ?_⟩
    have nr' : ¬ Root env' p := r1.out p (.inr rfl)
    have st : StB (Bd (fun a => O a ∨ a = p) env') H' (Bd (fun a => O a ∨ a = p) env') (upd H' p (.dK (mergeK [] ks))) := ⟨fun a o n e => by rw [upd_ne (fun z => n (.inl (.inr z)))]; exact e, fun a q => .inl q⟩
    have R2 : Rel K (fun a => O a ∨ a = p) (upd H' p (.dK (mergeK [] ks))) σ env' := by
      refine ⟨r1.len, fun i u eu => (r1.slot i u eu).keep st fun a ra => ?_, r1.one, r1.out, fun a q => ?_⟩
      · rw [upd_ne (fun z => by subst z; exact nr' ⟨i, u, eu, ra⟩)]
      · by_cases z : a = p
        · rw [z, upd_same]; exact fun z => by cases z
        · rw [upd_ne z]; exact r1.dom a q
    refine hq _ env' p _ p1.2 R2 ?_ hn (.dct upd_same ((ak.merge .nil).keep st))
    have s0 : Stp env H env' H' := (Stp.same sm).trans s1
    refine ⟨fun a o n e => ?_, s0.more, fun a q => ?_⟩
    · rw [upd_ne (ne_of_none e hn)]; exact s0.keep a o n e
    · by_cases z : a = p
      · rw [z, upd_same]; exact fun z => by cases z
      · rw [upd_ne z]; exact s0.dom a q
end
end Pu

namespace Pu
open PySem PySem.Spec PyProof.Rows L2 He Hk
/-! ### statements -/
section
variable {K : PySem.W.Frag} {O B B' : Addr → Prop} {H H' H1 H2 : Hp} {env env' env1 env2 : Env} {σ : L2.St} {p : Addr} {v : V} {t : T} {fr : Bool}
def pSeq (p q : PS) : PS := fun d env => p { d with nx := q d } env
def pIf (c : PT) (p q : PS) : PS := fun d env => c env fun b env1 => if b = true then p d env1 else q d env1
def pRet (pe : PE) : PS := fun d env => pe env fun t env1 => d.rt t env1
def pRetN : PS := fun d env => d.rt .non env
def pNext : PS := fun d env => d.nx env
def pBreak : PS := fun d env => d.bk env
def pCont : PS := fun d env => d.ct env
def pDrop (pe : PE) : PS := fun d env => pe env fun _ env1 => d.nx env1
def noRef (env : Env) (i : Nat) : Prop := match env[i]? with | some (.ref _ _) => False | _ => True
abbrev PG := T → Env → (Env → Prop) → Prop
def pgName (i : Nat) : PG := fun t env P => noRef env i ∧ P (env.set i (.val t))
def pAsg (pe : PE) (pg : PG) : PS := fun d env => pe env fun t env1 => pg t env1 d.nx
def pOwn (pe : PE) (i : Nat) : PS := fun d env => pe env fun t env1 => noRef env1 i ∧ ∀ p, d.nx (env1.set i (.own p t))
theorem rf_seq {t u : TS} {p q : PS} (h1 : RefS K fr t p) (h2 : RefS K fr u q) : RefS K fr (tSeq t u) (pSeq p q) := fun O H σ env D d R hp e =>
  h1 O H σ env { D with nx := u D } { d with nx := q d } R hp ⟨fun σ' env' H' hn r s => h2 O H' σ' env' D d r hn (e.from s), e.bk, e.ct, e.rt⟩
theorem rf_if {c : TT} {pc : PT} {t u : TS} {p q : PS} (hc : RefT K c pc) (h1 : RefS K fr t p) (h2 : RefS K fr u q) : RefS K fr (tIfS c t u) (pIf pc p q) := by
  intro O H σ env D d R hp e
  refine hc O H σ env _ _ R hp fun b env1 H1 p1 r1 s1 => ?_
  cases b with
  | true => exact (if_pos rfl).mpr (h1 O H1 σ env1 D d r1 ((if_pos rfl).mp p1) (e.from s1))
  | false => exact (if_neg Bool.false_ne_true).mpr (h2 O H1 σ env1 D d r1 ((if_neg Bool.false_ne_true).mp p1) (e.from s1))
theorem rf_ret {te : TE} {pe : PE} (he : RefE K te pe) : RefS K false (tRet te) (pRet pe) := by
  intro O H σ env D d R hp e
  exact he O H σ env _ _ R hp fun t env1 v H1 p1 r1 s1 a1 => e.rt t σ env1 v H1 p1 r1 s1 a1 fun z => by cases z
theorem rf_retF {te : TE} {pe : PE} (he : RefF K te pe) : RefS K true (tRet te) (pRet pe) := by
  intro O H σ env D d R hp e
  refine he O H σ env _ _ R hp fun t env1 p H1 p1 r1 s1 hn ho => e.rt t σ env1 _ H1 p1 (r1.less fun a q => .inl q) s1 (ho.at ?_ fun a q => q.elim (fun z => .inl (.inl z)) .inr) fun _ => ⟨p, rfl, hn, r1, ho⟩
  intro z
  rcases z with z | z
  · exact R.dom p z hn
  · exact r1.out p (.inr rfl) z
theorem rf_next : RefS K fr tNext pNext := fun O H σ env D d R hp e => e.nx σ env H hp R (.refl _ _)
theorem rf_break : RefS K fr tBreak pBreak := fun O H σ env D d R hp e => e.bk σ env H hp R (.refl _ _)
theorem rf_cont : RefS K fr tCont pCont := fun O H σ env D d R hp e => e.ct σ env H hp R (.refl _ _)
theorem rf_drop {te : TE} {pe : PE} (he : RefE K te pe) : RefS K fr (tDrop te) (pDrop pe) := by
  intro O H σ env D d R hp e
  exact he O H σ env _ _ R hp fun t env1 v H1 p1 r1 s1 a1 => e.nx σ env1 H1 p1 r1 s1
/-- a target -/
def RefG (K : PySem.W.Frag) (g : TG) (pg : PG) : Prop := ∀ (O : Addr → Prop) (H : Hp) (σ : L2.St) (env : Env) (v : V) (t : T) (P : Env → Prop) (R : L2.St → Hp → Prop), Rel K O H σ env → At K (Bd O env) H v t → pg t env P →
  (∀ σ' env' H', P env' → Rel K O H' σ' env' → Stp env H env' H' → R σ' H') → g v σ H R
theorem rfg_name {i : Nat} : RefG K (gName i) (pgName i) := fun O H σ env v t P R r a hp hq => hq _ _ H hp.2 (r.putV a) stp_putV
theorem rf_asg {te : TE} {pe : PE} {g : TG} {pg : PG} (he : RefE K te pe) (hg : RefG K g pg) : RefS K fr (tAsg te g) (pAsg pe pg) := by
  intro O H σ env D d R hp e
  refine he O H σ env _ _ R hp fun t env1 v H1 p1 r1 s1 a1 => ?_
  exact hg O H1 σ env1 v t _ _ r1 a1 p1 fun σ' env' H' p2 r2 s2 => e.nx σ' env' H' p2 r2 (s1.trans s2)
theorem rf_own {te : TE} {pe : PE} {i : Nat} (he : RefF K te pe) : RefS K fr (tAsg te (gName i)) (pOwn pe i) := by
  intro O H σ env D d R hp e
  refine he O H σ env _ _ R hp fun t env1 p H1 p1 r1 s1 hn ho => ?_
  refine e.nx _ _ H1 (p1.2 p) (r1.putO (fun z => R.dom p z hn) ho) ?_
  refine ⟨s1.keep, fun a q => ?_, s1.dom⟩
  rcases root_set q with ⟨z, _⟩ | ⟨j, u, _, e, r⟩
  · cases z; exact .inr hn
  · exact s1.more a ⟨j, u, e, r⟩
/-! tuples of targets -/
abbrev PGs := List T → Env → (Env → Prop) → Prop
def RefGs (K : PySem.W.Frag) (g : TGs) (pg : PGs) : Prop := ∀ (O : Addr → Prop) (H : Hp) (σ : L2.St) (env : Env) (vs : List V) (ts : List T) (P : Env → Prop) (R : L2.St → Hp → Prop), Rel K O H σ env → AtL K (Bd O env) H vs ts → pg ts env P →
  (∀ σ' env' H', P env' → Rel K O H' σ' env' → Stp env H env' H' → R σ' H') → g vs σ H R
def pgNil : PGs := fun ts env P => ts = [] ∧ P env
def pgCons (pg : PG) (pgs : PGs) : PGs := fun ts env P => match ts with
  | t :: r => pg t env fun env1 => pgs r env1 P
  | [] => False
def pgTup (n : Nat) (pgs : PGs) : PG := fun t env P => match t with
  | .tup ts => ts.length = n ∧ pgs ts env P
  | _ => False
theorem rfg_nil : RefGs K gNil pgNil := by
  intro O H σ env vs ts P R r a hp hq
  obtain ⟨rfl, hp⟩ := hp
  cases a
  exact ⟨rfl, hq σ env H hp r (.refl _ _)⟩
theorem rfg_cons {g : TG} {gs : TGs} {pg : PG} {pgs : PGs} (hg : RefG K g pg) (hgs : RefGs K gs pgs) : RefGs K (gCons g gs) (pgCons pg pgs) := by
  intro O H σ env vs ts P R r a hp hq
  cases ts with
  | nil => exact hp.elim
  | cons t ts =>
    cases a with
    | cons a1 a2 =>
      refine ⟨_, _, rfl, hg O H σ env _ t _ _ r a1 hp fun σ1 env1 H1 p1 r1 s1 => ?_⟩
      exact hgs O H1 σ1 env1 _ ts _ _ r1 (a2.keep s1.stb) p1 fun σ2 env2 H2 p2 r2 s2 => hq σ2 env2 H2 p2 r2 (s1.trans s2)
theorem rfg_tup {n : Nat} {gs : TGs} {pgs : PGs} (hgs : RefGs K gs pgs) : RefG K (gTup K n gs) (pgTup n pgs) := by
  intro O H σ env v t P R r a hp hq
  cases t with
  | tup ts =>
    obtain ⟨b, xs, rfl, hb, bl⟩ := Br.tup (.inl a)
    exact ⟨b, xs, rfl, hb, by rw [bl.length]; exact hp.1, hgs O H σ env xs ts _ _ r bl hp.2 hq⟩
  | _ => exact hp.elim
/-! ### an own object is written -/
def ownT : Option Slot → Option (Addr × T)
  | some (.own p t) => some (p, t)
  | some (.ref p t) => some (p, t)
  | _ => none
/-- the new content of the slot -/
def reown (env : Env) (i : Nat) (t : T) : Env := match env[i]? with
  | some (.own p _) => env.set i (.own p t)
  | some (.ref p _) => env.set i (.ref p t)
  | _ => env
theorem root_reown {i : Nat} {a : Addr} : Root (reown env i t) a ↔ Root env a := by
  unfold reown
  have key : ∀ (s s' : Slot), env[i]? = some s → s.root = s'.root → (Root (env.set i s') a ↔ Root env a) := by
    intro s s' e hr
    constructor
    · intro h
      rcases root_set h with ⟨z, _⟩ | ⟨j, u, _, e, r⟩
      · exact ⟨i, s, e, hr.trans z⟩
      · exact ⟨j, u, e, r⟩
    · rintro ⟨j, u, e2, r⟩
      by_cases h : i = j
      · subst h
        rw [e] at e2; cases e2
        exact ⟨i, s', by rw [List.getElem?_set, if_pos rfl, if_pos (List.getElem?_eq_some_iff.mp e).1], hr.symm.trans r⟩
      · exact ⟨j, u, by rw [List.getElem?_set, if_neg h]; exact e2, r⟩
  split
  · rename_i e; exact key _ _ e rfl
  · rename_i e; exact key _ _ e rfl
  · exact Iff.rfl
theorem bd_reown {i : Nat} : Bd O (reown env i t) = Bd O env := by
  funext a
  exact propext ⟨fun q => q.elim .inl fun z => .inr (root_reown.mp z), fun q => q.elim .inl fun z => .inr (root_reown.mpr z)⟩
/-- the object at the slot's place is written -/
theorem Rel.write {i : Nat} {t' : T} {o : HO} (R : Rel K O H σ env) (e : ownT env[i]? = some (p, t)) (h : Holds K (Bd O env) (upd H p o) p t') : σ[i]? = some (some (.ref p)) ∧ Rel K O (upd H p o) σ (reown env i t') ∧ Stp env H (reown env i t') (upd H p o) := by
  have hr : Root env p ∧ σ[i]?.getD Option.none = some (.ref p) ∧ ∃ s, env[i]? = some s ∧ s.root = some p := by
    cases q : env[i]? with
    | none => rw [q] at e; cases e
    | some s =>
      rw [q] at e
      have sl := R.slot i s q
      cases s with
      | own p' t0 => cases e; exact ⟨⟨i, _, q, rfl⟩, sl.1, _, rfl, rfl⟩
      | ref p' t0 => cases e; exact ⟨⟨i, _, q, rfl⟩, sl.1, _, rfl, rfl⟩
      | none => cases e
      | val _ => cases e
  obtain ⟨rp, sv, s0, es, rs⟩ := hr
  have st : StB (Bd O env) H (Bd O env) (upd H p o) := ⟨fun a u n e => by rw [upd_ne (fun z => by subst z; exact n (.inr rp))]; exact e, fun a q => .inl q⟩
  refine ⟨R.var es sv, ?_, ⟨fun a u n e => by rw [upd_ne (fun z => by subst z; exact n rp)]; exact e, fun a q => .inl (root_reown.mp q), fun a q => ?_⟩⟩
  · refine ⟨?_, fun j u eu => ?_, fun j k u w a e1 e2 r1 r2 => ?_, fun a q z => R.out a q (root_reown.mp z), fun a q => ?_⟩
    · unfold reown; split <;> first | (rw [List.length_set]; exact R.len) | exact R.len
    · rw [bd_reown]
      by_cases hj : i = j
      · subst hj
        unfold reown at eu
        rw [es] at eu
        cases s0 with
        | own p' t0 =>
          cases rs
          rw [show (match some (Slot.own p t0) with | some (.own p _) => env.set i (.own p t') | some (.ref p _) => env.set i (.ref p t') | _ => env) = env.set i (.own p t') from rfl, List.getElem?_set, if_pos rfl, if_pos (List.getElem?_eq_some_iff.mp es).1] at eu
          cases eu
          exact ⟨sv, h⟩
        | ref p' t0 =>
          cases rs
          rw [show (match some (Slot.ref p t0) with | some (.own p _) => env.set i (.own p t') | some (.ref p _) => env.set i (.ref p t') | _ => env) = env.set i (.ref p t') from rfl, List.getElem?_set, if_pos rfl, if_pos (List.getElem?_eq_some_iff.mp es).1] at eu
          cases eu
          exact ⟨sv, h⟩
        | none => cases rs
        | val _ => cases rs
      · have eu' : env[j]? = some u := by
          unfold reown at eu
          split at eu
          · rw [List.getElem?_set, if_neg hj] at eu; exact eu
          · rw [List.getElem?_set, if_neg hj] at eu; exact eu
          · exact eu
        refine (R.slot j u eu').keep st fun a ra => upd_ne fun z => hj ?_
        subst z
        exact R.one i j s0 u _ es eu' rs ra
    · have back : ∀ (j : Nat) (u : Slot), (reown env i t')[j]? = some u → ∃ u', env[j]? = some u' ∧ u'.root = u.root := by
        intro j u eu
        by_cases hj : i = j
        · subst hj
          refine ⟨s0, es, ?_⟩
          unfold reown at eu
          rw [es] at eu
          cases s0 with
          | own p' t0 =>
            cases rs
            rw [show (match some (Slot.own p t0) with | some (.own p _) => env.set i (.own p t') | some (.ref p _) => env.set i (.ref p t') | _ => env) = env.set i (.own p t') from rfl, List.getElem?_set, if_pos rfl, if_pos (List.getElem?_eq_some_iff.mp es).1] at eu
            cases eu; rfl
          | ref p' t0 =>
            cases rs
            rw [show (match some (Slot.ref p t0) with | some (.own p _) => env.set i (.own p t') | some (.ref p _) => env.set i (.ref p t') | _ => env) = env.set i (.ref p t') from rfl, List.getElem?_set, if_pos rfl, if_pos (List.getElem?_eq_some_iff.mp es).1] at eu
            cases eu; rfl
          | none => cases rs
          | val _ => cases rs
        · refine ⟨u, ?_, rfl⟩
          unfold reown at eu
          split at eu
          · rw [List.getElem?_set, if_neg hj] at eu; exact eu
          · rw [List.getElem?_set, if_neg hj] at eu; exact eu
          · exact eu
      obtain ⟨u1, f1, g1⟩ := back j u e1
      obtain ⟨u2, f2, g2⟩ := back k w e2
      exact R.one j k u1 u2 a f1 f2 (g1.trans r1) (g2.trans r2)
    · by_cases z : a = p
      · subst z; exact absurd rp (R.out _ q)
      · rw [upd_ne z]; exact R.dom a q
  · by_cases z : a = p
    · rw [z, upd_same]; exact fun z => by cases z
    · rw [upd_ne z]; exact q
theorem ownT_holds {i : Nat} (R : Rel K O H σ env) (e : ownT env[i]? = some (p, t)) : Holds K (Bd O env) H p t := by
  cases q : env[i]? with
  | none => rw [q] at e; cases e
  | some s =>
    rw [q] at e
    have sl := R.slot i s q
    cases s with
    | own p' t0 => cases e; exact sl.2
    | ref p' t0 => cases e; exact sl.2
    | none => cases e
    | val _ => cases e
theorem stb_own {o : HO} (h : Bd O env p) : StB (Bd O env) H (Bd O env) (upd H p o) := ⟨fun a u n e => by rw [upd_ne (fun z => by subst z; exact n h)]; exact e, fun a q => .inl q⟩
theorem ownT_root {i : Nat} (e : ownT env[i]? = some (p, t)) : Root env p := by
  cases q : env[i]? with
  | none => rw [q] at e; cases e
  | some s =>
    rw [q] at e
    cases s with
    | own p' t0 => cases e; exact ⟨i, _, q, rfl⟩
    | ref p' t0 => cases e; exact ⟨i, _, q, rfl⟩
    | none => cases e
    | val _ => cases e
/-- xs[k] = e, of an own list -/
def pgSetL (i : Nat) (pi : PE) : PG := fun t env P => has env i ∧ pi env fun k env1 => match ownT env1[i]? with
  | some (_, .lst ts) => (match k with | .int k => (match ixN ts.length k with | some j => P (reown env1 i (.lst (ts.set j t))) | none => False) | _ => False)
  | _ => False
theorem rfg_setL {i : Nat} {ti : TE} {pi : PE} (hi : RefE K ti pi) : RefG K (gSub (tVar i) ti rSetL) (pgSetL i pi) := by
  rintro O H σ env v t P R r a ⟨hs, hp⟩ hq
  obtain ⟨x, ev⟩ := r.has hs
  refine ⟨x, ev, ?_⟩
  refine hi O H σ env _ _ r hp fun k env1 w H1 p1 r1 s1 a1 => ?_
  cases e : ownT env1[i]? with
  | none => rw [e] at p1; exact p1.elim
  | some q =>
    obtain ⟨p, u⟩ := q
    rw [e] at p1
    cases u with
    | lst ts =>
      dsimp only at p1
      cases k with
      | int k =>
        cases a1
        dsimp only at p1
        cases e2 : ixN ts.length k with
        | none => rw [e2] at p1; exact p1.elim
        | some j =>
          rw [e2] at p1
          have ho := ownT_holds r1 e
          cases ho with
          | @lst xs _ eh al =>
            have rt := ownT_root e
            have st := stb_own (O := O) (H := H1) (o := .lst (xs.set j v)) (.inr rt)
            obtain ⟨w1, w2, w3⟩ := r1.write (o := .lst (xs.set j v)) e (.lst upd_same ((al.set j (a.keep s1.stb)).keep st))
            rw [ev] at w1; cases w1
            exact ⟨p, xs, k, j, rfl, rfl, eh, by rw [al.length]; exact e2, hq σ _ _ p1 w2 (s1.trans w3)⟩
      | _ => exact p1.elim
    | _ => exact p1.elim
/-- d[k] = e, of an own dict -/
def pgSetD (i : Nat) (pi : PE) : PG := fun t env P => has env i ∧ pi env fun k env1 => match ownT env1[i]? with
  | some (_, .dct ts) => ts.length ≤ 1000000 ∧ (match keyT k with | some k => P (reown env1 i (.dct (putT ts k t))) | none => False)
  | _ => False
theorem rfg_setD {i : Nat} {ti : TE} {pi : PE} (hi : RefE K ti pi) : RefG K (gSub (tVar i) ti rSetD) (pgSetD i pi) := by
  rintro O H σ env v t P R r a ⟨hs, hp⟩ hq
  obtain ⟨x, ev⟩ := r.has hs
  refine ⟨x, ev, ?_⟩
  refine hi O H σ env _ _ r hp fun k env1 w H1 p1 r1 s1 a1 => ?_
  cases e : ownT env1[i]? with
  | none => rw [e] at p1; exact p1.elim
  | some q =>
    obtain ⟨p, u⟩ := q
    rw [e] at p1
    cases u with
    | dct ts =>
      dsimp only at p1
      cases e2 : keyT k with
      | none => rw [e2] at p1; exact p1.2.elim
      | some k' =>
        rw [e2] at p1
        have ek := at_key (.inl a1) e2
        subst ek
        have ho := ownT_holds r1 e
        cases ho with
        | @dct xs _ eh al =>
          have rt := ownT_root e
          have st := stb_own (O := O) (H := H1) (o := .dK (putK xs k' v)) (.inr rt)
          obtain ⟨w1, w2, w3⟩ := r1.write (o := .dK (putK xs k' v)) e (.dct upd_same ((al.put (a.keep s1.stb)).keep st))
          rw [ev] at w1; cases w1
          exact ⟨p, _, rfl, .inl ⟨xs, k', eh, rfl, by rw [al.length]; exact Nat.lt_of_le_of_lt p1.1 (by decide), rfl⟩, hq σ _ _ p1.2 w2 (s1.trans w3)⟩
    | _ => exact p1.elim
/-- xs.append(e) -/
def pAppend (i : Nat) (pe : PE) : PS := fun d env => (∃ p ts, ownT env[i]? = some (p, .lst ts)) ∧ pe env fun t env1 => match ownT env1[i]? with
  | some (_, .lst ts) => ts.length < 1000000 ∧ d.nx (reown env1 i (.lst (ts ++ [t])))
  | _ => False
theorem rf_append {i : Nat} {te : TE} {pe : PE} (he : RefE K te pe) : RefS K fr (tDrop (tBM K "list" rAppend (tVar i) (tCons te tNil))) (pAppend i pe) := by
  rintro O H σ env D d R ⟨⟨p0, ts0, e0⟩, hp⟩ hd
  have ho := ownT_holds R e0
  obtain ⟨x, ev⟩ : ∃ v, σ[i]? = some (some v) := by
    refine R.has ?_
    unfold Pu.has
    cases q : env[i]? with
    | none => rw [q] at e0; cases e0
    | some s => rw [q] at e0; cases s <;> first | trivial | cases e0
  have ex : x = .ref p0 := by
    cases ho with
    | @lst xs _ eh al =>
      have w1 := (R.write (o := .lst xs) e0 (.lst upd_same (al.keep (stb_own (.inr (ownT_root e0)))))).1
      rw [ev] at w1; cases w1; rfl
  subst ex
  refine ⟨_, ev, ?_⟩
  cases ho with
  | @lst xs0 _ eh0 al0 =>
    refine ⟨.inl ⟨rfl, xs0, .inl (.inl eh0)⟩, ?_⟩
    refine he O H σ env _ _ R hp fun t env1 w H1 p1 r1 s1 a1 => ?_
    cases e : ownT env1[i]? with
    | none => rw [e] at p1; exact p1.elim
    | some q =>
      obtain ⟨p, u⟩ := q
      rw [e] at p1
      cases u with
      | lst ts =>
        have ho := ownT_holds r1 e
        cases ho with
        | @lst xs _ eh al =>
          have rt := ownT_root e
          have st := stb_own (O := O) (H := H1) (o := .lst (xs ++ [w])) (.inr rt)
          obtain ⟨w1, w2, w3⟩ := r1.write (o := .lst (xs ++ [w])) e (.lst upd_same ((al.append (.cons a1 .nil)).keep st))
          rw [ev] at w1; cases w1
          exact ⟨p0, xs, w, rfl, rfl, eh, by rw [al.length]; exact Nat.lt_of_lt_of_le p1.1 million, hd.nx σ _ _ p1.2 w2 (s1.trans w3)⟩
      | _ => exact p1.elim
end
end Pu

namespace Pu
open PySem PySem.Spec PyProof.Rows L2 He Hk
/-! ### what is walked -/
abbrev PIt := Env → (List T → Env → Prop) → Prop
def ItOk (K : PySem.W.Frag) (J : It) (items : List T) (B : Addr → Prop) (H : Hp) : Prop := ∀ (B' : Addr → Prop) (H' : Hp), StB B H B' H' → (∀ a, B' a → H' a ≠ none) → (∀ i, i < items.length → J.go i H') ∧ J.stop items.length H' ∧
  ∀ i x H'', i < items.length → J.yld i H' x H'' → Same H' H'' ∧ ∃ t, items[i]? = some t ∧ At K B' H'' x t
def RefI (K : PySem.W.Frag) (wi : TI) (pi : PIt) : Prop := ∀ (O : Addr → Prop) (H : Hp) (σ : L2.St) (env : Env) (P : List T → Env → Prop) (R : It → Hp → Prop), Rel K O H σ env → pi env P →
  (∀ items env' J H', P items env' → Rel K O H' σ env' → Stp env H env' H' → ItOk K J items (Bd O env') H' → R J H') → wi σ H R
section
variable {K : PySem.W.Frag} {O B B' : Addr → Prop} {H H' H1 H2 : Hp} {env env' env1 env2 : Env} {σ : L2.St} {p : Addr} {v : V} {t : T} {fr : Bool}
theorem yat {xs : List V} {ts : List T} {i : Nat} {x : V} (al : AtL K B H xs ts) (e : xs[i]? = some x) : ∃ t, ts[i]? = some t ∧ At K B H x t := al.get e
def piList (pe : PE) : PIt := fun env P => pe env fun t env' => match t with | .lst ts => P ts env' | _ => False
def piTup (pe : PE) : PIt := fun env P => pe env fun t env' => match t with | .tup ts => P ts env' | _ => False
def piStr (pe : PE) : PIt := fun env P => pe env fun t env' => match t with | .str z => P (z.cps.toList.map fun c => .str ⟨#[c]⟩) env' | _ => False
def rngT (lo : Int) (n : Nat) : List T := (List.range n).map fun (i : Nat) => .int (lo + (i : Int))
def piRng1 (pe : PE) : PIt := fun env P => pe env fun t env' => match t with | .int j => (-4611686018427387904 ≤ j ∧ j < 4611686018427387904) ∧ P (rngT 0 j.toNat) env' | _ => False
def piRng2 (pa : PE) (pb : PE) : PIt := fun env P => pa env fun t env1 => pb env1 fun u env2 => match t, u with | .int i, .int j => (-4611686018427387904 ≤ i ∧ i < 4611686018427387904 ∧ -4611686018427387904 ≤ j ∧ j < 4611686018427387904) ∧ P (rngT i (j - i).toNat) env2 | _, _ => False
theorem rfi_list {te : TE} {pe : PE} (he : RefE K te pe) : RefI K (iList K te) (piList pe) := by
  intro O H σ env P R r hp hq
  refine he O H σ env _ _ r hp fun t env' v H' p1 r1 s1 a1 => ?_
  cases t with
  | lst ts =>
    cases a1 with
    | @lst a xs _ n e al =>
      refine ⟨a, rfl, ⟨xs, .inl (.inl e)⟩, hq ts env' _ H' p1 r1 s1 fun B' H2 st _ => ?_⟩
      have e2 := st.keep _ _ n e
      have al2 := al.keep st
      refine ⟨fun i hi => ?_, ⟨xs, .inl (.inl e2), Nat.le_of_eq al.length⟩, fun i x H3 hi y => ?_⟩
      · have hi' : i < xs.length := by rw [al.length]; exact hi
        exact ⟨xs, xs[i], .inl (.inl e2), by simp [hi']⟩
      · obtain ⟨rfl, y2⟩ := y
        exact ⟨Same.refl _, al2.get (y2 xs (.inl (.inl e2)))⟩
  | _ => exact p1.elim
theorem rfi_tup {te : TE} {pe : PE} (he : RefE K te pe) : RefI K (iTup K te) (piTup pe) := by
  intro O H σ env P R r hp hq
  refine he O H σ env _ _ r hp fun t env' v H' p1 r1 s1 a1 => ?_
  cases t with
  | tup ts =>
    have main : ∀ a xs, v = .ref a → SqT K H' a xs → AtL K (Bd O env') H' xs ts → (∀ B' H2, StB (Bd O env') H' B' H2 → SqT K H2 a xs) → ∃ a, v = .ref a ∧ (∃ xs, SqT K H' a xs) ∧ R (Itt K a) H' := by
      intro a xs ev sq al kp
      refine ⟨a, ev, ⟨xs, sq⟩, hq ts env' _ H' p1 r1 s1 fun B' H2 st _ => ?_⟩
      have e2 := kp B' H2 st
      have al2 := al.keep st
      refine ⟨fun i hi => ?_, ⟨xs, e2, Nat.le_of_eq al.length⟩, fun i x H3 hi y => ?_⟩
      · have hi' : i < xs.length := by rw [al.length]; exact hi
        exact ⟨xs, xs[i], e2, by simp [hi']⟩
      · obtain ⟨rfl, y2⟩ := y
        exact ⟨Same.refl _, al2.get (y2 xs e2)⟩
    cases a1 with
    | @tup a xs _ n e al => exact main a xs rfl (.inl e) al fun B' H2 st => .inl (st.rd n e)
    | @tupK a xs _ e al => exact main a xs rfl (.inr e) al fun B' H2 st => .inr e
  | _ => exact p1.elim
theorem rfi_str {te : TE} {pe : PE} (he : RefE K te pe) : RefI K (iStr te) (piStr pe) := by
  intro O H σ env P R r hp hq
  refine he O H σ env _ _ r hp fun t env' v H' p1 r1 s1 a1 => ?_
  cases t with
  | str z =>
    cases a1
    refine ⟨z, rfl, hq _ env' _ H' p1 r1 s1 fun B' H2 st _ => ?_⟩
    rw [List.length_map, Array.length_toList]
    refine ⟨fun i hi => hi, Nat.le_refl _, fun i x H3 hi y => ?_⟩
    obtain ⟨rfl, c, hc, rfl⟩ := y
    exact ⟨Same.refl _, .str ⟨#[c]⟩, by rw [List.getElem?_map, Array.getElem?_toList, hc]; rfl, .str _⟩
  | _ => exact p1.elim
theorem it_rng {lo : Int} {n : Nat} : ItOk K (Itr lo n) (rngT lo n) B H := fun B' H2 st _ => by
  have e : (rngT lo n).length = n := by unfold rngT; simp
  rw [e]
  refine ⟨fun i hi => hi, Nat.le_refl _, fun i x H3 hi y => ?_⟩
  obtain ⟨rfl, rfl⟩ := y
  exact ⟨Same.refl _, .int (lo + (i : Int)), by unfold rngT; rw [List.getElem?_map, List.getElem?_range hi]; rfl, .int _⟩
theorem rfi_rng1 {te : TE} {pe : PE} (he : RefE K te pe) : RefI K (iRng1 (tCons te tNil)) (piRng1 pe) := by
  intro O H σ env P R r hp hq
  refine he O H σ env _ _ r hp fun t env' v H' p1 r1 s1 a1 => ?_
  cases t with
  | int j =>
    cases a1
    exact ⟨j, rfl, p1.1.1, p1.1.2, hq _ env' _ H' p1.2 r1 s1 it_rng⟩
  | _ => exact p1.elim
theorem rfi_rng2 {ta tb : TE} {pa pb : PE} (ha : RefE K ta pa) (hb : RefE K tb pb) : RefI K (iRng2 (tCons ta (tCons tb tNil))) (piRng2 pa pb) := by
  intro O H σ env P R r hp hq
  refine ha O H σ env _ _ r hp fun t env1 v H1 p1 r1 s1 a1 => ?_
  refine hb O H1 σ env1 _ _ r1 p1 fun u env2 w H2 p2 r2 s2 a2 => ?_
  cases t with
  | int i =>
    cases u with
    | int j =>
      cases a1; cases a2
      exact ⟨i, j, rfl, p2.1, hq _ env2 _ H2 p2.2 r2 (s1.trans s2) it_rng⟩
    | _ => exact p2.elim
  | _ => exact p2.elim
/-! ### for -/
def pForGo (pg : PG) (pb : PS) (d : PD) : List T → Env → Prop
  | [], env => d.nx env
  | x :: xs, env => pg x env fun env1 => pb { d with nx := pForGo pg pb d xs, ct := pForGo pg pb d xs, bk := d.nx } env1
def pFor (pi : PIt) (pg : PG) (pb : PS) : PS := fun d env => pi env fun items env1 => pForGo pg pb d items env1
theorem Rel.b' (r : Rel K O H σ env) : ∀ a, Bd O env a → H a ≠ none := fun a q => r.bdom q
theorem for_core {J : It} {items : List T} {g : TG} {tb : TS} {pg : PG} {pb : PS} {D : Ends} {d : PD} (hg : RefG K g pg) (hb : RefS K fr tb pb) (r1 : Rel K O H1 σ env1) (it : ItOk K J items (Bd O env1) H1) (p1 : pForGo pg pb d items env1) (hd : EndsOk K O env1 H1 fr D d) : ForD J g tb D σ H1 := by
  have w : Walk J items.length (fun H' => ∃ B', StB (Bd O env1) H1 B' H' ∧ ∀ a, B' a → H' a ≠ none) (fun i H' x H'' => ∀ B', StB (Bd O env1) H1 B' H' → (∀ a, B' a → H' a ≠ none) → Same H' H'' ∧ ∃ t, items[i]? = some t ∧ At K B' H'' x t) :=
    ⟨fun i H' hi ⟨B', st, bd⟩ => (it B' H' st bd).1 i hi, fun H' ⟨B', st, bd⟩ => (it B' H' st bd).2.1, fun i H' x H'' hi _ y B' st bd => (it B' H' st bd).2.2 i x H'' hi y⟩
  refine for_it w (fun i σ' H' => ∃ env', Rel K O H' σ' env' ∧ Stp env1 H1 env' H' ∧ pForGo pg pb d (items.drop i) env') ⟨env1, r1, .refl _ _, p1⟩ (fun i σ' H' _ ⟨env', r, s, _⟩ => ⟨_, s.stb, r.b'⟩) ?_ ?_
  · rintro i x σ' H' H'' hlt ⟨env', r, s, pg'⟩ y
    obtain ⟨sm, t, e, a⟩ := y _ s.stb r.b'
    have ed : items.drop i = t :: items.drop (i + 1) := by
      obtain ⟨h1, h2⟩ := List.getElem?_eq_some_iff.mp e
      rw [← h2]; exact List.drop_eq_getElem_cons h1
    rw [ed] at pg'
    have r2 := r.same sm
    refine hg O H'' σ' env' x t _ _ r2 a pg' fun σ2 env2 H2 p2 rr2 ss2 => ?_
    have st2 : Stp env1 H1 env2 H2 := (s.trans (.same sm)).trans ss2
    have de := hd.from st2
    exact hb O H2 σ2 env2 _ _ rr2 p2 ⟨fun σ3 env3 H3 p3 r3 s3 => ⟨env3, r3, st2.trans s3, p3⟩, de.nx, fun σ3 env3 H3 p3 r3 s3 => ⟨env3, r3, st2.trans s3, p3⟩, de.rt⟩
  · rintro σ' H' ⟨env', r, s, pg'⟩
    rw [List.drop_length] at pg'
    exact hd.nx σ' env' H' pg' r s
theorem rf_for {wi : TI} {g : TG} {tb : TS} {pi : PIt} {pg : PG} {pb : PS} (hi : RefI K wi pi) (hg : RefG K g pg) (hb : RefS K fr tb pb) : RefS K fr (tFor wi g tb) (pFor pi pg pb) := by
  intro O H σ env D d R hp hd
  exact hi O H σ env _ _ R hp fun items env1 J H1 p1 r1 s1 it => for_core hg hb r1 it p1 (hd.from s1)
/-! ### comprehensions -/
def wipeE (env : Env) : List Nat → Env
  | [] => env
  | v :: vs => (wipeE env vs).set v .none
theorem wipeE_len (env : Env) : ∀ vs : List Nat, (wipeE env vs).length = env.length
  | [] => rfl
  | v :: vs => by unfold wipeE; rw [List.length_set, wipeE_len env vs]
theorem wipeE_get (env : Env) (i : Nat) : ∀ vs : List Nat, (wipeE env vs)[i]? = if i ∈ vs ∧ i < env.length then some .none else env[i]?
  | [] => by simp [wipeE]
  | v :: vs => by
    unfold wipeE
    rw [List.getElem?_set, wipeE_len, wipeE_get env i vs]
    by_cases h : v = i
    · subst h
      by_cases h2 : v < env.length
      · simp [h2]
      · simp [h2, List.getElem?_eq_none_iff.mpr (Nat.le_of_not_lt h2)]
    · rw [if_neg h]
      have : (i ∈ v :: vs) ↔ (i ∈ vs) := ⟨fun z => (List.mem_cons.mp z).resolve_left (fun q => h q.symm), List.mem_cons_of_mem _⟩
      simp only [this]
theorem wipe_get (σ : L2.St) (i : Nat) : ∀ vs : List Nat, (wipe σ vs)[i]? = if i ∈ vs ∧ i < σ.length then some Option.none else σ[i]?
  | [] => by simp [wipe]
  | v :: vs => by
    unfold wipe
    rw [List.getElem?_set, wipe_length, wipe_get σ i vs]
    by_cases h : v = i
    · subst h
      by_cases h2 : v < σ.length
      · simp [h2]
      · simp [h2, List.getElem?_eq_none_iff.mpr (Nat.le_of_not_lt h2)]
    · rw [if_neg h]
      have : (i ∈ v :: vs) ↔ (i ∈ vs) := ⟨fun z => (List.mem_cons.mp z).resolve_left (fun q => h q.symm), List.mem_cons_of_mem _⟩
      simp only [this]
theorem root_wipe {vs : List Nat} {a : Addr} (h : Root (wipeE env vs) a) : Root env a := by
  obtain ⟨i, s, e, r⟩ := h
  rw [wipeE_get] at e
  split at e
  · cases e; cases r
  · exact ⟨i, s, e, r⟩
theorem Rel.wipe {vs : List Nat} {σ' : L2.St} (R : Rel K O H σ env) (hl : σ'.length = σ.length) (hs : ∀ i, i ∉ vs → σ'[i]? = σ[i]?) : Rel K O H σ' (wipeE env vs) := by
  refine ⟨by rw [hl, wipeE_len]; exact R.len, fun i s e => ?_, fun i j s u a e1 e2 r1 r2 => ?_, fun a q z => R.out a q (root_wipe z), R.dom⟩
  · rw [wipeE_get] at e
    split at e
    · cases e; trivial
    · rename_i hc
      by_cases hi : i ∈ vs
      · have : ¬ i < env.length := fun z => hc ⟨hi, z⟩
        rw [List.getElem?_eq_none_iff.mpr (Nat.le_of_not_lt this)] at e; cases e
      · rw [hs i hi]
        exact (R.slot i s e).keep (.less fun a q => q.elim .inl fun z => .inr (root_wipe z)) fun _ _ => rfl
  · rw [wipeE_get] at e1 e2
    split at e1
    · cases e1; cases r1
    · split at e2
      · cases e2; cases r2
      · exact R.one i j s u a e1 e2 r1 r2
theorem stp_wipe {vs : List Nat} : Stp env H (wipeE env vs) H := ⟨fun _ _ _ e => e, fun a q => .inl (root_wipe q), fun _ q => q⟩
theorem wipe_same {vs : List Nat} (σ : L2.St) : ∀ i, i ∉ vs → (wipe σ vs)[i]? = σ[i]? := fun i h => by rw [wipe_get, if_neg fun z => h z.1]
theorem wipe_eq {vs : List Nat} {σ σ' : L2.St} (hl : σ'.length = σ.length) (h : ∀ i, i ∉ vs → σ'[i]? = σ[i]?) : wipe σ' vs = wipe σ vs := by
  apply List.ext_getElem?
  intro i
  rw [wipe_get, wipe_get, hl]
  by_cases hi : i ∈ vs
  · by_cases h2 : i < σ.length
    · rw [if_pos ⟨hi, h2⟩, if_pos ⟨hi, h2⟩]
    · rw [if_neg fun z => h2 z.2, if_neg fun z => h2 z.2, List.getElem?_eq_none_iff.mpr (by omega), List.getElem?_eq_none_iff.mpr (by omega)]
  · rw [if_neg fun z => hi z.1, if_neg fun z => hi z.1, h i hi]
/-- a target that writes the slots of vs alone -/
def RefGw (K : PySem.W.Frag) (vs : List Nat) (g : TG) (pg : PG) : Prop := ∀ (O : Addr → Prop) (H : Hp) (σ : L2.St) (env : Env) (v : V) (t : T) (P : Env → Prop) (R : L2.St → Hp → Prop), Rel K O H σ env → At K (Bd O env) H v t → pg t env P →
  (∀ σ' env', P env' → Rel K O H σ' env' → Stp env H env' H → σ'.length = σ.length → (∀ i, i ∉ vs → σ'[i]? = σ[i]?) → R σ' H) → g v σ H R
theorem rfgw_name {vs : List Nat} {i : Nat} (hi : i ∈ vs) : RefGw K vs (gName i) (pgName i) := fun O H σ env v t P R r a hp hq =>
  hq _ _ hp.2 (r.putV a) stp_putV (by rw [List.length_set]) fun j hj => by rw [List.getElem?_set, if_neg (fun z => by subst z; exact hj hi)]
def RefGsw (K : PySem.W.Frag) (ws : List Nat) (g : TGs) (pg : PGs) : Prop := ∀ (O : Addr → Prop) (H : Hp) (σ : L2.St) (env : Env) (vs : List V) (ts : List T) (P : Env → Prop) (R : L2.St → Hp → Prop), Rel K O H σ env → AtL K (Bd O env) H vs ts → pg ts env P →
  (∀ σ' env', P env' → Rel K O H σ' env' → Stp env H env' H → σ'.length = σ.length → (∀ i, i ∉ ws → σ'[i]? = σ[i]?) → R σ' H) → g vs σ H R
theorem rfgw_nil {ws : List Nat} : RefGsw K ws gNil pgNil := by
  intro O H σ env vs ts P R r a hp hq
  obtain ⟨rfl, hp⟩ := hp
  cases a
  exact ⟨rfl, hq σ env hp r (.refl _ _) rfl fun _ _ => rfl⟩
theorem rfgw_cons {ws : List Nat} {g : TG} {gs : TGs} {pg : PG} {pgs : PGs} (hg : RefGw K ws g pg) (hgs : RefGsw K ws gs pgs) : RefGsw K ws (gCons g gs) (pgCons pg pgs) := by
  intro O H σ env vs ts P R r a hp hq
  cases ts with
  | nil => exact hp.elim
  | cons t ts =>
    cases a with
    | cons a1 a2 =>
      refine ⟨_, _, rfl, hg O H σ env _ t _ _ r a1 hp fun σ1 env1 p1 r1 s1 l1 w1 => ?_⟩
      exact hgs O H σ1 env1 _ ts _ _ r1 (a2.keep s1.stb) p1 fun σ2 env2 p2 r2 s2 l2 w2 => hq σ2 env2 p2 r2 (s1.trans s2) (l2.trans l1) fun i hi => (w2 i hi).trans (w1 i hi)
theorem rfgw_tup {ws : List Nat} {n : Nat} {gs : TGs} {pgs : PGs} (hgs : RefGsw K ws gs pgs) : RefGw K ws (gTup K n gs) (pgTup n pgs) := by
  intro O H σ env v t P R r a hp hq
  cases t with
  | tup ts =>
    obtain ⟨b, xs, rfl, hb, bl⟩ := Br.tup (.inl a)
    exact ⟨b, xs, rfl, hb, by rw [bl.length]; exact hp.1, hgs O H σ env xs ts _ _ r bl hp.2 hq⟩
  | _ => exact hp.elim
def pLcGo (pg : PG) (tt : PT) (te : PE) (vs : List Nat) (P : T → Env → Prop) : List T → List T → Env → Prop
  | [], acc, env => P (.lst acc) env
  | x :: xs, acc, env => pg x env fun env1 => tt env1 fun b env2 => if b = true then te env2 fun y env3 => pLcGo pg tt te vs P xs (acc ++ [y]) (wipeE env3 vs) else pLcGo pg tt te vs P xs acc (wipeE env2 vs)
def pLc (pi : PIt) (pg : PG) (tt : PT) (te : PE) (vs : List Nat) : PE := fun env P => pi env fun items env1 => items.length ≤ 1000000 ∧ pLcGo pg tt te vs P items [] (wipeE env1 vs)
def pYes : PT := fun env P => P true env
theorem rf_yes : RefT K tYes pYes := fun O H σ env P Q R hp hq => hq true env H hp R (.refl _ _)
theorem Rel.updO {D : Addr} {o : HO} (R : Rel K O H σ env) (hD : O D) : Rel K O (upd H D o) σ env := by
  refine ⟨R.len, fun i u e => (R.slot i u e).keep (stb_own (.inl hD)) fun a r => upd_ne fun z => ?_, R.one, R.out, fun a q => ?_⟩
  · subst z; exact R.out _ hD ⟨i, u, e, r⟩
  · by_cases z : a = D
    · rw [z, upd_same]; exact fun z => by cases z
    · rw [upd_ne z]; exact R.dom a q
theorem lc_coreP {J : It} {items : List T} {g : TG} {tt : TT} {te : TE} {vs : List Nat} {pg : PG} {pt : PT} {pe : PE} {P : T → Env → Prop} {Q : VK} (hg : RefGw K vs g pg) (ht : RefT K tt pt) (he : RefE K te pe) (r1 : Rel K O H1 σ env1) (it : ItOk K J items (Bd O env1) H1) (hz : items.length ≤ 1000000)
    (p1 : pLcGo pg pt pe vs P items [] (wipeE env1 vs)) (hq : ∀ t env' p H', P t env' → Rel K (fun a => O a ∨ a = p) H' σ env' → Stp env1 H1 env' H' → H1 p = none → Holds K (Bd (fun a => O a ∨ a = p) env') H' p t → Q (.ref p) H') : LcD J g tt te vs σ H1 Q := by
  intro D hD
  have smD : Same H1 (upd H1 D (.lst [])) := same_new hD
  have R1 := (r1.also hD smD (by rw [upd_same]; exact fun z => by cases z)).wipe (vs := vs) (wipe_length σ vs) (wipe_same σ)
  have w : Walk J items.length (fun H' => ∃ B', StB (Bd O env1) H1 B' H' ∧ ∀ a, B' a → H' a ≠ none) (fun i H' x H'' => ∀ B', StB (Bd O env1) H1 B' H' → (∀ a, B' a → H' a ≠ none) → Same H' H'' ∧ ∃ t, items[i]? = some t ∧ At K B' H'' x t) :=
    ⟨fun i H' hi ⟨B', st, bd⟩ => (it B' H' st bd).1 i hi, fun H' ⟨B', st, bd⟩ => (it B' H' st bd).2.1, fun i H' x H'' hi _ y B' st bd => (it B' H' st bd).2.2 i x H'' hi y⟩
  have toB : ∀ env' H', Stp env1 H1 env' H' → StB (Bd O env1) H1 (Bd (fun a => O a ∨ a = D) env') H' := fun env' H' s => ⟨fun a o n e => s.keep a o (fun z => n (.inr z)) e, fun a q => by
    rcases q with (q | q) | q
    · exact .inl (.inl q)
    · exact .inr (q ▸ hD)
    · rcases s.more a q with z | z
      · exact .inl (.inr z)
      · exact .inr z⟩
  have st0 : Stp env1 H1 (wipeE env1 vs) (upd H1 D (.lst [])) := (Stp.same smD).trans stp_wipe
  refine lc_it w (fun i H' => ∃ env' xs acc, Rel K (fun a => O a ∨ a = D) H' (wipe σ vs) env' ∧ Stp env1 H1 env' H' ∧ H' D = some (.lst xs) ∧ AtL K (Bd (fun a => O a ∨ a = D) env') H' xs acc ∧ xs.length ≤ i ∧ pLcGo pg pt pe vs P (items.drop i) acc env' ∧ (∀ j s, j ∈ vs → env'[j]? = some s → s = .none))
    ⟨wipeE env1 vs, [], [], R1, st0, upd_same, .nil, Nat.le_refl _, p1, fun j s hj e => by
      rw [wipeE_get] at e
      split at e
      · cases e; rfl
      · rename_i hc
        have : ¬ j < env1.length := fun z => hc ⟨hj, z⟩
        rw [List.getElem?_eq_none_iff.mpr (Nat.le_of_not_lt this)] at e; cases e⟩
    (fun i H' _ ⟨env', xs, acc, r, s, _⟩ => ⟨_, toB env' H' s, r.b'⟩) ?_ ?_
  · rintro i x H' H'' hlt ⟨env', xs, acc, r, s, eD, al, hxs, pgo, hno⟩ y
    obtain ⟨sm, t, e, a⟩ := y _ (toB env' H' s) r.b'
    have ed : items.drop i = t :: items.drop (i + 1) := by
      obtain ⟨h1, h2⟩ := List.getElem?_eq_some_iff.mp e
      rw [← h2]; exact List.drop_eq_getElem_cons h1
    rw [ed] at pgo
    have r2 := r.same sm
    have al2 := al.keep (.same sm)
    have s2 : Stp env1 H1 env' H'' := s.trans (.same sm)
    have eD2 := sm _ _ eD
    have wiped : ∀ (env3 : Env) (j : Nat) (u : Slot), j ∈ vs → (wipeE env3 vs)[j]? = some u → u = .none := fun env3 j u hj e => by
      rw [wipeE_get] at e
      split at e
      · cases e; rfl
      · rename_i hc
        have : ¬ j < env3.length := fun z => hc ⟨hj, z⟩
        rw [List.getElem?_eq_none_iff.mpr (Nat.le_of_not_lt this)] at e; cases e
    refine hg _ H'' (wipe σ vs) env' x t _ _ r2 a pgo fun σ2 env2 p2 rr2 ss2 hl hw => ⟨?_, ?_⟩
    · rw [wipe_eq hl hw]
      exact wipe_eq (wipe_length σ vs) (wipe_same σ)
    · have back : ∀ i, i ∉ vs → (wipe σ vs)[i]? = σ2[i]? := fun i hi => (hw i hi).symm
      refine ht _ H'' σ2 env2 _ _ rr2 p2 fun b env3 H3 p3 r3 s3 => ?_
      have s03 : Stp env1 H1 env3 H3 := (s2.trans ss2).trans s3
      have nr2 : ¬ Root env2 D := rr2.out D (.inr rfl)
      have eD3 := s3.keep _ _ nr2 eD2
      have al3 := (al2.keep ss2.stb).keep s3.stb
      cases b with
      | false =>
        rw [if_neg Bool.false_ne_true] at p3 ⊢
        exact ⟨wipeE env3 vs, xs, acc, r3.wipe hl.symm back, s03.trans stp_wipe, eD3, al3.keep (stp_wipe (H := H3)).stb, by omega, p3, wiped env3⟩
      | true =>
        rw [if_pos rfl] at p3 ⊢
        refine he _ H3 σ2 env3 _ _ r3 p3 fun y env4 u H4 p4 r4 s4 a4 => ?_
        have nr3 : ¬ Root env3 D := r3.out D (.inr rfl)
        have eD4 := s4.keep _ _ nr3 eD3
        have al4 := al3.keep s4.stb
        have st4 := stb_own (O := fun a => O a ∨ a = D) (env := env4) (H := H4) (p := D) (o := .lst (xs ++ [u])) (.inl (.inr rfl))
        refine ⟨xs, eD4, Nat.lt_of_lt_of_le (by omega : xs.length < 1000000) million, wipeE env4 vs, xs ++ [u], acc ++ [y], (r4.updO (.inr rfl)).wipe hl.symm back, ?_, upd_same, ?_, by simp; omega, p4, wiped env4⟩
        · have s04 := s03.trans s4
          refine Stp.trans ⟨fun a o n e => ?_, s04.more, fun a q => ?_⟩ stp_wipe
          · rw [upd_ne (ne_of_none e hD)]; exact s04.keep a o n e
          · by_cases z : a = D
            · rw [z, upd_same]; exact fun z => by cases z
            · rw [upd_ne z]; exact s04.dom a q
        · exact ((al4.append (.cons a4 .nil)).keep st4).keep (stp_wipe (H := upd H4 D (.lst (xs ++ [u])))).stb
  · rintro H' ⟨env', xs, acc, r, s, eD, al, _, pgo, hno⟩
    rw [List.drop_length] at pgo
    have r' : Rel K (fun a => O a ∨ a = D) H' σ env' := by
      refine ⟨by rw [← wipe_length σ vs]; exact r.len, fun i u e => ?_, r.one, r.out, r.dom⟩
      by_cases hi : i ∈ vs
      · rw [hno i u hi e]; trivial
      · rw [← wipe_same σ i hi]; exact r.slot i u e
    exact hq _ env' D H' pgo r' s hD (.lst eD al)
theorem rf_lc {wi : TI} {g : TG} {tt : TT} {te : TE} {vs : List Nat} {pi : PIt} {pg : PG} {pt : PT} {pe : PE} (hi : RefI K wi pi) (hg : RefGw K vs g pg) (ht : RefT K tt pt) (he : RefE K te pe) : RefF K (tLc wi g tt te vs) (pLc pi pg pt pe vs) := by
  intro O H σ env P Q R hp hq
  refine hi O H σ env _ _ R hp fun items env1 J H1 p1 r1 s1 it => ?_
  refine lc_coreP hg ht he r1 it p1.1 p1.2 fun t env' p H' pt r s hn ho => hq t env' p H' pt r (s1.trans s) ?_ ho
  cases q : H p with
  | none => rfl
  | some o => exact absurd hn (s1.dom p (by rw [q]; exact fun z => by cases z))
end
end Pu

namespace Hk
open PySem PySem.Spec PyProof.Rows L2 He
/-- under a lock, or as it is -/
def tLockU (t : TS) : TS := fun D σ H => tLock t D σ H ∨ t D σ H
def tLockUE (t : TE) : TE := fun σ H Q => tLockE t σ H Q ∨ t σ H Q
section
variable {X : Cx}
theorem ps_lockU {st : Stmt} {t : TS} (h : PS X st t) : PS X st (tLockU t) := ⟨fun pins s σ H D I hw => hw.elim (fun z => (ps_lock h).run pins s σ H D I z) fun z => h.run pins s σ H D I z⟩
theorem pe_lockU {e : Expr} {t : TE} (h : PE X e t) : PE X e (tLockUE t) := ⟨fun pins s σ H Q I hw => hw.elim (fun z => (pe_lock h).run pins s σ H Q I z) fun z => h.run pins s σ H Q I z⟩
end
end Hk
namespace Pu
open PySem PySem.Spec PyProof.Rows L2 He Hk
section
variable {K : PySem.W.Frag} {O B B' : Addr → Prop} {H H' H1 H2 : Hp} {env env' env1 env2 : Env} {σ : L2.St} {p : Addr} {v : V} {t : T} {fr : Bool}
theorem Holds.rd (s : RdB H H') (h : Holds K B H p t) : Holds K B H' p t ∨ ∃ ts, t = .dct ts := by
  cases h with
  | lst e h => exact .inl (.lst (s.lst _ _ e) (h.rd s))
  | ins e h => exact .inl (.ins (s.ins _ _ _ _ e) (h.rd s))
  | dct e h => exact .inr ⟨_, rfl⟩
theorem Holds.rdE (s : RdB H H') (e : H' p = H p) (h : Holds K B H p t) : Holds K B H' p t := by
  cases h with
  | lst e h => exact .lst (s.lst _ _ e) (h.rd s)
  | ins e h => exact .ins (s.ins _ _ _ _ e) (h.rd s)
  | dct e1 h => exact .dct (e.trans e1) (h.rd s)
theorem Rel.rd (R : Rel K O H σ env) (s : RdB H H') (hr : ∀ a, Root env a → H' a = H a) (hd : ∀ a, H a ≠ none → H' a ≠ none) : Rel K O H' σ env := by
  refine ⟨R.len, fun i u e => ?_, R.one, R.out, fun a q => hd a (R.dom a q)⟩
  have h := R.slot i u e
  cases u with
  | none => trivial
  | val t => obtain ⟨v, e1, e2⟩ := h; exact ⟨v, e1, e2.rd s⟩
  | own p t => exact ⟨h.1, h.2.rdE s (hr p ⟨i, _, e, rfl⟩)⟩
  | ref p t => exact ⟨h.1, h.2.rdE s (hr p ⟨i, _, e, rfl⟩)⟩
/-- the state under a lock -/
theorem Rel.lock {d : Addr} {o : Obj} {ks : List (Key × V)} (R : Rel K O H σ env) (e : H d = some (.dK ks)) (n : ¬ Bd O env d) : Rel K O (upd H d (.frz o (.dK ks))) σ env :=
  R.rd (.lock e) (fun a q => upd_ne fun z => n (z ▸ .inr q)) fun a q => by
    by_cases z : a = d
    · rw [z, upd_same]; exact fun z => by cases z
    · rw [upd_ne z]; exact q
theorem Rel.unlock {d : Addr} {o : Obj} {ks : List (Key × V)} (R : Rel K O H σ env) (e : H d = some (.frz o (.dK ks))) (n : ¬ Root env d) : Rel K O (upd H d (.dK ks)) σ env :=
  R.rd (.unlock e) (fun a q => upd_ne fun z => n (z ▸ q)) fun a q => by
    by_cases z : a = d
    · rw [z, upd_same]; exact fun z => by cases z
    · rw [upd_ne z]; exact q
theorem stp_lock {d : Addr} {o : Obj} {ks : List (Key × V)} (e : H d = some (.dK ks)) (n : ¬ Root env d) (s : Stp env (upd H d (.frz o (.dK ks))) env' H') : H' d = some (.frz o (.dK ks)) ∧ ¬ Root env' d ∧ Stp env H env' (upd H' d (.dK ks)) := by
  have e' := s.keep d _ n upd_same
  have n' : ¬ Root env' d := fun z => by
    rcases s.more d z with q | q
    · exact n q
    · rw [upd_same] at q; cases q
  refine ⟨e', n', fun a u na ea => ?_, fun a q => ?_, fun a q => ?_⟩
  · by_cases z : a = d
    · subst z; rw [e] at ea; cases ea; exact upd_same
    · rw [upd_ne z]; exact s.keep a u na (by rw [upd_ne z]; exact ea)
  · rcases s.more a q with z | z
    · exact .inl z
    · by_cases w : a = d
      · subst w; exact absurd q n'
      · rw [upd_ne w] at z; exact .inr z
  · by_cases z : a = d
    · rw [z, upd_same]; exact fun z => by cases z
    · rw [upd_ne z]; exact s.dom a (by rw [upd_ne z]; exact q)
/-- what of a dict is walked -/
inductive DW where
  | keys
  | vals
  | items
def DW.of : DW → List (Key × T) → List T
  | .keys, kvs => kvs.map fun kv => kT kv.1
  | .vals, kvs => kvs.map (·.2)
  | .items, kvs => kvs.map fun kv => .tup [kT kv.1, kv.2]
def DW.it (w : DW) (d : Addr) (o : Obj) (kvs : List (Key × V)) : It := match w with
  | .keys => Itk d o kvs
  | .vals => Itd d o kvs
  | .items => Iti d o kvs
def DW.ti (w : DW) (td : TE) : TI := match w with
  | .keys => iKeys td
  | .vals => iVals td
  | .items => iItems td
def piD (w : DW) (pe : PE) : PIt := fun env P => pe env fun t env' => match t with | .dct kvs => P (w.of kvs) env' | _ => False
theorem AtK.get : ∀ {kvs : List (Key × V)} {ts : List (Key × T)} {i : Nat} {k : Key} {x : V}, AtK K B H kvs ts → kvs[i]? = some (k, x) → ∃ t, ts[i]? = some (k, t) ∧ At K B H x t
  | _, _, _, _, _, .nil, e => by simp at e
  | _, _, 0, _, _, .cons h _, e => by simp at e; obtain ⟨rfl, rfl⟩ := e; exact ⟨_, rfl, h⟩
  | _, _, i + 1, k, x, .cons _ r, e => by
    obtain ⟨t, h1, h2⟩ := AtK.get (i := i) (k := k) (x := x) r (by simpa using e)
    exact ⟨t, by simpa using h1, h2⟩
theorem at_kT (k : Key) : At K B H (kV k) (kT k) := by cases k; exact .int _; exact .str _
theorem it_dict {w : DW} {d : Addr} {o : Obj} {ks : List (Key × V)} {kvs : List (Key × T)} (n : ¬ B d) (e : H d = some (.frz o (.dK ks))) (al : AtK K B H ks kvs) : ItOk K (w.it d o ks) (w.of kvs) B H := by
  intro B' H' st bd
  have e' := st.keep _ _ n e
  have al' := al.keep st
  have hl : (w.of kvs).length = ks.length := by cases w <;> simp [DW.of, al.length]
  rw [hl]
  cases w with
  | keys =>
    refine ⟨fun i hi => ⟨e', hi⟩, ⟨e', Nat.le_refl _⟩, fun i x H'' hi y => ?_⟩
    obtain ⟨rfl, k, u, eu, rfl⟩ := y
    obtain ⟨t, et, at'⟩ := al'.get eu
    exact ⟨Same.refl _, kT k, by show (kvs.map fun kv => kT kv.1)[i]? = _; rw [List.getElem?_map, et]; rfl, at_kT k⟩
  | vals =>
    refine ⟨fun i hi => ⟨e', hi⟩, ⟨e', Nat.le_refl _⟩, fun i x H'' hi y => ?_⟩
    obtain ⟨rfl, k, eu⟩ := y
    obtain ⟨t, et, at'⟩ := al'.get eu
    exact ⟨Same.refl _, t, by show (kvs.map (·.2))[i]? = _; rw [List.getElem?_map, et]; rfl, at'⟩
  | items =>
    refine ⟨fun i hi => ⟨e', hi⟩, ⟨e', Nat.le_refl _⟩, fun i x H'' hi y => ?_⟩
    obtain ⟨T', k, u, eu, rfl, hT, rfl⟩ := y
    obtain ⟨t, et, at'⟩ := al'.get eu
    have sm : Same H' (upd H' T' (.tup [kV k, u])) := same_new hT
    exact ⟨sm, .tup [kT k, t], by show (kvs.map fun kv => T.tup [kT kv.1, kv.2])[i]? = _; rw [List.getElem?_map, et]; rfl, .tup (fun z => bd _ z hT) (.inl upd_same) (.cons (at_kT k) (.cons (at'.keep (.same sm)) .nil))⟩
/-- the walk begins: the dict is known -/
theorem ti_frz {w : DW} {td : TE} {d : Addr} {o : Obj} {ks : List (Key × V)} {R : It → Hp → Prop} (h : td σ H fun x H1 => x = .ref d ∧ H1 = H) (mono : ∀ (Q Q' : VK), (∀ x H1, Q x H1 → Q' x H1) → td σ H Q → td σ H Q') (e : H d = some (.frz o (.dK ks))) (q : R (w.it d o ks) H) : w.ti td σ H R := by
  cases w with
  | keys => exact mono _ _ (fun x H1 z => by obtain ⟨rfl, rfl⟩ := z; exact ⟨d, o, rfl, .inl ⟨ks, e, q⟩⟩) h
  | vals => exact mono _ _ (fun x H1 z => by obtain ⟨rfl, rfl⟩ := z; exact ⟨d, o, ks, rfl, e, q⟩) h
  | items => exact mono _ _ (fun x H1 z => by obtain ⟨rfl, rfl⟩ := z; exact ⟨d, o, ks, rfl, e, q⟩) h
theorem ti_var {w : DW} {i : Nat} {d : Addr} {o : Obj} {ks : List (Key × V)} {R : It → Hp → Prop} (ev : σ[i]? = some (some (.ref d))) (e : H d = some (.frz o (.dK ks))) (q : R (w.it d o ks) H) : w.ti (tVar i) σ H R :=
  ti_frz ⟨_, ev, rfl, rfl⟩ (fun Q Q' h ⟨v, e, z⟩ => ⟨v, e, h _ _ z⟩) e q
theorem rf_forD {w : DW} {i : Nat} {g : TG} {tb : TS} {pg : PG} {pb : PS} (hg : RefG K g pg) (hb : RefS K fr tb pb) : RefS K fr (tLockU (tFor (w.ti (tVar i)) g tb)) (pFor (piD w (pVar i)) pg pb) := by
  intro O H σ env D d R hp hd
  have hp' : pVar i env fun t env' => match t with | .dct kvs => pForGo pg pb d (w.of kvs) env' | _ => False := hp
  have key : ∀ (kvs : List (Key × T)) (env1 : Env) (v : V), σ[i]? = some (some v) → pForGo pg pb d (w.of kvs) env1 → Rel K O H σ env1 → Stp env H env1 H → At K (Bd O env1) H v (.dct kvs) → tLockU (tFor (w.ti (tVar i)) g tb) D σ H := by
    intro kvs env1 v ev p1 r1 s1 a1
    have hd1 := hd.from s1
    cases a1 with
    | @dct a ks _ n e al =>
      have nr : ¬ Root env1 a := fun z => n (.inr z)
      rcases e with e | ⟨o, e⟩
      · refine .inl ⟨a, .dK ks, e, trivial, fun od => ?_⟩
        have rl := r1.lock (o := od) e n
        refine ti_var ev upd_same ?_
        refine for_core hg hb rl (it_dict n upd_same (al.rd (.lock e))) p1 ⟨fun σ' env' H' h r s => ?_, fun σ' env' H' h r s => ?_, fun σ' env' H' h r s => ?_, fun t σ' env' v H' h r s at' f => ?_⟩
        · obtain ⟨e1, n1, s2⟩ := stp_lock e nr s
          exact ⟨e1, hd1.nx σ' env' _ h (r.unlock e1 n1) s2⟩
        · obtain ⟨e1, n1, s2⟩ := stp_lock e nr s
          exact ⟨e1, hd1.bk σ' env' _ h (r.unlock e1 n1) s2⟩
        · obtain ⟨e1, n1, s2⟩ := stp_lock e nr s
          exact ⟨e1, hd1.ct σ' env' _ h (r.unlock e1 n1) s2⟩
        · obtain ⟨e1, n1, s2⟩ := stp_lock e nr s
          refine ⟨e1, hd1.rt t σ' env' v _ h (r.unlock e1 n1) s2 (at'.rd (.unlock e1)) fun z => ?_⟩
          obtain ⟨p, rfl, hn, rp, ho⟩ := f z
          have np : p ≠ a := fun q => by rw [q, upd_same] at hn; cases hn
          refine ⟨p, rfl, by rw [upd_ne np] at hn; exact hn, rp.unlock e1 n1, ho.rdE (.unlock e1) (upd_ne np)⟩
      · exact .inr (ti_var ev e (for_core hg hb r1 (it_dict n e al) p1 hd1))
  unfold pVar at hp'
  cases e : env[i]? with
  | none => rw [e] at hp'; exact hp'.elim
  | some s =>
    rw [e] at hp'
    cases s with
    | none => exact hp'.elim
    | ref p t => exact hp'.elim
    | val t =>
      obtain ⟨v, h1, h2⟩ := R.slot i _ e
      cases t with
      | dct kvs => exact key kvs env v (R.var e h1) hp' R (.refl _ _) h2
      | _ => exact hp'.elim
    | own p t =>
      obtain ⟨h1, h2, h3⟩ := R.free e
      cases t with
      | dct kvs => exact key kvs _ _ h1 hp' h2 stp_putV h3
      | _ => exact hp'.elim
theorem rf_lcD {w : DW} {i : Nat} {g : TG} {tt : TT} {te : TE} {vs : List Nat} {pg : PG} {pt : PT} {pe : PE} (hg : RefGw K vs g pg) (ht : RefT K tt pt) (he : RefE K te pe) : RefF K (tLockUE (tLc (w.ti (tVar i)) g tt te vs)) (pLc (piD w (pVar i)) pg pt pe vs) := by
  intro O H σ env P Q R hp hq
  have hp' : pVar i env fun t env' => match t with | .dct kvs => (w.of kvs).length ≤ 1000000 ∧ pLcGo pg pt pe vs P (w.of kvs) [] (wipeE env' vs) | _ => False := hp
  have key : ∀ (kvs : List (Key × T)) (env1 : Env) (v : V), σ[i]? = some (some v) → ((w.of kvs).length ≤ 1000000 ∧ pLcGo pg pt pe vs P (w.of kvs) [] (wipeE env1 vs)) → Rel K O H σ env1 → Stp env H env1 H → At K (Bd O env1) H v (.dct kvs) → tLockUE (tLc (w.ti (tVar i)) g tt te vs) σ H Q := by
    intro kvs env1 v ev p1 r1 s1 a1
    cases a1 with
    | @dct a ks _ n e al =>
      have nr : ¬ Root env1 a := fun z => n (.inr z)
      rcases e with e | ⟨o, e⟩
      · refine .inl ⟨a, .dK ks, e, trivial, fun od => ?_⟩
        have rl := r1.lock (o := od) e n
        refine ti_var ev upd_same ?_
        refine lc_coreP (Q := fun v H' => H' a = some (.frz od (.dK ks)) ∧ Q v (upd H' a (.dK ks))) hg ht he rl (it_dict n upd_same (al.rd (.lock e))) p1.1 p1.2 fun t env' p H' pt r s hn ho => ?_
        obtain ⟨e1, n1, s2⟩ := stp_lock e nr s
        have np : p ≠ a := fun q => by rw [q, upd_same] at hn; cases hn
        rw [upd_ne np] at hn
        exact ⟨e1, hq t env' p _ pt (r.unlock e1 n1) (s1.trans s2) hn (ho.rdE (.unlock e1) (upd_ne np))⟩
      · exact .inr (ti_var ev e (lc_coreP hg ht he r1 (it_dict n e al) p1.1 p1.2 fun t env' p H' pt r s hn ho => hq t env' p H' pt r (s1.trans s) hn ho))
  unfold pVar at hp'
  cases e : env[i]? with
  | none => rw [e] at hp'; exact hp'.elim
  | some s =>
    rw [e] at hp'
    cases s with
    | none => exact hp'.elim
    | ref p t => exact hp'.elim
    | val t =>
      obtain ⟨v, h1, h2⟩ := R.slot i _ e
      cases t with
      | dct kvs => exact key kvs env v (R.var e h1) hp' R (.refl _ _) h2
      | _ => exact hp'.elim
    | own p t =>
      obtain ⟨h1, h2, h3⟩ := R.free e
      cases t with
      | dct kvs => exact key kvs _ _ h1 hp' h2 stp_putV h3
      | _ => exact hp'.elim
/-- xs = [.. for .. in d]: the lock is about the statement -/
theorem rf_setLcD {w : DW} {i j : Nat} {g : TG} {tt : TT} {te : TE} {vs : List Nat} {pg : PG} {pt : PT} {pe : PE} (hg : RefGw K vs g pg) (ht : RefT K tt pt) (he : RefE K te pe) : RefS K fr (tLockU (tAsg (tLc (w.ti (tVar i)) g tt te vs) (gName j))) (pAsg (pLc (piD w (pVar i)) pg pt pe vs) (pgName j)) := by
  intro O H σ env D d R hp hd
  have base : ∀ Q : VK, (∀ t env' p H', pgName j t env' d.nx → Rel K (fun a => O a ∨ a = p) H' σ env' → Stp env H env' H' → H p = none → Holds K (Bd (fun a => O a ∨ a = p) env') H' p t → Q (.ref p) H') → tLockUE (tLc (w.ti (tVar i)) g tt te vs) σ H Q := fun Q hq => rf_lcD hg ht he O H σ env _ Q R hp hq
  have z := base (fun x H1 => D.nx (σ.set j (some x)) H1) fun t env' p H' pt r s hn ho => by
    have r' : Rel K O H' σ env' := r.less fun a q => .inl q
    have at' : At K (Bd O env') H' (.ref p) t := ho.at (fun z => by
      rcases z with z | z
      · exact R.dom p z hn
      · exact r.out p (.inr rfl) z) fun a q => q.elim (fun z => .inl (.inl z)) .inr
    exact hd.nx _ _ H' pt.2 (r'.putV at') (s.trans stp_putV)
  rcases z with ⟨a, u, e, mu, z⟩ | z
  · exact .inl ⟨a, u, e, mu, z⟩
  · exact .inr z
/-! ### while -/
def pWhile (c : PT) (pb : PS) : PS := fun d env => ∃ W : Nat → Env → Prop, (∃ m, W m env) ∧ ∀ m env, W m env →
  c env fun b env1 => if b = true then ∃ N : Env → Prop, (∀ env', N env' → ∃ m', m' < m ∧ W m' env') ∧ pb { d with nx := N, ct := N, bk := d.nx } env1 else d.nx env1
theorem rf_while {c : TT} {pc : PT} {tb : TS} {pb : PS} (hc : RefT K c pc) (hb : RefS K fr tb pb) : RefS K fr (tWhile c tb) (pWhile pc pb) := by
  rintro O H σ env D d R ⟨W, ⟨m0, w0⟩, turn⟩ hd
  refine ⟨fun m σ' H' => ∃ env', W m env' ∧ Rel K O H' σ' env' ∧ Stp env H env' H', ⟨m0, env, w0, R, .refl _ _⟩, ?_⟩
  rintro m σ1 H1 ⟨env1, w1, r1, s1⟩
  refine hc O H1 σ1 env1 _ _ r1 (turn m env1 w1) fun b env2 H2 p2 r2 s2 => ?_
  have s12 := s1.trans s2
  cases b with
  | true =>
    rw [if_pos rfl] at p2 ⊢
    obtain ⟨N, hN, p2⟩ := p2
    refine ⟨fun σ' H' => ∃ env', N env' ∧ Rel K O H' σ' env' ∧ Stp env H env' H', ?_, ?_⟩
    · rintro σ' H' ⟨env', n', r', s'⟩
      obtain ⟨m', hm, w'⟩ := hN env' n'
      exact ⟨m', hm, env', w', r', s'⟩
    · have de := hd.from s12
      exact hb O H2 σ1 env2 _ _ r2 p2 ⟨fun σ3 env3 H3 p3 r3 s3 => ⟨env3, p3, r3, s12.trans s3⟩, de.nx, fun σ3 env3 H3 p3 r3 s3 => ⟨env3, p3, r3, s12.trans s3⟩, de.rt⟩
  | false =>
    rw [if_neg Bool.false_ne_true] at p2 ⊢
    exact hd.nx σ1 env2 H2 p2 r2 s12
end
end Pu

namespace Pu
open PySem PySem.Spec PyProof.Rows L2 He Hk
/-! ### defs: their promises without the heap -/
abbrev PSp := List Slot → (T → List Slot → Prop) → Prop
inductive Shp : List Slot → List Slot → Prop
  | nil : Shp [] []
  | val {t : T} {a b : List Slot} (h : Shp a b) : Shp (.val t :: a) (.val t :: b)
  | ref {p : Addr} {t u : T} {a b : List Slot} (h : Shp a b) : Shp (.ref p t :: a) (.ref p u :: b)
def Fresh (K : PySem.W.Frag) (O : Addr → Prop) (H : Hp) (σ' : L2.St) (env' : Env) (v : V) (H' : Hp) (t : T) : Prop := ∃ p, v = .ref p ∧ H p = none ∧ Rel K (fun a => O a ∨ a = p) H' σ' env' ∧ Holds K (Bd (fun a => O a ∨ a = p) env') H' p t
/-- the promise on the heap -/
def spP (K : PySem.W.Frag) (fr : Bool) (ps : PSp) : Sp := fun vs H Q _ => ∃ (O : Addr → Prop) (sl : List Slot) (P : T → List Slot → Prop), Rel K O H (vs.map some) sl ∧ ps sl P ∧
  ∀ t sl' v H', P t sl' → Shp sl sl' → Rel K O H' (vs.map some) sl' → Stp sl H sl' H' → At K (Bd O sl') H' v t → (fr = true → Fresh K O H (vs.map some) sl' v H' t) → Q v H'
def slotsOf (env : Env) : List Ar → Option (List Slot)
  | [] => some []
  | .val t :: as => match slotsOf env as with | some sl => some (.val t :: sl) | none => none
  | .var i :: as => match ownT env[i]? with | some (p, t) => (match slotsOf env as with | some sl => some (.ref p t :: sl) | none => none) | none => none
def backE (env : Env) : List Ar → List Slot → Env
  | .var i :: as, .ref _ t :: sl => backE (reown env i t) as sl
  | .val _ :: as, _ :: sl => backE env as sl
  | _, _ => env
def isVar (i : Nat) : Ar → Bool
  | .var j => i == j
  | _ => false
def ndA : List Ar → Bool
  | [] => true
  | .val _ :: as => ndA as
  | .var i :: as => !(as.any (isVar i)) && ndA as
def pCall (ps : PSp) (pa : PA) : PE := fun env P => pa env fun as env' => match slotsOf env' as with
  | some sl => ndA as = true ∧ ps sl fun t sl' => P t (backE env' as sl')
  | none => False
section
variable {K : PySem.W.Frag} {O B B' : Addr → Prop} {H H' H1 H2 : Hp} {env env' env1 env2 : Env} {σ : L2.St} {p : Addr} {v : V} {t : T} {fr : Bool}
theorem Shp.get {sl sl' : List Slot} (h : Shp sl sl') : ∀ (i : Nat) (s : Slot), sl'[i]? = some s → ∃ u, sl[i]? = some u ∧ u.root = s.root := by
  induction h with
  | nil => intro i s e; simp at e
  | val _ ih =>
    intro i s e
    cases i with
    | zero => simp at e; subst e; exact ⟨_, rfl, rfl⟩
    | succ i => exact ih i s (by simpa using e)
  | ref _ ih =>
    intro i s e
    cases i with
    | zero => simp at e; subst e; exact ⟨_, rfl, rfl⟩
    | succ i => exact ih i s (by simpa using e)
theorem Shp.root {sl sl' : List Slot} (h : Shp sl sl') {a : Addr} (r : Root sl' a) : Root sl a := by
  obtain ⟨i, s, e, r⟩ := r
  obtain ⟨u, e2, r2⟩ := h.get i s e
  exact ⟨i, u, e2, r2.trans r⟩
theorem ownT_reown {i j : Nat} {u : T} (h : i ≠ j) : ownT (reown env i u)[j]? = ownT env[j]? := by
  unfold reown
  split
  · rw [List.getElem?_set, if_neg h]
  · rw [List.getElem?_set, if_neg h]
  · rfl
theorem reown_ne {i j : Nat} {u : T} (h : i ≠ j) : (reown env i u)[j]? = env[j]? := by
  unfold reown
  split
  · rw [List.getElem?_set, if_neg h]
  · rw [List.getElem?_set, if_neg h]
  · rfl
theorem slotsOf_reown {i : Nat} {u : T} : ∀ {as : List Ar}, as.any (isVar i) = false → slotsOf (reown env i u) as = slotsOf env as
  | [], _ => rfl
  | .val t :: as, h => by
    unfold slotsOf
    rw [slotsOf_reown (as := as) (by simpa [isVar] using h)]
  | .var j :: as, h => by
    rw [List.any_cons, Bool.or_eq_false_iff] at h
    have hj : i ≠ j := fun z => by
      have := h.1
      simp [isVar, z] at this
    unfold slotsOf
    rw [slotsOf_reown (as := as) h.2, ownT_reown hj]
/-- the passed slots alone have new contents -/
theorem back_get : ∀ {as : List Ar} {sl sl' : List Slot} {env : Env}, slotsOf env as = some sl → Shp sl sl' → ndA as = true → ∀ j : Nat,
    ((∃ (k : Nat) (p : Addr) (t : T), as[k]? = some (.var j) ∧ sl'[k]? = some (.ref p t) ∧ (∃ t0, ownT env[j]? = some (p, t0)) ∧ ownT (backE env as sl')[j]? = some (p, t)) ∨ ((∀ k : Nat, as[k]? ≠ some (Ar.var j)) ∧ (backE env as sl')[j]? = env[j]?)) ∧ (backE env as sl').length = env.length
  | [], sl, sl', env, e, h, _, j => by
    cases e; cases h; exact ⟨.inr ⟨fun k z => by simp at z, rfl⟩, rfl⟩
  | .val t :: as, sl, sl', env, e, h, n, j => by
    unfold slotsOf at e
    cases q : slotsOf env as with
    | none => rw [q] at e; cases e
    | some sl0 =>
      rw [q] at e; cases e
      cases h with
      | val h =>
        obtain ⟨h1, h2⟩ := back_get (as := as) q h n j
        refine ⟨?_, h2⟩
        rcases h1 with ⟨k, p, t, e1, e2, e3, e4⟩ | h1
        · exact .inl ⟨k + 1, p, t, by simpa using e1, by simpa using e2, e3, e4⟩
        · refine .inr ⟨fun k z => ?_, h1.2⟩
          cases k with
          | zero => simp at z
          | succ k => exact h1.1 k (by simpa using z)
  | .var i :: as, sl, sl', env, e, h, n, j => by
    unfold slotsOf at e
    unfold ndA at n
    obtain ⟨n1, n2⟩ := Bool.and_eq_true_iff.mp n
    have n1' : as.any (isVar i) = false := by simpa using n1
    cases q0 : ownT env[i]? with
    | none => rw [q0] at e; cases e
    | some pt =>
      obtain ⟨p, t⟩ := pt
      rw [q0] at e
      dsimp only at e
      cases q : slotsOf env as with
      | none => rw [q] at e; cases e
      | some sl0 =>
        rw [q] at e; cases e
        cases h with
        | @ref _ _ u _ b h =>
          have q' : slotsOf (reown env i u) as = some sl0 := by rw [slotsOf_reown n1']; exact q
          obtain ⟨h1, h2⟩ := back_get (as := as) q' h n2 j
          have len : (reown env i u).length = env.length := by unfold reown; split <;> first | (rw [List.length_set]) | rfl
          refine ⟨?_, h2.trans len⟩
          rcases h1 with ⟨k, p', t', e1, e2, e3, e4⟩ | h1
          · have hij : i ≠ j := fun z => by
              subst z
              have : as.any (isVar i) = true := List.any_eq_true.mpr ⟨.var i, List.mem_of_getElem? e1, by simp [isVar]⟩
              rw [this] at n1'; cases n1'
            rw [ownT_reown hij] at e3
            exact .inl ⟨k + 1, p', t', by simpa using e1, by simpa using e2, e3, e4⟩
          · by_cases hij : i = j
            · subst hij
              refine .inl ⟨0, p, u, rfl, rfl, ⟨t, q0⟩, ?_⟩
              show ownT (backE (reown env i u) as b)[i]? = _
              rw [h1.2]
              unfold reown
              cases q5 : env[i]? with
              | none => rw [q5] at q0; cases q0
              | some s =>
                rw [q5] at q0
                have hi := (List.getElem?_eq_some_iff.mp q5).1
                cases s with
                | own p' t' => cases q0; show ownT (env.set i (.own p u))[i]? = _; rw [List.getElem?_set, if_pos rfl, if_pos hi]; rfl
                | ref p' t' => cases q0; show ownT (env.set i (.ref p u))[i]? = _; rw [List.getElem?_set, if_pos rfl, if_pos hi]; rfl
                | none => cases q0
                | val _ => cases q0
            · refine .inr ⟨fun k z => ?_, ?_⟩
              · cases k with
                | zero => simp at z; exact hij z
                | succ k => exact h1.1 k (by simpa using z)
              · show (backE (reown env i u) as b)[j]? = _
                rw [h1.2, reown_ne hij]
theorem ownT_some {s : Option Slot} {p : Addr} {t : T} (h : ownT s = some (p, t)) : ∃ u, s = some u ∧ u.root = some p ∧ (u = .own p t ∨ u = .ref p t) := by
  cases s with
  | none => cases h
  | some u =>
    cases u with
    | own p' t' => cases h; exact ⟨_, rfl, rfl, .inl rfl⟩
    | ref p' t' => cases h; exact ⟨_, rfl, rfl, .inr rfl⟩
    | none => cases h
    | val _ => cases h
/-- the callee's slots -/
theorem args_rel : ∀ {as : List Ar} {vs : List V} {sl : List Slot}, Rel K O H σ env → ArOk K (Bd O env) H σ as vs → slotsOf env as = some sl → vs.length = sl.length ∧ (∀ (k : Nat) (s : Slot), sl[k]? = some s → ∃ v, vs[k]? = some v ∧
      ((∃ t, s = .val t ∧ At K (Bd O env) H v t) ∨ ∃ j p t, as[k]? = some (.var j) ∧ s = .ref p t ∧ v = .ref p ∧ ownT env[j]? = some (p, t) ∧ Holds K (Bd O env) H p t))
  | [], [], sl, R, h, e => by cases e; exact ⟨rfl, fun k s e => by simp at e⟩
  | .val t :: as, v :: vs, sl, R, h, e => by
    unfold slotsOf at e
    cases q : slotsOf env as with
    | none => rw [q] at e; cases e
    | some sl0 =>
      rw [q] at e; cases e
      obtain ⟨l, h2⟩ := args_rel R h.2 q
      refine ⟨by simp [l], fun k s e => ?_⟩
      cases k with
      | zero => simp at e; subst e; exact ⟨v, rfl, .inl ⟨t, rfl, h.1⟩⟩
      | succ k =>
        obtain ⟨w, h3, h4⟩ := h2 k s (by simpa using e)
        refine ⟨w, by simpa using h3, ?_⟩
        rcases h4 with h4 | ⟨j, p, t, e1, r⟩
        · exact .inl h4
        · exact .inr ⟨j, p, t, by simpa using e1, r⟩
  | .var i :: as, v :: vs, sl, R, h, e => by
    unfold slotsOf at e
    cases q0 : ownT env[i]? with
    | none => rw [q0] at e; cases e
    | some pt =>
      obtain ⟨p, t⟩ := pt
      rw [q0] at e
      dsimp only at e
      cases q : slotsOf env as with
      | none => rw [q] at e; cases e
      | some sl0 =>
        rw [q] at e; cases e
        obtain ⟨l, h2⟩ := args_rel R h.2 q
        refine ⟨by simp [l], fun k s e => ?_⟩
        cases k with
        | zero =>
          simp at e; subst e
          have ho := ownT_holds R q0
          obtain ⟨u, eu, ru, _⟩ := ownT_some q0
          have sv := ((R.slot i u eu).root ru).1
          rw [h.1] at sv
          cases sv
          exact ⟨_, rfl, .inr ⟨i, p, t, rfl, rfl, rfl, q0, ho⟩⟩
        | succ k =>
          obtain ⟨w, h3, h4⟩ := h2 k s (by simpa using e)
          refine ⟨w, by simpa using h3, ?_⟩
          rcases h4 with h4 | ⟨j, p, t, e1, r⟩
          · exact .inl h4
          · exact .inr ⟨j, p, t, by simpa using e1, r⟩
  | [], _ :: _, _, _, h, _ => h.elim
  | .val _ :: _, [], _, _, h, _ => h.elim
  | .var _ :: _, [], _, _, h, _ => h.elim
theorem ndA_one : ∀ {as : List Ar} {i j n : Nat}, ndA as = true → as[i]? = some (.var n) → as[j]? = some (.var n) → i = j
  | [], i, j, n, _, e, _ => by simp at e
  | a :: as, i, j, n, h, e1, e2 => by
    have hr : ndA as = true := by
      cases a with
      | val _ => exact h
      | var m => exact (Bool.and_eq_true_iff.mp h).2
    have hd : ∀ k : Nat, a = Ar.var n → as[k]? = some (Ar.var n) → False := fun k ea ek => by
      subst ea
      have h1 := (Bool.and_eq_true_iff.mp h).1
      have : as.any (isVar n) = true := List.any_eq_true.mpr ⟨.var n, List.mem_of_getElem? ek, by simp [isVar]⟩
      rw [this] at h1; cases h1
    cases i with
    | zero =>
      cases j with
      | zero => rfl
      | succ j => exact (hd j (by simpa using e1) (by simpa using e2)).elim
    | succ i =>
      cases j with
      | zero => exact (hd i (by simpa using e2) (by simpa using e1)).elim
      | succ j => exact congrArg Nat.succ (ndA_one hr (by simpa using e1) (by simpa using e2))
/-- the callee's state, and back -/
theorem call_in {as : List Ar} {vs : List V} {sl : List Slot} (R : Rel K O H σ env) (ha : ArOk K (Bd O env) H σ as vs) (e : slotsOf env as = some sl) (nd : ndA as = true) : Rel K (fun a => (O a ∨ Root env a) ∧ ¬ Root sl a) H (vs.map some) sl ∧ (∀ a, Root sl a → Root env a) := by
  obtain ⟨hl, h⟩ := args_rel R ha e
  have hroot : ∀ a, Root sl a → ∃ (k j : Nat) (t : T), as[k]? = some (.var j) ∧ sl[k]? = some (.ref a t) ∧ ownT env[j]? = some (a, t) := by
    rintro a ⟨k, s, es, rs⟩
    obtain ⟨v, hv, q⟩ := h k s es
    rcases q with ⟨t, rfl, _⟩ | ⟨j, p, t, e1, rfl, rfl, e2, _⟩
    · cases rs
    · cases rs; exact ⟨k, j, t, e1, es, e2⟩
  have hsub : ∀ a, Root sl a → Root env a := fun a r => by
    obtain ⟨k, j, t, _, _, e2⟩ := hroot a r
    exact ownT_root e2
  have hb : ∀ a, Bd (fun a => (O a ∨ Root env a) ∧ ¬ Root sl a) sl a → Bd O env a := fun a q => by
    rcases q with q | q
    · exact q.1
    · exact .inr (hsub a q)
  refine ⟨⟨by rw [List.length_map]; exact hl, fun k s es => ?_, fun k l s u a e1 e2 r1 r2 => ?_, fun a q => q.2, fun a q => R.bdom q.1⟩, hsub⟩
  · obtain ⟨v, hv, q⟩ := h k s es
    have ev : (vs.map some)[k]?.getD Option.none = some v := by rw [List.getElem?_map, hv]; rfl
    rw [ev]
    rcases q with ⟨t, rfl, at'⟩ | ⟨j, p, t, e1, rfl, rfl, e2, ho⟩
    · exact ⟨v, rfl, at'.keep (.less hb)⟩
    · exact ⟨rfl, ho.keep (.less hb) rfl⟩
  · obtain ⟨v1, _, q1⟩ := h k s e1
    obtain ⟨v2, _, q2⟩ := h l u e2
    rcases q1 with ⟨t1, rfl, _⟩ | ⟨j1, p1, t1, f1, rfl, _, g1, _⟩
    · cases r1
    · rcases q2 with ⟨t2, rfl, _⟩ | ⟨j2, p2, t2, f2, rfl, _, g2, _⟩
      · cases r2
      · cases r1; cases r2
        obtain ⟨u1, a1, b1, _⟩ := ownT_some g1
        obtain ⟨u2, a2, b2, _⟩ := ownT_some g2
        have ej := R.one j1 j2 u1 u2 _ a1 a2 b1 b2
        subst ej
        exact ndA_one nd f1 f2
theorem Shp.symm {sl sl' : List Slot} (h : Shp sl sl') : Shp sl' sl := by
  induction h with
  | nil => exact .nil
  | val _ ih => exact .val ih
  | ref _ ih => exact .ref ih
abbrev OC (O : Addr → Prop) (env : Env) (sl : List Slot) : Addr → Prop := fun a => (O a ∨ Root env a) ∧ ¬ Root sl a
theorem call_out {X : Addr → Prop} {as : List Ar} {vs : List V} {sl sl' : List Slot} (hX : ∀ a, X a → H a = none ∧ H' a ≠ none) (R : Rel K O H σ env) (ha : ArOk K (Bd O env) H σ as vs) (e : slotsOf env as = some sl) (nd : ndA as = true) (sh : Shp sl sl')
    (R' : Rel K (fun a => OC O env sl a ∨ X a) H' (vs.map some) sl') (s : Stp sl H sl' H') : Rel K (fun a => O a ∨ X a) H' σ (backE env as sl') ∧ Stp env H (backE env as sl') H' ∧ (∀ a, Bd (fun a => O a ∨ X a) (backE env as sl') a → Bd (fun a => OC O env sl a ∨ X a) sl' a) := by
  obtain ⟨R0, hsub⟩ := call_in R ha e nd
  have bg := fun j => (back_get e sh nd j).1
  have blen := (back_get e sh nd 0).2
  have broot : ∀ (j : Nat) (u : Slot), (backE env as sl')[j]? = some u → ∃ w, env[j]? = some w ∧ w.root = u.root := by
    intro j u eu
    rcases bg j with ⟨k, p, t, _, _, ⟨t0, g⟩, g2⟩ | g
    · rw [eu] at g2
      obtain ⟨u1, a1, b1, _⟩ := ownT_some g
      obtain ⟨u2, a2, b2, _⟩ := ownT_some g2
      cases a2
      exact ⟨u1, a1, b1.trans b2.symm⟩
    · rw [g.2] at eu; exact ⟨u, eu, rfl⟩
  have broot1 : ∀ a, Root (backE env as sl') a → Root env a := fun a ⟨j, u, eu, ru⟩ => by
    obtain ⟨w, ew, rw'⟩ := broot j u eu
    exact ⟨j, w, ew, rw'.trans ru⟩
  have hbd : ∀ a, Bd (fun a => O a ∨ X a) (backE env as sl') a → Bd (fun a => OC O env sl a ∨ X a) sl' a := by
    rintro a q
    by_cases c : Root sl a
    · exact .inr (sh.symm.root c)
    · rcases q with (q | q) | q
      · exact .inl (.inl ⟨.inl q, c⟩)
      · exact .inl (.inr q)
      · exact .inl (.inl ⟨.inr (broot1 a q), c⟩)
  have st : StB (Bd O env) H (Bd (fun a => O a ∨ X a) (backE env as sl')) H' := by
    refine ⟨fun a o n e => s.keep a o (fun z => n (.inr (hsub a z))) e, fun a q => ?_⟩
    rcases q with (q | q) | q
    · exact .inl (.inl q)
    · exact .inr (hX a q).1
    · exact .inl (.inr (broot1 a q))
  refine ⟨⟨by rw [blen]; exact R.len, fun j u eu => ?_, fun j l u w a e1 e2 r1 r2 => ?_, fun a q z => ?_, fun a q => ?_⟩, ⟨fun a o n e => s.keep a o (fun z => n (hsub a z)) e, fun a q => .inl (broot1 a q), s.dom⟩, hbd⟩
  · rcases bg j with ⟨k, p, t, f1, f2, ⟨t0, g⟩, g2⟩ | g
    · rw [eu] at g2
      obtain ⟨u1, a1, b1, _⟩ := ownT_some g
      obtain ⟨u2, a2, b2, c2⟩ := ownT_some g2
      cases a2
      have sv := ((R.slot j u1 a1).root b1).1
      have hk := R'.slot k _ f2
      have ho : Holds K (Bd (fun a => O a ∨ X a) (backE env as sl')) H' p t := hk.2.keep (.less hbd) rfl
      rcases c2 with rfl | rfl
      · exact ⟨sv, ho⟩
      · exact ⟨sv, ho⟩
    · obtain ⟨g0, g⟩ := g
      rw [g] at eu
      by_cases c : ∃ a, u.root = some a ∧ Root sl a
      · obtain ⟨a, ra, k, w, ew, rw'⟩ := c
        obtain ⟨hl, hh⟩ := args_rel R ha e
        obtain ⟨v, hv, q⟩ := hh k w ew
        rcases q with ⟨t, rfl, _⟩ | ⟨j', p, t, e1, rfl, rfl, e2, _⟩
        · cases rw'
        · cases rw'
          obtain ⟨u1, a1, b1, _⟩ := ownT_some e2
          have ej := R.one j j' u u1 _ eu a1 ra b1
          subst ej
          exact absurd e1 (g0 k)
      · refine (R.slot j u eu).keep st fun a ra => ?_
        obtain ⟨_, t, ho⟩ := (R.slot j u eu).root ra
        cases q : H a with
        | none => exact absurd q ho.def
        | some o => exact s.keep a o (fun z => c ⟨a, ra, z⟩) q
  · obtain ⟨w1, f1, g1⟩ := broot j u e1
    obtain ⟨w2, f2, g2⟩ := broot l w e2
    exact R.one j l w1 w2 a f1 f2 (g1.trans r1) (g2.trans r2)
  · rcases q with q | q
    · exact R.out a q (broot1 a z)
    · exact R.bdom (.inr (broot1 a z)) (hX a q).1
  · rcases q with q | q
    · exact s.dom a (R.dom a q)
    · exact (hX a q).2
theorem rf_call {ps : PSp} {ta : TA} {pa : PA} {E : XK} (ha : RefA K ta pa) : RefE K (tCall (spP K fr ps) [] E ta) (pCall ps pa) := by
  intro O H σ env P Q R hp hq
  refine ha O H σ env _ _ R hp fun as env' vs H' p1 r1 s1 a1 => ?_
  cases e : slotsOf env' as with
  | none => rw [e] at p1; exact p1.elim
  | some sl =>
    rw [e] at p1
    obtain ⟨nd, p1⟩ := p1
    rw [List.append_nil]
    obtain ⟨R0, _⟩ := call_in r1 a1 e nd
    refine ⟨_, sl, _, R0, p1, fun t sl' v H2 p2 sh R2 s2 at2 _ => ?_⟩
    obtain ⟨R3, s3, b3⟩ := call_out (X := fun _ => False) (fun a z => z.elim) r1 a1 e nd sh (R2.less fun a z => z.elim id False.elim) s2
    have R4 : Rel K O H2 σ (backE env' as sl') := R3.less fun a z => .inl z
    refine hq t _ v H2 p2 R4 (s1.trans s3) (at2.keep (.less fun a z => ?_))
    rcases b3 a (z.elim (fun q => .inl (.inl q)) .inr) with (q | q) | q
    · exact .inl q
    · exact q.elim
    · exact .inr q
theorem rf_callF {ps : PSp} {ta : TA} {pa : PA} {E : XK} (ha : RefA K ta pa) : RefF K (tCall (spP K true ps) [] E ta) (pCall ps pa) := by
  intro O H σ env P Q R hp hq
  refine ha O H σ env _ _ R hp fun as env' vs H' p1 r1 s1 a1 => ?_
  cases e : slotsOf env' as with
  | none => rw [e] at p1; exact p1.elim
  | some sl =>
    rw [e] at p1
    obtain ⟨nd, p1⟩ := p1
    rw [List.append_nil]
    obtain ⟨R0, _⟩ := call_in r1 a1 e nd
    refine ⟨_, sl, _, R0, p1, fun t sl' v H2 p2 sh R2 s2 at2 f => ?_⟩
    obtain ⟨p, rfl, hn, Rp, ho⟩ := f rfl
    obtain ⟨R3, s3, b3⟩ := call_out (X := fun a => a = p) (fun a z => by subst z; exact ⟨hn, ho.def⟩) r1 a1 e nd sh Rp s2
    refine hq t _ p H2 p2 R3 (s1.trans s3) ?_ (ho.keep (.less b3) rfl)
    cases q : H p with
    | none => rfl
    | some o => exact absurd hn (s1.dom p (by rw [q]; exact fun z => by cases z))
/-! ### a def's body -/
/-- what the caller gets back of the slots handed in -/
def retSl : List Slot → Env → List Slot
  | .ref _ _ :: r, s :: e => s :: retSl r e
  | s :: r, _ :: e => s :: retSl r e
  | sl, _ => sl
def keepsRef : List Slot → Env → Prop
  | [], _ => True
  | .val _ :: r, _ :: e => keepsRef r e
  | .ref p _ :: r, .ref q _ :: e => p = q ∧ keepsRef r e
  | _, _ => False
def pdOf (fr : Bool) (sl : List Slot) (P : T → List Slot → Prop) : PD := { nx := fun env => fr = false ∧ keepsRef sl env ∧ P .non (retSl sl env), rt := fun t env => keepsRef sl env ∧ P t (retSl sl env) }
def nones (n : Nat) : Env := List.replicate n .none
theorem ret_shp : ∀ {sl : List Slot} {env : Env}, keepsRef sl env → Shp sl (retSl sl env)
  | [], env, _ => by cases env <;> exact .nil
  | .val t :: r, _ :: e, h => .val (ret_shp (sl := r) (env := e) h)
  | .ref p t :: r, .ref q u :: e, h => by obtain ⟨rfl, h⟩ := h; exact .ref (ret_shp h)
  | .val _ :: _, [], h => h.elim
  | .ref _ _ :: _, [], h => h.elim
  | .ref _ _ :: _, .val _ :: _, h => h.elim
  | .ref _ _ :: _, .none :: _, h => h.elim
  | .ref _ _ :: _, .own _ _ :: _, h => h.elim
  | .none :: _, _, h => by cases h
  | .own _ _ :: _, _, h => by cases h
theorem ret_get : ∀ {sl : List Slot} {env : Env}, keepsRef sl env → ∀ (k : Nat) (s : Slot), (retSl sl env)[k]? = some s → (∃ t, sl[k]? = some (.val t) ∧ s = .val t) ∨ ∃ p t t', sl[k]? = some (.ref p t) ∧ env[k]? = some (.ref p t') ∧ s = .ref p t'
  | [], env, _, k, s, e => by cases env <;> simp [retSl] at e
  | .val t :: r, _ :: e, h, k, s, es => by
    cases k with
    | zero => simp [retSl] at es; exact .inl ⟨t, rfl, es.symm⟩
    | succ k => 
      rcases ret_get (sl := r) (env := e) h k s (by simpa [retSl] using es) with ⟨t, h1, h2⟩ | ⟨p, t, t', h1, h2, h3⟩
      · exact .inl ⟨t, by simpa using h1, h2⟩
      · exact .inr ⟨p, t, t', by simpa using h1, by simpa using h2, h3⟩
  | .ref p t :: r, .ref q u :: e, h, k, s, es => by
    obtain ⟨rfl, h⟩ := h
    cases k with
    | zero => simp [retSl] at es; exact .inr ⟨p, t, u, rfl, rfl, es.symm⟩
    | succ k => 
      rcases ret_get (sl := r) (env := e) h k s (by simpa [retSl] using es) with ⟨t, h1, h2⟩ | ⟨p, t, t', h1, h2, h3⟩
      · exact .inl ⟨t, by simpa using h1, h2⟩
      · exact .inr ⟨p, t, t', by simpa using h1, by simpa using h2, h3⟩
  | .val _ :: _, [], h, _, _, _ => h.elim
  | .ref _ _ :: _, [], h, _, _, _ => h.elim
  | .ref _ _ :: _, .val _ :: _, h, _, _, _ => h.elim
  | .ref _ _ :: _, .none :: _, h, _, _, _ => h.elim
  | .ref _ _ :: _, .own _ _ :: _, h, _, _, _ => h.elim
  | .none :: _, _, h, _, _, _ => by cases h
  | .own _ _ :: _, _, h, _, _, _ => by cases h
theorem ret_len : ∀ {sl : List Slot} {env : Env}, keepsRef sl env → (retSl sl env).length = sl.length
  | [], env, _ => by cases env <;> rfl
  | .val t :: r, _ :: e, h => by simp [retSl, ret_len (sl := r) (env := e) h]
  | .ref p t :: r, .ref q u :: e, h => by obtain ⟨rfl, h⟩ := h; simp [retSl, ret_len h]
  | .val _ :: _, [], h => h.elim
  | .ref _ _ :: _, [], h => h.elim
  | .ref _ _ :: _, .val _ :: _, h => h.elim
  | .ref _ _ :: _, .none :: _, h => h.elim
  | .ref _ _ :: _, .own _ _ :: _, h => h.elim
  | .none :: _, _, h => by cases h
  | .own _ _ :: _, _, h => by cases h
theorem root_nones {sl : List Slot} {m : Nat} {a : Addr} : Root (sl ++ nones m) a ↔ Root sl a := by
  constructor
  · rintro ⟨i, s, e, r⟩
    by_cases h : i < sl.length
    · rw [List.getElem?_append_left h] at e; exact ⟨i, s, e, r⟩
    · rw [List.getElem?_append_right (by omega)] at e
      unfold nones at e
      rw [List.getElem?_replicate] at e
      split at e
      · cases e; cases r
      · cases e
  · rintro ⟨i, s, e, r⟩
    exact ⟨i, s, by rw [List.getElem?_append_left (List.getElem?_eq_some_iff.mp e).1]; exact e, r⟩
theorem ret_rel {X : Addr → Prop} {vs : List V} {sl : List Slot} {m : Nat} {σ' : L2.St} (hX : ∀ a, X a → H a = none ∧ H' a ≠ none) (R : Rel K O H (vs.map some) sl) (R' : Rel K (fun a => O a ∨ X a) H' σ' env') (s : Stp (sl ++ nones m) H env' H') (k : keepsRef sl env') :
    Rel K (fun a => O a ∨ X a) H' (vs.map some) (retSl sl env') ∧ Stp sl H (retSl sl env') H' ∧ ∀ a, Root (retSl sl env') a → Root env' a := by
  have rg := ret_get k
  have sh := ret_shp k
  have r1 : ∀ a, Root (retSl sl env') a → Root env' a := fun a ⟨i, u, e, r⟩ => by
    rcases rg i u e with ⟨t, _, rfl⟩ | ⟨p, t, t', _, h2, rfl⟩
    · cases r
    · exact ⟨i, _, h2, r⟩
  have r2 : ∀ a, Root (retSl sl env') a → Root sl a := fun a q => sh.root q
  have st : StB (Bd O sl) H (Bd (fun a => O a ∨ X a) (retSl sl env')) H' := by
    refine ⟨fun a o n e => s.keep a o (fun z => n (.inr (root_nones.mp z))) e, fun a q => ?_⟩
    rcases q with (q | q) | q
    · exact .inl (.inl q)
    · exact .inr (hX a q).1
    · exact .inl (.inr (r2 a q))
  refine ⟨⟨by rw [ret_len k]; exact R.len, fun i u e => ?_, fun i j u w a e1 e2 q1 q2 => ?_, fun a q z => R'.out a q (r1 a z), R'.dom⟩, ⟨fun a o n e => s.keep a o (fun z => n (root_nones.mp z)) e, fun a q => .inl (r2 a q), s.dom⟩, r1⟩
  · rcases rg i u e with ⟨t, h1, rfl⟩ | ⟨p, t, t', h1, h2, rfl⟩
    · exact (R.slot i _ h1).keep st fun a r => by cases r
    · have sv := (R.slot i _ h1).1
      have ho := (R'.slot i _ h2).2
      exact ⟨sv, ho.keep (.less fun a q => q.elim .inl fun z => .inr (r1 a z)) rfl⟩
  · rcases rg i u e1 with ⟨t, h1, rfl⟩ | ⟨p, t, t', h1, h2, rfl⟩
    · cases q1
    · rcases rg j w e2 with ⟨t2, g1, rfl⟩ | ⟨p2, t2, t2', g1, g2, rfl⟩
      · cases q2
      · cases q1; cases q2
        exact R.one i j _ _ _ h1 g1 rfl rfl
theorem start_rel {vs : List V} {sl : List Slot} {N : List Str} (R : Rel K O H (vs.map some) sl) : Rel K O H (start N vs) (sl ++ nones (N.length - vs.length)) := by
  have hl : vs.length = sl.length := by have := R.len; rwa [List.length_map] at this
  refine ⟨by unfold L2.start nones; simp [hl], fun i s e => ?_, fun i j s u a e1 e2 r1 r2 => ?_, fun a q z => R.out a q (root_nones.mp z), R.dom⟩
  · by_cases h : i < sl.length
    · rw [List.getElem?_append_left h] at e
      unfold L2.start
      rw [List.getElem?_append_left (by rw [List.length_map, hl]; exact h)]
      exact (R.slot i s e).keep (.less fun a q => q.elim .inl fun z => .inr (root_nones.mp z)) fun _ _ => rfl
    · rw [List.getElem?_append_right (by omega)] at e
      unfold nones at e
      rw [List.getElem?_replicate] at e
      split at e
      · cases e; trivial
      · cases e
  · obtain ⟨s1, a1⟩ : ∃ x, sl[i]? = some x ∧ x = s := by
      by_cases h : i < sl.length
      · rw [List.getElem?_append_left h] at e1; exact ⟨s, e1, rfl⟩
      · rw [List.getElem?_append_right (by omega)] at e1
        unfold nones at e1
        rw [List.getElem?_replicate] at e1
        split at e1
        · cases e1; cases r1
        · cases e1
    obtain ⟨s2, a2⟩ : ∃ x, sl[j]? = some x ∧ x = u := by
      by_cases h : j < sl.length
      · rw [List.getElem?_append_left h] at e2; exact ⟨u, e2, rfl⟩
      · rw [List.getElem?_append_right (by omega)] at e2
        unfold nones at e2
        rw [List.getElem?_replicate] at e2
        split at e2
        · cases e2; cases r2
        · cases e2
    exact R.one i j s u a (a1.2 ▸ a1.1) (a2.2 ▸ a2.1) r1 r2
/-- from a body's reading to the def's promise -/
theorem body_ok {ps : PSp} {ts : TS} {pb : PS} {N : List Str} {n : Nat} (hr : RefS K fr ts pb) (hn : ∀ sl P, ps sl P → sl.length = n) (hp : ∀ sl P, ps sl P → pb (pdOf fr sl P) (sl ++ nones (N.length - n))) {vs : List V} {Q : VK} {E : XK} (h : spP K fr ps vs H Q E) :
    ts { nx := fun _ H' => Q .non H', rt := Q } (start N vs) H := by
  obtain ⟨O, sl, P, R, hps, hq⟩ := h
  have hl : vs.length = sl.length := by have := R.len; rwa [List.length_map] at this
  have hv : vs.length = n := hl.trans (hn sl P hps)
  have R0 := start_rel (N := N) R
  have hb := hp sl P hps
  rw [hv] at R0
  refine hr O H _ _ _ _ R0 hb ⟨fun σ' env' H' h r s => ?_, fun σ' env' H' h r s => h.elim, fun σ' env' H' h r s => h.elim, fun t σ' env' v H' h r s a f => ?_⟩
  · obtain ⟨rfl, k, hP⟩ := h
    obtain ⟨q1, q2, q3⟩ := ret_rel (X := fun _ => False) (fun a z => z.elim) R (r.less fun a z => z.elim id False.elim) s k
    exact hq .non _ .non H' hP (ret_shp k) (q1.less fun a z => .inl z) q2 .non fun z => by cases z
  · obtain ⟨k, hP⟩ := h
    obtain ⟨q1, q2, q3⟩ := ret_rel (X := fun _ => False) (fun a z => z.elim) R (r.less fun a z => z.elim id False.elim) s k
    refine hq t _ v H' hP (ret_shp k) (q1.less fun a z => .inl z) q2 (a.keep (.less fun a z => z.elim .inl fun w => .inr (q3 a w))) fun z => ?_
    obtain ⟨p, rfl, hn, rp, ho⟩ := f z
    obtain ⟨w1, w2, w3⟩ := ret_rel (X := fun a => a = p) (fun a z => by subst z; exact ⟨hn, ho.def⟩) R rp s k
    exact ⟨p, rfl, hn, w1, ho.keep (.less fun a z => z.elim .inl fun w => .inr (w3 a w)) rfl⟩
end
end Pu

namespace Pu
open PySem PySem.Spec PyProof.Rows L2 He Hk
/-! ### repr -/
section
variable {X : Cx} {pins : List (Addr × Obj)} {σ : L2.St} {H : Hp} {s : Shared} {B : Addr → Prop}
theorem sys_neR {o : Obj} (I : Inv X pins σ H s) (hk : X.K.lookup sysModules = some o) {a : Addr} {u : HO} (e : Rd H a u) : a ≠ sysModules := by
  rcases e with e | ⟨q, e⟩
  · exact sys_ne I hk e
  · exact sys_ne I hk e
theorem reads_keysP {K : PySem.W.Frag} {P : Program} {w : World} {h : Heap} : ∀ {es : List DictEntry} {vs : List (Key × Value)} {kvs : List (Key × V)} {ts : List (Key × T)}, Pairs (mixKind P w) es vs → KV kvs vs → AtK K B H kvs ts →
    ReadsAll h (es.map (·.key)) ((T.toDk ts).map (·.1)) [] ∧ Vals (kvs.map (·.2)) (es.map (·.val)) ∧ (T.toDk ts).map (·.2) = T.toDs (ts.map (·.2))
  | _, _, _, _, .nil, r, h => by
    cases r; cases h
    exact ⟨.nil, .nil, rfl⟩
  | _, _, _, _, .cons e1 e2 p, r, h => by
    cases r with
    | cons r1 r2 =>
      cases h with
      | cons h1 h2 =>
        obtain ⟨q1, q2, q3⟩ := reads_keysP p r2 h2
        obtain ⟨ek, ev⟩ := r1
        refine ⟨ReadsAll.cons (as := []) (bs := []) (reads_key ?_) q1, .cons ?_ q2, ?_⟩
        · exact (by rw [← ek] at e1; exact e1)
        · dsimp only
          rw [e2]
          exact ev
        · show _ :: _ = _ :: _
          rw [q3]
mutual
theorem At.reads {o : Obj} (I : Inv X pins σ H s) (hk : X.K.lookup sysModules = some o) : ∀ {x : V} {t : T} {u : Value}, At X.K B H x t → RelV x u → t.dat true = true → ∃ as, Reads s.heap u t.toD as ∧ sysModules ∉ as
  | _, _, _, .non, r, _ => by cases r; exact ⟨_, Reads.none, by simp⟩
  | _, _, _, .bl b, r, _ => by cases r; exact ⟨_, Reads.bool b, by simp⟩
  | _, _, _, .int i, r, _ => by obtain ⟨t, rfl⟩ := r; exact ⟨_, Reads.int i t, by simp⟩
  | _, _, _, .str z, r, _ => by obtain ⟨t, rfl⟩ := r; exact ⟨_, Reads.str z t, by simp⟩
  | _, _, _, .lst n e h, r, d => by
    cases r
    have ne := sys_ne I hk e
    obtain ⟨_, its, m, rv, ho⟩ := I.hok _ _ e
    obtain ⟨as, q, nm⟩ := AtL.reads I hk h rv d
    exact ⟨_, Reads.list ho rfl rfl (by simpa using q), by simp [ne.symm, nm]⟩
  | _, _, _, .tup n e h, r, d => by
    cases r
    obtain ⟨its, rv, ⟨ob, ho, hc, m, hd⟩, _⟩ := I.tuple (.inl e)
    obtain ⟨as, q, nm⟩ := AtL.reads I hk h rv d
    exact ⟨_, Reads.tuple ho hc hd (by simpa using q), nm⟩
  | _, _, _, .tupK e h, r, d => by
    cases r
    obtain ⟨its, rv, ⟨ob, ho, hc, m, hd⟩, _⟩ := I.tuple (.inr e)
    obtain ⟨as, q, nm⟩ := AtL.reads I hk h rv d
    exact ⟨_, Reads.tuple ho hc hd (by simpa using q), nm⟩
  | _, _, _, .dct n e h, r, d => by
    cases r
    have ne := sys_neR I hk e
    obtain ⟨_, _, vs, kv, ob, es, ep, ho, hc, hd, _, hp, _⟩ := e.ok I.hok
    obtain ⟨q1, q2, q3⟩ := reads_keysP (h := s.heap) hp kv h
    obtain ⟨bs, q, nm⟩ := AtK.reads I hk h q2 d
    exact ⟨_, Reads.dict ho hc.1 hd q1 (by rw [q3]; exact q), by simp [ne.symm, nm]⟩
  | _, _, _, .ty _, _, d => by cases d
  | _, _, _, .glo _, _, d => by cases d
  | _, _, _, .scr _ _, _, d => by cases d
  | _, _, _, .scrK _, _, d => by cases d
  | _, _, _, .ins _ _ _, _, d => by cases d
theorem AtL.reads {o : Obj} (I : Inv X pins σ H s) (hk : X.K.lookup sysModules = some o) : ∀ {xs : List V} {ts : List T} {us : List Value}, AtL X.K B H xs ts → Vals xs us → T.datL true ts = true → ∃ as, ReadsAll s.heap us (T.toDs ts) as ∧ sysModules ∉ as
  | _, _, _, .nil, r, _ => by cases r; exact ⟨_, ReadsAll.nil, by simp⟩
  | _, _, _, .cons h t, r, d => by
    obtain ⟨d1, d2⟩ := Bool.and_eq_true_iff.mp d
    cases r with
    | cons r1 r2 =>
      obtain ⟨as, q1, n1⟩ := At.reads I hk h r1 d1
      obtain ⟨bs, q2, n2⟩ := AtL.reads I hk t r2 d2
      exact ⟨_, ReadsAll.cons q1 q2, by simp [n1, n2]⟩
theorem AtK.reads {o : Obj} (I : Inv X pins σ H s) (hk : X.K.lookup sysModules = some o) : ∀ {xs : List (Key × V)} {ts : List (Key × T)} {us : List Value}, AtK X.K B H xs ts → Vals (xs.map (·.2)) us → T.datK true ts = true → ∃ as, ReadsAll s.heap us (T.toDs (ts.map (·.2))) as ∧ sysModules ∉ as
  | _, _, _, .nil, r, _ => by cases r; exact ⟨_, ReadsAll.nil, by simp⟩
  | _, _, _, .cons h t, r, d => by
    obtain ⟨d1, d2⟩ := Bool.and_eq_true_iff.mp d
    cases r with
    | cons r1 r2 =>
      obtain ⟨as, q1, n1⟩ := At.reads I hk h r1 d1
      obtain ⟨bs, q2, n2⟩ := AtK.reads I hk t r2 d2
      exact ⟨_, ReadsAll.cons q1 q2, by simp [n1, n2]⟩
end
def T.text (t : T) : Str := t.toD.shown
/-- it may be written by repr -/
structure Shows (t : T) : Prop where
  dat : t.dat true = true
  able : t.toD.showable = true
  deep : t.toD.depth ≤ 40
  size : t.text.length ≤ 16000000
def rReprP (K : PySem.W.Frag) : List V → Hp → VK → Prop := fun xs H Q => ∃ (x : V) (B : Addr → Prop) (t : T), xs = [x] ∧ Br K B H x t ∧ Shows t ∧ Q (.str t.text) H
theorem Br.reads {o : Obj} {x : V} {t : T} {u : Value} (I : Inv X pins σ H s) (hk : X.K.lookup sysModules = some o) (h : Br X.K B H x t) (r : RelV x u) (d : t.dat true = true) : ∃ as, Reads s.heap u t.toD as ∧ sysModules ∉ as := by
  rcases h with h | ⟨p, rfl, h⟩
  · exact h.reads I hk r d
  · have h' : At X.K (fun a => B a ∧ False) H (.ref p) t := h.at (fun z => z.2) fun a z => z.1
    exact h'.reads I hk r d
theorem call_reprP {k : Nat} {o : Obj} (g : RoomG k X.A) (hk : X.K.lookup sysModules = some o) : CallR X (.builtin "repr") (rReprP X.K) := by
  intro pins s σ H xs us Q I r h
  obtain ⟨x, B, t, rfl, ht, ok, q⟩ := h
  obtain ⟨u, rfl, ru⟩ := vals1 r
  have hz : t.toD.shown.length ≤ sizeLine := Nat.le_trans ok.size line16
  have hu := g.units
  have ref : ∀ a, u = .ref a → wpAny (model X.prog X.w) X.A (call (.builtin "repr") [u]) (EP X pins σ Q) X.xe s := by
    rintro a rfl
    obtain ⟨as, rd, nm⟩ := ht.reads I hk ru ok.dat
    exact repr_of_reads' rd ok.able (fun _ => nm) g.free (by have := ok.deep; omega) (fun _ _ e => e) (fun h' u tk kp => ⟨.str _, H, I.kept kp, ⟨_, rfl⟩, q⟩) hz
  have okd := ok.dat
  cases t with
  | non => cases ht.non; cases ru; exact PySem.P.repr_of_none ⟨.str _, H, I.tok _, ⟨_, rfl⟩, q⟩
  | bl b => cases ht.bl; cases ru; exact PySem.P.repr_of_bool ⟨.str _, H, I.tok _, ⟨_, rfl⟩, q⟩
  | int i =>
    cases ht.int
    obtain ⟨tk, rfl⟩ := ru
    exact PySem.P.repr_of_int (of_decide_eq_true ok.able) ⟨.str _, H, I.tok _, ⟨_, rfl⟩, q⟩
  | str z =>
    cases ht.str
    obtain ⟨tk, rfl⟩ := ru
    exact PySem.P.repr_of_str ⟨.str _, H, I.tok _, ⟨_, rfl⟩, q⟩ hz
  | lst ts => obtain ⟨a, _, rfl, _⟩ := ht.lst; exact ref a ru
  | tup ts => obtain ⟨a, _, rfl, _⟩ := ht.tup; exact ref a ru
  | dct ts => obtain ⟨a, _, rfl, _⟩ := ht.dct; exact ref a ru
  | _ => cases okd
end
def oRepr : OpT
  | [t], P => Shows t ∧ P (.str t.text)
  | _, _ => False
section
variable {K : PySem.W.Frag} {O B B' : Addr → Prop} {H H' H1 H2 : Hp} {env env' env1 env2 : Env} {σ : L2.St} {p : Addr} {v : V} {t : T} {fr : Bool}
theorem ok_repr : OpOk K (rReprP K) oRepr := by
  refine OpOk.uno (fun B H v t P Q hB hv hp hq => ?_) fun ts P h => by unfold oRepr at h; split at h <;> first | exact ⟨_, rfl⟩ | exact h.elim
  exact ⟨v, B, t, rfl, hv, hp.1, hq _ _ H hp.2 (Same.refl H) (.str _)⟩
end
/-! ### from a pure proof to a promise of the machine -/
section
variable {P : Program} {w : World} {K : PySem.W.Frag} {mg : Str → Option Value} {base : Heap}
theorem spP_len {fr : Bool} {ps : PSp} {n : Nat} (hn : ∀ sl P, ps sl P → sl.length = n) : ∀ vs H Q E, spP K fr ps vs H Q E → vs.length = n := by
  rintro vs H Q E ⟨O, sl, P, R, hps, _⟩
  have hl : vs.length = sl.length := by have := R.len; rwa [List.length_map] at this
  exact hl.trans (hn sl P hps)
theorem mkP {x : Str} {st : Stmt} {N ps : List Str} {k : Nat} {fr : Bool} {psp : PSp} {pb : PS} {ts : TS} (F : ∃ fd, FnP K x st (ga K x) fd) (g : mg x = some (.ref (ga K x))) (sc : FnScope N ps (defScope st))
    (hb : ∀ (kV doc pm : Value) (an : Option Addr) (cdv ct : Value) (us : List Value), us.length = ps.length → bindArgs (PySem.W.fnOf x x (defArgs st) (defBody st) (defScope st) .none kV doc pm an cdv ct) ⟨us, []⟩ = pure (ps.zip us))
    (hd : ∀ (cdv : Value) (A : Around) (outer : List PySem.Env) (s : Shared) (H : Hp) (E : XK), RoomG k (A.deeper (envOfC x (defScope st) s.heap.objs.size (ga K x) cdv)) → PSs (cxOf CX0 P w K mg base N x (defScope st) (ga K x) cdv A outer s H E).nox (defBody st) ts)
    (hr : RefS K fr ts pb) (hn : ∀ sl P, psp sl P → sl.length = ps.length) (hp : ∀ sl P, psp sl P → pb (pdOf fr sl P) (sl ++ nones (N.length - ps.length))) : FOG P w K mg base CX0 (k + 1) x ps (spP K fr psp) :=
  mkG F g sc (spP_len hn) hb fun cdv A outer s H vs Q E hrm h => ⟨ts, hd cdv A outer s H E hrm, body_ok hr hn hp h⟩
/-- a promise that is never asked -/
theorem fog_no {x : Str} {st : Stmt} {ps : List Str} {k : Nat} {sp : Sp} (F : ∃ fd, FnP K x st (ga K x) fd) (g : mg x = some (.ref (ga K x)))
    (hb : ∀ (kV doc pm : Value) (an : Option Addr) (cdv ct : Value) (us : List Value), us.length = ps.length → bindArgs (PySem.W.fnOf x x (defArgs st) (defBody st) (defScope st) .none kV doc pm an cdv ct) ⟨us, []⟩ = pure (ps.zip us))
    (hno : ∀ vs H Q E, ¬ sp vs H Q E) : FOG P w K mg base CX0 k x ps sp := by
  obtain ⟨fd, F⟩ := F
  exact ⟨g, F.kp, fd, F.bindsN hb, fun vs H Q E h => (hno vs H Q E h).elim, fun A outer s H args us vs Q E _ _ _ _ h => (hno vs H Q E h).elim⟩
end
end Pu

namespace Pu
open PySem PySem.Spec PyProof.Rows L2 He Hk
/-! ### walking a reading without the heap: one step each -/
section
variable {env env' env1 : Env} {P : T → Env → Prop} {d : PD} {t u : T} {i : Nat} {p : Addr}
theorem w_seq {a b : PS} (h : a { d with nx := b d } env) : pSeq a b d env := h
theorem w_if {c : PT} {a b : PS} (h : c env fun b' env1 => if b' = true then a d env1 else b d env1) : pIf c a b d env := h
theorem w_ret {a : PE} (h : a env fun t env1 => d.rt t env1) : pRet a d env := h
theorem w_next (h : d.nx env) : pNext d env := h
theorem w_drop {a : PE} (h : a env fun _ env1 => d.nx env1) : pDrop a d env := h
theorem w_asg {a : PE} {g : PG} (h : a env fun t env1 => g t env1 d.nx) : pAsg a g d env := h
def kOwn (i : Nat) (t : T) (env : Env) (Q : Env → Prop) : Prop := noRef env i ∧ ∀ p, Q (env.set i (.own p t))
theorem w_own {a : PE} (h : a env fun t env1 => kOwn i t env1 d.nx) : pOwn a i d env := h
theorem w_kOwn {Q : Env → Prop} (hr : noRef env i) (h : ∀ p env', env.set i (.own p t) = env' → Q env') : kOwn i t env Q := ⟨hr, fun p => h p _ rfl⟩
theorem w_name {Q : Env → Prop} (hr : noRef env i) (e : env.set i (.val t) = env') (h : Q env') : pgName i t env Q := ⟨hr, e ▸ h⟩
theorem w_c (h : P t env) : pC t env P := h
theorem w_var (e : env[i]? = some (.val t)) (h : P t env) : pVar i env P := by unfold pVar; rw [e]; exact h
theorem w_varO (e : env[i]? = some (.own p t)) (e2 : env.set i (.val t) = env') (h : P t env') : pVar i env P := by subst e2; unfold pVar; rw [e]; exact h
def kO (rp : OpT) (as : List Ar) (env : Env) (P : T → Env → Prop) : Prop := match tsOf env as with
  | some ts => rp ts fun t => P t env
  | none => False
theorem w_op {rp : OpT} {pa : PA} (h : pa env fun as env' => kO rp as env' P) : pOp rp pa env P := h
theorem w_kO {rp : OpT} {as : List Ar} {ts : List T} (e : tsOf env as = some ts) (h : rp ts fun t => P t env) : kO rp as env P := by unfold kO; rw [e]; exact h
theorem w_nil {R : List Ar → Env → Prop} (h : R [] env) : pNil env R := h
theorem w_cons {a : PE} {pa : PA} {R : List Ar → Env → Prop} (h : a env fun t env1 => pa env1 fun as env2 => R (.val t :: as) env2) : pCons a pa env R := h
theorem w_consV {pa : PA} {R : List Ar → Env → Prop} (e : has env i) (h : pa env fun as env2 => R (.var i :: as) env2) : pConsV i pa env R := ⟨e, h⟩
/-! tests -/
def kB (t : T) (env : Env) (Q : Bool → Env → Prop) : Prop := match t with | .bl b => Q b env | _ => False
theorem w_test {a : PE} {Q : Bool → Env → Prop} (h : a env fun t env' => kB t env' Q) : pTest a env Q := h
theorem w_kB {b : Bool} {Q : Bool → Env → Prop} (h : Q b env) : kB (.bl b) env Q := h
theorem w_and {c e : PT} {Q : Bool → Env → Prop} (h : c env fun b env1 => if b = true then e env1 Q else Q false env1) : pAnd c e env Q := h
theorem w_or {c e : PT} {Q : Bool → Env → Prop} (h : c env fun b env1 => if b = true then Q true env1 else e env1 Q) : pOr c e env Q := h
theorem w_not {c : PT} {Q : Bool → Env → Prop} (h : c env fun b env1 => Q (!b) env1) : pNot c env Q := h
theorem w_yes {Q : Bool → Env → Prop} (h : Q true env) : pYes env Q := h
theorem w_andV {a b : PE} (h : a env fun t env1 => kB t env1 fun c env2 => if c = true then b env2 P else P (.bl false) env2) : pAndV a b env P := h
theorem w_orV {a b : PE} (h : a env fun t env1 => kB t env1 fun c env2 => if c = true then P (.bl true) env2 else b env2 P) : pOrV a b env P := h
theorem w_notV {a : PE} (h : a env fun t env1 => kB t env1 fun c env2 => P (.bl (!c)) env2) : pNotV a env P := h
theorem w_ifE {c : PT} {a b : PE} (h : c env fun k env1 => if k = true then a env1 P else b env1 P) : pIfE c a b env P := h
theorem w_chain {rp rp' : OpT} {a b c : PE} (h : a env fun t env1 => b env1 fun u env2 => rp [t, u] fun z => kB z env2 fun k env2 => if k = true then c env2 fun w env3 => rp' [u, w] fun y => P y env3 else P (.bl false) env2) : pChain rp rp' a b c env P := h
/-! displays, slices -/
def kV2 (f : List T → T) (as : List Ar) (env : Env) (P : T → Env → Prop) : Prop := match ArV as with
  | some ts => ts.length ≤ 1000000 ∧ P (f ts) env
  | none => False
theorem w_lst {pa : PA} (h : pa env fun as env' => kV2 .lst as env' P) : pLst pa env P := h
theorem w_tup {pa : PA} (h : pa env fun as env' => kV2 .tup as env' P) : pTup pa env P := h
theorem w_kV2 {f : List T → T} {as : List Ar} {ts : List T} (e : ArV as = some ts) (hz : ts.length ≤ 1000000) (h : P (f ts) env) : kV2 f as env P := by unfold kV2; rw [e]; exact ⟨hz, h⟩
theorem w_dnew (h : P (.dct []) env) : pDNew env P := h
def kDs (l : List (T × T)) (env : Env) (P : T → Env → Prop) : Prop := match keyed l with
  | some kvs => kvs.length ≤ 15 ∧ P (.dct (mergeT [] kvs)) env
  | none => False
theorem w_disp {ps : List (PE × PE)} (h : pPairs ps env fun l env' => kDs l env' P) : pDisp ps env P := h
theorem w_pnil {R : List (T × T) → Env → Prop} (h : R [] env) : pPairs [] env R := h
theorem w_pcons {a b : PE} {r : List (PE × PE)} {R : List (T × T) → Env → Prop} (h : a env fun t env1 => b env1 fun u env2 => pPairs r env2 fun l env3 => R ((t, u) :: l) env3) : pPairs ((a, b) :: r) env R := h
theorem w_kDs {l : List (T × T)} {kvs : List (Key × T)} (e : keyed l = some kvs) (hz : kvs.length ≤ 15) (h : P (.dct (mergeT [] kvs)) env) : kDs l env P := by unfold kDs; rw [e]; exact ⟨hz, h⟩
theorem w_sl {a : PE} {lo hi : PO} (h : a env fun t env1 => lo env1 fun l env2 => hi env2 fun u env3 => oSl t l u fun z => P z env3) : pSl a lo hi env P := h
theorem w_noPart {Q : Option Int → Env → Prop} (h : Q none env) : pNoPart env Q := h
def kI (t : T) (env : Env) (Q : Option Int → Env → Prop) : Prop := match t with | .int i => Q (some i) env | _ => False
theorem w_part {a : PE} {Q : Option Int → Env → Prop} (h : a env fun t env' => kI t env' Q) : pPart a env Q := h
theorem w_kI {i : Int} {Q : Option Int → Env → Prop} (h : Q (some i) env) : kI (.int i) env Q := h
def kSl (o : Option T) (l u : Option Int) (P : T → Prop) : Prop := match o with | some t => oSl t l u P | none => False
theorem w_slV {lo hi : PO} (hs : has env i) (h : lo env fun l env2 => hi env2 fun u env3 => kSl (slotT env3[i]?) l u fun z => P z env3) : pSlV i lo hi env P := ⟨hs, h⟩
theorem w_kSl {o : Option T} {l u : Option Int} {R : T → Prop} (e : o = some t) (h : oSl t l u R) : kSl o l u R := by subst e; exact h
theorem v_slS {z : Str} {l u : Option Int} {R : T → Prop} (hz : z.length ≤ 16000000) (h : R (.str (cutS z l u))) : oSl (.str z) l u R := ⟨hz, h⟩
theorem v_slL {xs : List T} {l u : Option Int} {R : T → Prop} (h : R (.lst (cutT xs l u))) : oSl (.lst xs) l u R := h
theorem v_slT {xs : List T} {l u : Option Int} {R : T → Prop} (h : R (.tup (cutT xs l u))) : oSl (.tup xs) l u R := h
/-! stores -/
def kSetL (i : Nat) (t k : T) (env1 : Env) (P : Env → Prop) : Prop := match ownT env1[i]? with
  | some (_, .lst ts) => (match k with | .int k => (match ixN ts.length k with | some j => P (reown env1 i (.lst (ts.set j t))) | none => False) | _ => False)
  | _ => False
theorem w_setL {pi : PE} {Q : Env → Prop} (hs : has env i) (h : pi env fun k env1 => kSetL i t k env1 Q) : pgSetL i pi t env Q := ⟨hs, h⟩
theorem w_kSetL {ts : List T} {k : Int} {j : Nat} {Q : Env → Prop} (e : ownT env[i]? = some (p, .lst ts)) (ej : ixN ts.length k = some j) (ee : reown env i (.lst (ts.set j t)) = env') (h : Q env') : kSetL i t (.int k) env Q := by
  subst ee; unfold kSetL; rw [e]; dsimp only; rw [ej]; exact h
def kSetD (i : Nat) (t k : T) (env1 : Env) (P : Env → Prop) : Prop := match ownT env1[i]? with
  | some (_, .dct ts) => ts.length ≤ 1000000 ∧ (match keyT k with | some k => P (reown env1 i (.dct (putT ts k t))) | none => False)
  | _ => False
theorem w_setD {pi : PE} {Q : Env → Prop} (hs : has env i) (h : pi env fun k env1 => kSetD i t k env1 Q) : pgSetD i pi t env Q := ⟨hs, h⟩
theorem w_kSetD {ts : List (Key × T)} {k : T} {k' : Key} {Q : Env → Prop} (e : ownT env[i]? = some (p, .dct ts)) (hz : ts.length ≤ 1000000) (ek : keyT k = some k') (ee : reown env i (.dct (putT ts k' t)) = env') (h : Q env') : kSetD i t k env Q := by
  subst ee; unfold kSetD; rw [e]; dsimp only; rw [ek]; exact ⟨hz, h⟩
def kApp (i : Nat) (t : T) (env1 : Env) (P : Env → Prop) : Prop := match ownT env1[i]? with
  | some (_, .lst ts) => ts.length < 1000000 ∧ P (reown env1 i (.lst (ts ++ [t])))
  | _ => False
theorem w_append {pe : PE} {ts : List T} (hs : ownT env[i]? = some (p, .lst ts)) (h : pe env fun t env1 => kApp i t env1 d.nx) : pAppend i pe d env := ⟨⟨p, ts, hs⟩, h⟩
theorem w_kApp {ts : List T} {Q : Env → Prop} (e : ownT env[i]? = some (p, .lst ts)) (hz : ts.length < 1000000) (ee : reown env i (.lst (ts ++ [t])) = env') (h : Q env') : kApp i t env Q := by
  subst ee; unfold kApp; rw [e]; exact ⟨hz, h⟩
/-! calls -/
def kC (ps : PSp) (as : List Ar) (env : Env) (P : T → Env → Prop) : Prop := match slotsOf env as with
  | some sl => ndA as = true ∧ ps sl fun t sl' => P t (backE env as sl')
  | none => False
def kBk (as : List Ar) (env : Env) (sl : List Slot) (Q : Env → Prop) : Prop := Q (backE env as sl)
theorem w_call {ps : PSp} {pa : PA} (h : pa env fun as env' => kC ps as env' P) : pCall ps pa env P := h
theorem w_kC {ps : PSp} {as : List Ar} {sl : List Slot} (e : slotsOf env as = some sl) (n : ndA as = true) (h : ps sl fun t sl' => kBk as env sl' fun env' => P t env') : kC ps as env P := by unfold kC; rw [e]; exact ⟨n, h⟩
theorem w_kBk {as : List Ar} {sl : List Slot} {Q : Env → Prop} (e : backE env as sl = env') (h : Q env') : kBk as env sl Q := by subst e; exact h
/-! methods of texts -/
def kM (rp : OpT) (pa : PA) (t : T) (env : Env) (P : T → Env → Prop) : Prop := match t with
  | .str z => pa env fun as env2 => (match tsOf env2 as with | some ts => rp (.str z :: ts) fun u => P u env2 | none => False)
  | _ => False
theorem w_m {rp : OpT} {a : PE} {pa : PA} (h : a env fun t env1 => kM rp pa t env1 P) : pM rp a pa env P := h
def kMO (rp : OpT) (z : Str) (as : List Ar) (env : Env) (P : T → Env → Prop) : Prop := match tsOf env as with | some ts => rp (.str z :: ts) fun u => P u env | none => False
theorem w_kM {rp : OpT} {pa : PA} {z : Str} (h : pa env fun as env2 => kMO rp z as env2 P) : kM rp pa (.str z) env P := h
theorem w_kMO {rp : OpT} {z : Str} {as : List Ar} {ts : List T} (e : tsOf env as = some ts) (h : rp (.str z :: ts) fun u => P u env) : kMO rp z as env P := by unfold kMO; rw [e]; exact h
/-! what is walked -/
section
variable {R : List T → Env → Prop}
def kL (t : T) (env : Env) (R : List T → Env → Prop) : Prop := match t with | .lst ts => R ts env | _ => False
theorem w_piList {a : PE} (h : a env fun t env' => kL t env' R) : piList a env R := h
theorem w_kL {ts : List T} (h : R ts env) : kL (.lst ts) env R := h
def kTu (t : T) (env : Env) (R : List T → Env → Prop) : Prop := match t with | .tup ts => R ts env | _ => False
theorem w_piTup {a : PE} (h : a env fun t env' => kTu t env' R) : piTup a env R := h
theorem w_kTu {ts : List T} (h : R ts env) : kTu (.tup ts) env R := h
def chT (z : Str) : List T := z.cps.toList.map fun c => .str ⟨#[c]⟩
def kSt (t : T) (env : Env) (R : List T → Env → Prop) : Prop := match t with | .str z => R (chT z) env | _ => False
theorem w_piStr {a : PE} (h : a env fun t env' => kSt t env' R) : piStr a env R := h
theorem w_kSt {z : Str} (h : R (chT z) env) : kSt (.str z) env R := h
def kR1 (t : T) (env : Env) (R : List T → Env → Prop) : Prop := match t with | .int j => (-4611686018427387904 ≤ j ∧ j < 4611686018427387904) ∧ R (rngT 0 j.toNat) env | _ => False
theorem w_piRng1 {a : PE} (h : a env fun t env' => kR1 t env' R) : piRng1 a env R := h
theorem w_kR1 {j : Int} (h1 : -4611686018427387904 ≤ j ∧ j < 4611686018427387904) (h : R (rngT 0 j.toNat) env) : kR1 (.int j) env R := ⟨h1, h⟩
def kR2 (t u : T) (env : Env) (R : List T → Env → Prop) : Prop := match t, u with | .int i, .int j => (-4611686018427387904 ≤ i ∧ i < 4611686018427387904 ∧ -4611686018427387904 ≤ j ∧ j < 4611686018427387904) ∧ R (rngT i (j - i).toNat) env | _, _ => False
theorem w_piRng2 {a b : PE} (h : a env fun t env1 => b env1 fun u env2 => kR2 t u env2 R) : piRng2 a b env R := h
theorem w_kR2 {i j : Int} (h1 : -4611686018427387904 ≤ i ∧ i < 4611686018427387904 ∧ -4611686018427387904 ≤ j ∧ j < 4611686018427387904) (h : R (rngT i (j - i).toNat) env) : kR2 (.int i) (.int j) env R := ⟨h1, h⟩
def kDw (w : DW) (t : T) (env : Env) (R : List T → Env → Prop) : Prop := match t with | .dct kvs => R (w.of kvs) env | _ => False
theorem w_piD {w : DW} {a : PE} (h : a env fun t env' => kDw w t env' R) : piD w a env R := h
theorem w_kD {w : DW} {kvs : List (Key × T)} (h : R (w.of kvs) env) : kDw w (.dct kvs) env R := h
end
theorem w_for {pi : PIt} {pg : PG} {pb : PS} (h : pi env fun items env1 => pForGo pg pb d items env1) : pFor pi pg pb d env := h
def LcK (pg : PG) (tt : PT) (te : PE) (vs : List Nat) (items : List T) (env : Env) (P : T → Env → Prop) : Prop := items.length ≤ 1000000 ∧ pLcGo pg tt te vs P items [] (wipeE env vs)
theorem w_lc {pi : PIt} {pg : PG} {tt : PT} {te : PE} {vs : List Nat} (h : pi env fun items env1 => LcK pg tt te vs items env1 P) : pLc pi pg tt te vs env P := h
/-- a for by what holds between its turns -/
theorem for_inv {pg : PG} {pb : PS} {items : List T} (Inv : Nat → Env → Prop) (h0 : Inv 0 env) (hd : ∀ env, Inv items.length env → d.nx env)
    (hs : ∀ (i : Nat) (x : T) (env : Env) (N : Env → Prop), items[i]? = some x → Inv i env → (∀ env', Inv (i + 1) env' → N env') → pg x env fun env1 => pb { d with nx := N, ct := N, bk := d.nx } env1) : pForGo pg pb d items env := by
  have key : ∀ (k i : Nat) (env : Env), items.length = i + k → Inv i env → pForGo pg pb d (items.drop i) env := by
    intro k
    induction k with
    | zero =>
      intro i env hl hi
      have e : i = items.length := by omega
      subst e
      rw [List.drop_length]
      exact hd env hi
    | succ k ih =>
      intro i env hl hi
      have hlt : i < items.length := by omega
      rw [List.drop_eq_getElem_cons hlt]
      exact hs i _ env _ (List.getElem?_eq_getElem hlt) hi fun env' h' => ih (i + 1) env' (by omega) h'
  have := key items.length 0 env (by omega) h0
  rwa [List.drop_zero] at this
/-- a comprehension by what holds between its turns -/
theorem lc_inv {pg : PG} {tt : PT} {te : PE} {vs : List Nat} {items : List T} {env0 : Env} (e0 : wipeE env vs = env0) (hz : items.length ≤ 1000000) (Inv : Nat → List T → Env → Prop) (h0 : Inv 0 [] env0) (hd : ∀ acc env, Inv items.length acc env → P (.lst acc) env)
    (hs : ∀ (i : Nat) (x : T) (acc : List T) (env : Env) (N : List T → Env → Prop), items[i]? = some x → Inv i acc env → (∀ acc' env', Inv (i + 1) acc' env' → N acc' env') → pg x env fun env1 => tt env1 fun b env2 => if b = true then te env2 fun y env3 => N (acc ++ [y]) (wipeE env3 vs) else N acc (wipeE env2 vs)) : LcK pg tt te vs items env P := by
  subst e0
  refine ⟨hz, ?_⟩
  have key : ∀ (k i : Nat) (acc : List T) (env : Env), items.length = i + k → Inv i acc env → pLcGo pg tt te vs P (items.drop i) acc env := by
    intro k
    induction k with
    | zero =>
      intro i acc env hl hi
      have e : i = items.length := by omega
      subst e
      rw [List.drop_length]
      exact hd acc env hi
    | succ k ih =>
      intro i acc env hl hi
      have hlt : i < items.length := by omega
      rw [List.drop_eq_getElem_cons hlt]
      exact hs i _ acc env (fun acc' env' => pLcGo pg tt te vs P (items.drop (i + 1)) acc' env') (List.getElem?_eq_getElem hlt) hi fun acc' env' h' => ih (i + 1) acc' env' (by omega) h'
  have := key items.length 0 [] _ (by omega) h0
  rwa [List.drop_zero] at this
/-- a comprehension whose tests and items are told by functions; nothing is changed -/
theorem lc_fun {tt : PT} {te : PE} {vs : List Nat} {items : List T} {env0 : Env} {j : Nat} (e0 : wipeE env vs = env0) (hz : items.length ≤ 1000000) (p : T → Bool) (f : T → T) (hn : noRef env0 j) (hw : ∀ x, wipeE (env0.set j (.val x)) vs = env0)
    (ht : ∀ x, x ∈ items → ∀ Q : Bool → Env → Prop, Q (p x) (env0.set j (.val x)) → tt (env0.set j (.val x)) Q) (he : ∀ x, x ∈ items → p x = true → ∀ Q : T → Env → Prop, Q (f x) (env0.set j (.val x)) → te (env0.set j (.val x)) Q)
    (hd : P (.lst ((items.filter p).map f)) env0) : LcK (pgName j) tt te vs items env P := by
  refine lc_inv e0 hz (fun i acc env => env = env0 ∧ acc = ((items.take i).filter p).map f) ⟨rfl, rfl⟩ (fun acc env h => ?_) fun i x acc env N hx h hN => ?_
  · obtain ⟨rfl, rfl⟩ := h
    rw [List.take_length]; exact hd
  · obtain ⟨rfl, rfl⟩ := h
    have hm : x ∈ items := List.mem_of_getElem? hx
    have tk : items.take (i + 1) = items.take i ++ [x] := by rw [List.take_add_one, hx]; rfl
    refine ⟨hn, ht x hm _ ?_⟩
    cases hp : p x with
    | true =>
      rw [if_pos rfl]
      refine he x hm hp _ ?_
      rw [hw]
      refine hN _ _ ⟨rfl, ?_⟩
      rw [tk, List.filter_append, List.map_append]
      simp [hp]
    | false =>
      rw [if_neg Bool.false_ne_true, hw]
      refine hN _ _ ⟨rfl, ?_⟩
      rw [tk, List.filter_append, List.map_append]
      simp [hp]
/-- .. whose items are of a sort; the rest of the slots keeps W -/
theorem lc_all {te : PE} {vs : List Nat} {items : List T} {env0 : Env} {j : Nat} (e0 : wipeE env vs = env0) (hz : items.length ≤ 1000000) (W : Nat → Env → Prop) (S : T → Prop) (h0 : W 0 env0)
    (hs : ∀ (i : Nat) (x : T) (env : Env) (N : T → Env → Prop), i < items.length → items[i]? = some x → W i env → (∀ y env', S y → W (i + 1) (wipeE env' vs) → N y env') → pgName j x env fun env1 => te env1 N)
    (hd : ∀ (ys : List T) (env : Env), ys.length = items.length → (∀ y, y ∈ ys → S y) → W items.length env → P (.lst ys) env) : LcK (pgName j) pYes te vs items env P := by
  refine lc_inv e0 hz (fun i acc env => W i env ∧ acc.length = i ∧ ∀ y, y ∈ acc → S y) ⟨h0, rfl, fun y hy => nomatch hy⟩ (fun acc env h => hd acc env h.2.1 h.2.2 h.1) fun i x acc env N hx h hN => ?_
  obtain ⟨hw, hl, hall⟩ := h
  refine hs i x env _ (List.getElem?_eq_some_iff.mp hx).1 hx hw fun y env' hy hw' => ?_
  refine hN _ _ ⟨hw', by simp [hl], fun z hz => ?_⟩
  rcases List.mem_append.mp hz with h | h
  · exact hall z h
  · rw [show z = y from by simpa using h]; exact hy
theorem w_rt {fr : Bool} {sl : List Slot} {Q : T → List Slot → Prop} (k : keepsRef sl env) (h : Q t (retSl sl env)) : (pdOf fr sl Q).rt t env := ⟨k, h⟩
theorem iteB {b : Bool} {A B : Prop} (h1 : b = true → A) (h2 : b = false → B) : if b = true then A else B := by
  cases b with
  | true => rw [if_pos rfl]; exact h1 rfl
  | false => rw [if_neg Bool.false_ne_true]; exact h2 rfl
theorem iteT' {A B : Prop} (h : A) : if true = true then A else B := by rw [if_pos rfl]; exact h
theorem iteF' {A B : Prop} (h : B) : if false = true then A else B := by rw [if_neg Bool.false_ne_true]; exact h
theorem iteTrue {b : Bool} {A B : Prop} (hb : b = true) (h : A) : if b = true then A else B := by subst hb; rw [if_pos rfl]; exact h
theorem iteFalse {b : Bool} {A B : Prop} (hb : b = false) (h : B) : if b = true then A else B := by subst hb; rw [if_neg Bool.false_ne_true]; exact h
/-! operations -/
section
variable {R : T → Prop} {i j : Int} {a b : Str} {xs ys : List T} {k l : Bool}
theorem v_addI (h : R (.int (i + j))) : oAdd [.int i, .int j] R := h
theorem v_addS (hz : a.length + b.length ≤ 16000000) (h : R (.str (a ++ b))) : oAdd [.str a, .str b] R := ⟨hz, h⟩
theorem v_addL (hz : xs.length + ys.length ≤ 1000000) (h : R (.lst (xs ++ ys))) : oAdd [.lst xs, .lst ys] R := ⟨hz, h⟩
theorem v_addT (hz : xs.length + ys.length ≤ 1000000) (h : R (.tup (xs ++ ys))) : oAdd [.tup xs, .tup ys] R := ⟨hz, h⟩
theorem v_sub (h : R (.int (i - j))) : oSub [.int i, .int j] R := h
theorem v_mulI (c : CMulW i j) (h : R (.int (i * j))) : oMul [.int i, .int j] R := ⟨c, h⟩
theorem v_mulS (c : -1000 < j ∧ j < 1000 ∧ a.length ≤ 1000) (h : R (.str (Txt.mul a j))) : oMul [.str a, .int j] R := ⟨c, h⟩
theorem v_mulL (c : 0 ≤ j ∧ j < 1000 ∧ xs.length ≤ 1000) (h : R (.lst (List.replicate j.toNat xs).flatten)) : oMul [.lst xs, .int j] R := ⟨c, h⟩
theorem v_div (c : 0 < j ∧ j < 18446744073709551616) (h : R (.int (i / j))) : oDiv [.int i, .int j] R := ⟨c, h⟩
theorem v_mod (c : 0 < j) (h : R (.int (i % j))) : oMod [.int i, .int j] R := ⟨c, h⟩
theorem v_pow (c : 0 ≤ j ∧ j ≤ 1000000 ∧ -18446744073709551616 < i ∧ i < 18446744073709551616) (h : R (.int (i ^ j.toNat))) : oPow [.int i, .int j] R := ⟨c, h⟩
theorem v_powE {k : Int} (c : 0 ≤ j ∧ j ≤ 1000000 ∧ -18446744073709551616 < i ∧ i < 18446744073709551616) (e : i ^ j.toNat = k) (h : R (.int k)) : oPow [.int i, .int j] R := by subst e; exact ⟨c, h⟩
theorem v_neg (h : R (.int (-i))) : oNeg [.int i] R := h
theorem v_le (h : R (.bl (decide (i ≤ j)))) : oLe [.int i, .int j] R := h
theorem v_gt (h : R (.bl (decide (j < i)))) : oGt [.int i, .int j] R := h
theorem v_ge (h : R (.bl (decide (j ≤ i)))) : oGe [.int i, .int j] R := h
theorem v_lt (h : R (.bl (decide (i < j)))) : oLt [.int i, .int j] R := h
theorem v_ltS (h : R (.bl (decide (a.cps.toList < b.cps.toList)))) : oLt [.str a, .str b] R := h
theorem v_eq {t u : T} {r : Bool} (e : eqS t u = some r) (h : R (.bl r)) : oEq [t, u] R := by unfold oEq; dsimp only; rw [e]; exact h
theorem v_ne {t u : T} {r : Bool} (e : eqS t u = some r) (h : R (.bl (!r))) : oNe [t, u] R := by unfold oNe; dsimp only; rw [e]; exact h
theorem v_inS {c : Nat} (h : R (.bl (decide (c ∈ b.cps.toList)))) : oIn [.str ⟨#[c]⟩, .str b] R := ⟨rfl, by rw [Bool.false_xor]; exact h⟩
theorem v_notInS {c : Nat} (h : R (.bl (!decide (c ∈ b.cps.toList)))) : oNotIn [.str ⟨#[c]⟩, .str b] R := ⟨rfl, by rw [Bool.true_xor]; exact h⟩
theorem v_inL {t : T} (f : flatT t = true) (g : xs.all flatT = true) (h : R (.bl (inT t xs))) : oIn [t, .lst xs] R := ⟨⟨f, g⟩, by rw [Bool.false_xor]; exact h⟩
theorem v_notInL {t : T} (f : flatT t = true) (g : xs.all flatT = true) (h : R (.bl (!inT t xs))) : oNotIn [t, .lst xs] R := ⟨⟨f, g⟩, by rw [Bool.true_xor]; exact h⟩
theorem v_inT {t : T} (f : flatT t = true) (g : xs.all flatT = true) (h : R (.bl (inT t xs))) : oIn [t, .tup xs] R := ⟨⟨f, g⟩, by rw [Bool.false_xor]; exact h⟩
theorem v_ixL {t : T} (e : atI xs i = some t) (h : R t) : oIx [.lst xs, .int i] R := by show (match atI xs i with | some t => R t | none => False); rw [e]; exact h
theorem v_ixT {t : T} (e : atI xs i = some t) (h : R t) : oIx [.tup xs, .int i] R := by show (match atI xs i with | some t => R t | none => False); rw [e]; exact h
theorem v_ixLo (h0 : 0 ≤ i) (h1 : i < (xs.length : Int)) (h : ∀ t, t ∈ xs → xs[i.toNat]? = some t → R t) : oIx [.lst xs, .int i] R := by
  obtain ⟨t, e, e2, m⟩ := atI_in h0 h1
  exact v_ixL e (h t m e2)
theorem v_ixTo (h0 : 0 ≤ i) (h1 : i < (xs.length : Int)) (h : ∀ t, t ∈ xs → xs[i.toNat]? = some t → R t) : oIx [.tup xs, .int i] R := by
  obtain ⟨t, e, e2, m⟩ := atI_in h0 h1
  exact v_ixT e (h t m e2)
theorem v_ixScr {ns : List Int} (h0 : 0 ≤ i) (h1 : i < (ns.length : Int)) (h : ∀ n, R (.int n)) : oIx [.scr ns, .int i] R := by
  obtain ⟨t, e, e2, m⟩ := atI_in h0 h1
  show (match atI ns i with | some n => R (.int n) | none => False)
  rw [e]; exact h t
theorem v_ixS (hz : a.length ≤ 16000000) (h0 : 0 ≤ i) (h1 : i < (a.length : Int)) (h : ∀ c, c ∈ a.cps.toList → a.cps.toList[i.toNat]? = some c → R (.str ⟨#[c]⟩)) : oIx [.str a, .int i] R := by
  obtain ⟨t, e, e2, m⟩ := atI_in (xs := a.cps.toList) h0 (by rw [Array.length_toList]; exact h1)
  refine ⟨hz, ?_⟩
  rw [e]; exact h t m e2
theorem v_dget {kvs : List (Key × T)} {k : T} {k' : Key} {t : T} (e : keyT k = some k') (e2 : valT kvs k' = some t) (h : R t) : oDGet [.dct kvs, k] R := by
  show (match keyT k with | some k => (match valT kvs k with | some t => R t | none => False) | none => False)
  rw [e]; dsimp only; rw [e2]; exact h
theorem v_lenL (h : R (.int xs.length)) : oLen [.lst xs] R := h
theorem v_lenT (h : R (.int xs.length)) : oLen [.tup xs] R := h
theorem v_lenD {kvs : List (Key × T)} (h : R (.int kvs.length)) : oLen [.dct kvs] R := h
theorem v_lenC {ns : List Int} (h : R (.int ns.length)) : oLen [.scr ns] R := h
theorem v_lenS (hz : a.length ≤ 16000000) (h : R (.int a.length)) : oLen [.str a] R := ⟨hz, h⟩
theorem v_isi {t : T} {n a : String} {b : Bool} (e : tyN t = some a) (e2 : kitB a n = some b) (h : R (.bl b)) : oIsi [t, .ty n] R := by
  show (match tyN t with | some a => (match kitB a n with | some b => R (.bl b) | none => False) | none => False)
  rw [e]; dsimp only; rw [e2]; exact h
theorem v_all {bs : List Bool} (h : R (.bl (bs.all id))) : oAll [.lst (bs.map T.bl)] R := by
  show (match boolsT (bs.map T.bl) with | some bs => R (.bl (bs.all id)) | none => False)
  rw [bools_map]; exact h
theorem v_max {ns : List Int} (hn : ns ≠ []) (h : R (.int (maxL ns))) : oMax [.lst (ns.map T.int)] R := by
  show (match intsT (ns.map T.int) with | some ns => ns ≠ [] ∧ R (.int (maxL ns)) | none => False)
  rw [ints_map]; exact ⟨hn, h⟩
theorem v_max2 (h : R (.int (if j > i then j else i))) : oMax2 [.int i, .int j] R := h
theorem v_min2 (h : R (.int (if j < i then j else i))) : oMin2 [.int i, .int j] R := h
theorem v_listD {kvs : List (Key × T)} (h : R (.lst (kvs.map fun kv => kT kv.1))) : oListD [.dct kvs] R := h
theorem v_listV {kvs : List (Key × T)} (h : R (.lst (kvs.map (·.2)))) : oListV [.dct kvs] R := h
theorem v_dictD {kvs : List (Key × T)} (h : R (.dct kvs)) : oDict [.dct kvs] R := h
theorem v_dictP {ts : List T} {kvs : List (Key × T)} (e : pairs ts = some kvs) (h : R (.dct (mergeT [] kvs))) : oDict [.lst ts] R := by
  show (match pairs ts with | some kvs => R (.dct (mergeT [] kvs)) | none => False)
  rw [e]; exact h
theorem v_tupleL (h : R (.tup xs)) : oTuple [.lst xs] R := h
theorem v_tupleT (h : R (.tup xs)) : oTuple [.tup xs] R := h
theorem v_int1 (h : R (.int (if k then 1 else 0))) : oInt1 [.bl k] R := h
theorem v_int2 (h : R (.int i)) : oInt1 [.int i] R := h
theorem v_isN {t : T} (h : R (.bl (isNon t))) : oIsN [t, .non] R := h
theorem v_notN {t : T} (h : R (.bl (!isNon t))) : oNotN [t, .non] R := h
theorem v_join {ss : List Str} (hz : (ss.map (·.length)).sum + ss.length * a.length ≤ 16777216) (h : R (.str (Txt.join a ss))) : oJoin [.str a, .lst (ss.map T.str)] R := by
  show (match strsT (ss.map T.str) with | some ys => (ys.map (·.length)).sum + ys.length * a.length ≤ 16777216 ∧ R (.str (Txt.join a ys)) | none => False)
  rw [strs_map]; exact ⟨hz, h⟩
theorem v_repr {t : T} (s : Shows t) (h : R (.str t.text)) : oRepr [t] R := ⟨s, h⟩
end
end
end Pu

/-! list(enumerate(xs)) -/
namespace Hk
open PySem PySem.Calls PySem.Spec PyProof.Rows PyProof.V L2 PySem.W
abbrev EnumIt (h : Heap) (e it : Addr) (c : Int) (item : Value) (a : Addr) (f : Bool) : Prop :=
  h.get? e = some { cls := .type "enumerate", dict := none, data := .fields #[rawInt a, .bool f, .ref it, rawInt c, .none, item], slots := #[] }
section
variable {prog : Program} {w : World} {A : Around} {E : Value → Shared → Prop} {s : Shared}
theorem en_next_out {e it l a : Addr} {f : Bool} {oa : Obj} {i : Nat} {items : Array Value} {x old : Value} {Q : Value → Shared → Prop}
    (he : EnumIt s.heap e it i old a f) (ha : s.heap.get? a = some oa) (hae : a ≠ e) (hai : a ≠ it) (hit : s.heap.IsListIter it l i) (hl : s.heap.IsList l items) (hx : items[i]? = some x) (hne : e ≠ it)
    (hQ : ∀ h', EnumIt h' e it ((i : Int) + 1) old a true → h'.IsListIter it l (i + 1) →
      h'.get? s.heap.objs.size = some { cls := .type "tuple", data := .seq #[.int i s.toks, x] } → h'.objs.size = s.heap.objs.size + 1 →
      (∀ b o, b ≠ e → b ≠ it → s.heap.get? b = some o → h'.get? b = some o) → Q (.ref s.heap.objs.size) { s with heap := h', toks := s.toks + 1 }) :
    wpAny (model prog w) A (Builtin.«enumerate.__next__» ⟨[.ref e], []⟩) (fun fin s' => ∃ v, fin = .done (.ret v) ∧ Q v s') E s := by
  obtain ⟨hp, g, d, tk, os⟩ := s
  show wpAny _ _ (field (.ref e) 2 >>= _) _ _ _
  refine wpAny_bind (wpAny_field he rfl (x := .ref it) rfl ?_)
  refine wpAny_bind (wpAny_nextOf_list_item hit hl hx fun h₁ hit₁ hs₁ => ?_)
  replace hs₁ : Heap.SameBut it hp h₁ := hs₁
  have he₁ : EnumIt h₁ e it i old a f := (hs₁.2 e hne).trans he
  show wpAny _ _ (field (.ref e) 3 >>= _) _ _ ⟨h₁, g, d, tk, os⟩
  refine wpAny_bind (wpAny_field he₁ rfl (x := rawInt i) rfl ?_)
  show wpAny _ _ (field (.ref e) 4 >>= _) _ _ ⟨h₁, g, d, tk, os⟩
  refine wpAny_bind (wpAny_field he₁ rfl (x := .none) rfl ?_)
  show wpAny _ _ (mkInt i >>= _) _ _ ⟨h₁, g, d, tk, os⟩
  refine wpAny_bind (wpAny_mkInt ?_)
  show wpAny _ _ (setField (.ref e) 3 (rawInt ((i : Int) + 1)) >>= _) _ _ ⟨h₁, g, d, tk + 1, os⟩
  refine wpAny_bind (wpAny_setField_rec he₁ (by simp) fun h₂ he₂ hs₂ => ?_)
  replace hs₂ : Heap.SameBut e h₁ h₂ := hs₂
  replace he₂ : EnumIt h₂ e it ((i : Int) + 1) old a f := he₂
  show wpAny _ _ (setField (.ref e) 4 .none >>= _) _ _ ⟨h₂, g, d, tk + 1, os⟩
  refine wpAny_bind (wpAny_setField_rec he₂ (by simp) fun h₃ he₃ hs₃ => ?_)
  replace hs₃ : Heap.SameBut e h₂ h₃ := hs₃
  replace he₃ : EnumIt h₃ e it ((i : Int) + 1) old a f := he₃
  show wpAny _ _ (newTuple [.int i tk, x] >>= _) _ _ ⟨h₃, g, d, tk + 1, os⟩
  refine wpAny_bind (wpAny_newTuple ?_)
  have he₄ : EnumIt (h₃.push { cls := .type "tuple", data := .seq #[.int i tk, x] }) e it ((i : Int) + 1) old a f := Heap.get?_push_of_some _ he₃
  generalize hh₄ : h₃.push { cls := .type "tuple", data := .seq #[.int i tk, x] } = h₄ at he₄
  have hsz : h₃.objs.size = hp.objs.size := by rw [hs₃.1, hs₂.1, hs₁.1]
  have hel : e < hp.objs.size := Heap.lt_size he
  have ht₄ : h₄.get? hp.objs.size = some { cls := .type "tuple", data := .seq #[.int i tk, x] } := by rw [← hh₄, ← hsz]; exact Heap.get?_push_size _ rfl
  have hz₄ : h₄.objs.size = hp.objs.size + 1 := by rw [← hh₄, Heap.size_push, hsz]
  have hk₄ : ∀ b o, b ≠ e → b ≠ it → hp.get? b = some o → h₄.get? b = some o := fun b o hbe hbi hb => by
    rw [← hh₄]; exact Heap.get?_push_of_some _ (hs₃.extBut b o hbe (hs₂.extBut b o hbe (hs₁.extBut b o hbi hb)))
  have hit₄ : h₄.IsListIter it l (i + 1) := by
    rw [← hh₄]; obtain ⟨o, ho, r⟩ := (hit₁.extBut hs₂.extBut (Ne.symm hne)).extBut hs₃.extBut (Ne.symm hne); exact ⟨o, Heap.get?_push_of_some _ ho, r⟩
  show wpAny _ _ (Builtin.SmallTypes.ownedTupleIsFree (.ref e) >>= _) _ _ ⟨h₄, g, d, tk + 1, os⟩
  rw [hsz]
  clear hh₄ he₃ hs₃ he₂ hs₂ he₁ hs₁ hit₁ hsz h₃ h₂ h₁
  have ha₄ : h₄.get? a = some oa := hk₄ a oa hae hai ha
  refine wpAny_bind ?_
  unfold Builtin.SmallTypes.ownedTupleIsFree
  refine wpAny_bind (wpAny_field he₄ rfl (x := rawInt a) rfl ?_)
  show wpAny _ _ (loadIfAlive ((a : Int).toNat) >>= _) _ _ _
  rw [Int.toNat_natCast]
  refine wpAny_bind (kdx_alive ha₄ ?_)
  simp only [Option.isNone_some, Bool.false_eq_true, if_false]
  refine wpAny_bind (wpAny_field he₄ rfl (x := .bool f) rfl ?_)
  have fin : ∀ h₅ : Heap, EnumIt h₅ e it ((i : Int) + 1) old a true → Heap.SameBut e h₄ h₅ → Q (.ref hp.objs.size) ⟨h₅, g, d, tk + 1, os⟩ := fun h₅ he₅ hs₅ =>
    hQ h₅ he₅ (hit₄.extBut hs₅.extBut (Ne.symm hne)) (hs₅.extBut _ _ (Nat.ne_of_gt hel) ht₄) (by show h₅.objs.size = hp.objs.size + 1; rw [hs₅.1, hz₄]) fun b o hbe hbi hb => hs₅.extBut b o hbe (hk₄ b o hbe hbi hb)
  cases f with
  | true =>
    rw [if_neg (show ¬ ((Value.bool true != Value.bool true) = true) from Bool.false_ne_true)]
    refine wpAny_pure ?_
    simp only [Bool.false_eq_true, if_false]
    exact wpAny_pure ⟨_, rfl, fin h₄ he₄ (Heap.SameBut.refl _ _)⟩
  | false =>
    rw [if_pos (show (Value.bool false != Value.bool true) = true from rfl)]
    refine wpAny_bind (wpAny_setField_rec he₄ (by simp) fun h₅ he₅ hs₅ => ?_)
    replace hs₅ : Heap.SameBut e h₄ h₅ := hs₅
    replace he₅ : EnumIt h₅ e it ((i : Int) + 1) old a true := he₅
    refine wpAny_pure ?_
    simp only [Bool.false_eq_true, if_false]
    exact wpAny_pure ⟨_, rfl, fin h₅ he₅ hs₅⟩
theorem en_pyNext_out {e it l a : Addr} {f : Bool} {oa : Obj} {i : Nat} {items : Array Value} {x old : Value} {Q : Option Value → Shared → Prop}
    (he : EnumIt s.heap e it i old a f) (ha : s.heap.get? a = some oa) (hae : a ≠ e) (hai : a ≠ it) (hit : s.heap.IsListIter it l i) (hl : s.heap.IsList l items) (hx : items[i]? = some x) (hne : e ≠ it)
    (hQ : ∀ h', EnumIt h' e it ((i : Int) + 1) old a true → h'.IsListIter it l (i + 1) →
      h'.get? s.heap.objs.size = some { cls := .type "tuple", data := .seq #[.int i s.toks, x] } → h'.objs.size = s.heap.objs.size + 1 →
      (∀ b o, b ≠ e → b ≠ it → s.heap.get? b = some o → h'.get? b = some o) → Q (some (.ref s.heap.objs.size)) { s with heap := h', toks := s.toks + 1 }) :
    wpAny (model prog w) A (pyNext (.ref e)) Q E s := by
  have hT : s.TypeIs (.ref e) "enumerate" := ⟨_, he, rfl⟩
  unfold pyNext
  exact wpAny_bind (wpAny_attempt (wpAny_callSpecial?_slot (name := Str.ofString "__next__") hT F.slot_enumerate_next
    (wpAny_call_entry F.slot_enumerate_next hT F.entry_enumerate_next
      (en_next_out he ha hae hai hit hl hx hne fun h' a b c d k => wpAny_pure (hQ h' a b c d k)) (F.args_enumerate_next_1 _))))
theorem en_pyNext_end {e it l a : Addr} {f : Bool} {i : Nat} {items : Array Value} {old : Value} {Q : Option Value → Shared → Prop} (hh : A.handled = none)
    (he : EnumIt s.heap e it i old a f) (hit : s.heap.IsListIter it l i) (hl : s.heap.IsList l items) (hx : items[i]? = none)
    (hQ : ∀ h', Heap.ExtBut it s.heap h' → Q none { s with heap := h' }) : wpAny (model prog w) A (pyNext (.ref e)) Q E s := by
  have hT : s.TypeIs (.ref e) "enumerate" := ⟨_, he, rfl⟩
  unfold pyNext
  refine wpAny_bind (wpAny_attempt (wpAny_callSpecial?_slot (name := Str.ofString "__next__") hT F.slot_enumerate_next
    (wpAny_call_entry F.slot_enumerate_next hT F.entry_enumerate_next ?_ (F.args_enumerate_next_1 _))))
  show wpAny _ _ (field (.ref e) 2 >>= _) _ _ _
  refine wpAny_bind (wpAny_field he rfl (x := .ref it) rfl ?_)
  refine wpAny_bind (wpAny_nextOf_list_end hh hit hl hx fun h' x he' hx' => ?_)
  obtain ⟨o, ho, hc⟩ := hx'
  refine wpAny_bind (wpAny_isInstance (T := "StopIteration") (b := true) ⟨o, ho, hc⟩ isSubtype_stop ?_)
  exact wpAny_pure (hQ _ he')
def EnSt (h : Heap) (e it S : Addr) (i : Nat) : Prop :=
  (i = 0 ∧ IsEnum h e it ((0 : Nat) : Int) .none) ∨ ∃ old a f oa, EnumIt h e it ((i : Nat) : Int) old a f ∧ h.get? a = some oa ∧ a ≠ e ∧ a ≠ it ∧ a ≠ S
theorem EnSt.keep {h h' : Heap} {e it S : Addr} {i : Nat} (x : EnSt h e it S i) (hk : ∀ b o, b ≠ S → h.get? b = some o → h'.get? b = some o) (hS : e ≠ S) : EnSt h' e it S i := by
  rcases x with ⟨z, he⟩ | ⟨old, a, f, oa, he, ha, h1, h2, h3⟩
  · exact .inl ⟨z, hk _ _ hS he⟩
  · exact .inr ⟨old, a, f, oa, hk _ _ hS he, hk _ _ h3 ha, h1, h2, h3⟩
theorem en_item {e it l S : Addr} {i : Nat} {items : Array Value} {x : Value} {Q : Option Value → Shared → Prop} (hst : EnSt s.heap e it S i) (hS : S < s.heap.objs.size)
    (hit : s.heap.IsListIter it l i) (hl : s.heap.IsList l items) (hx : items[i]? = some x) (hne : e ≠ it)
    (hQ : ∀ h', EnSt h' e it S (i + 1) → h'.IsListIter it l (i + 1) →
      h'.get? s.heap.objs.size = some { cls := .type "tuple", data := .seq #[.int i s.toks, x] } → h'.objs.size = s.heap.objs.size + 1 →
      (∀ b o, b ≠ e → b ≠ it → s.heap.get? b = some o → h'.get? b = some o) → Q (some (.ref s.heap.objs.size)) { s with heap := h', toks := s.toks + 1 }) :
    wpAny (model prog w) A (pyNext (.ref e)) Q E s := by
  have e1 : ((i + 1 : Nat) : Int) = (i : Int) + 1 := by omega
  obtain ⟨_, ho, _⟩ := id hit
  have hil := Heap.lt_size ho
  rcases hst with ⟨rfl, he⟩ | ⟨old, a, f, oa, he, ha, h1, h2, h3⟩
  · exact wpAny_pyNext_enum_item he hit hl hx hne fun h' a b c d k => hQ h' (.inr ⟨x, _, false, _, by rw [e1]; exact a, c, Nat.ne_of_gt (Heap.lt_size he), Nat.ne_of_gt hil, Nat.ne_of_gt hS⟩) b c d k
  · exact en_pyNext_out he ha h1 h2 hit hl hx hne fun h' p b c d k => hQ h' (.inr ⟨old, a, true, oa, by rw [e1]; exact p, k _ _ h1 h2 ha, h1, h2, h3⟩) b c d k
theorem en_done {e it l S : Addr} {i : Nat} {items : Array Value} {Q : Option Value → Shared → Prop} (hh : A.handled = none) (hst : EnSt s.heap e it S i)
    (hit : s.heap.IsListIter it l i) (hl : s.heap.IsList l items) (hx : items[i]? = none)
    (hQ : ∀ h', Heap.ExtBut it s.heap h' → Q none { s with heap := h' }) : wpAny (model prog w) A (pyNext (.ref e)) Q E s := by
  rcases hst with ⟨rfl, he⟩ | ⟨old, a, f, oa, he, ha, h1, h2, h3⟩
  · exact wpAny_pyNext_enum_end hh he hit hl hx hQ
  · exact en_pyNext_end hh he hit hl hx hQ
end
/-- the items with their places, as a dict's items -/
def ixd {α : Type} : Nat → List α → List (Key × α)
  | _, [] => []
  | i, x :: xs => (Sum.inl (i : Int), x) :: ixd (i + 1) xs
theorem ixd_length {α : Type} : ∀ (i : Nat) (xs : List α), (ixd i xs).length = xs.length
  | _, [] => rfl
  | i, x :: xs => by show (ixd (i + 1) xs).length + 1 = xs.length + 1; rw [ixd_length (i + 1) xs]
theorem ixd_get {α : Type} : ∀ (i : Nat) (xs : List α) (j : Nat), (ixd i xs)[j]? = (xs[j]?).map fun x => (Sum.inl ((i + j : Nat) : Int), x)
  | _, [], j => by simp [ixd]
  | i, x :: xs, 0 => by simp [ixd]
  | i, x :: xs, j + 1 => by
    show (ixd (i + 1) xs)[j]? = _
    rw [ixd_get (i + 1) xs j]
    simp [Nat.add_assoc, Nat.add_comm 1 j]
theorem ixd_kv : ∀ (i : Nat) {xs : List V} {vs : List Value}, Vals xs vs → KV (ixd i xs) (ixd i vs)
  | _, _, _, .nil => .nil
  | i, _, _, .cons h r => .cons ⟨rfl, h⟩ (ixd_kv (i + 1) r)
section
variable {prog : Program} {w : World} {A : Around} {E : Value → Shared → Prop} {s : Shared} {R : Result → Shared → Prop} {items : Array Value}
theorem en_loop {S e it l : Addr} (hh : A.handled = none) (heS : e < S) (hiS : it < S) (hne : e ≠ it) (hlS : l ≠ S) (hle : l ≠ e) (hli : l ≠ it) (hn : items.size ≤ sizeLine) (res : Value) {h₁ : Heap}
    (hR : ∀ h' tk acc c as, (∀ b o, b ≠ S → b ≠ e → b ≠ it → h₁.get? b = some o → h'.get? b = some o) → h'.get? S = some { cls := .type "list", dict := none, data := .seq acc c, slots := #[] } → as.length = items.size → KdxG (mixKind prog w) (ixd 0 items.toList) S h' as →
      acc.toList = as.map Value.ref → R (.ok (.ret res)) { s with heap := h', toks := tk }) :
    ∀ (k i : Nat) (h : Heap) (tk c : Nat) (acc : Array Value) (as : List Addr), items.size - i = k → i ≤ items.size → EnSt h e it S i → h.IsListIter it l i → h.IsList l items → (∀ b o, b ≠ S → b ≠ e → b ≠ it → h₁.get? b = some o → h.get? b = some o) →
      h.get? S = some { cls := .type "list", dict := none, data := .seq acc c, slots := #[] } → acc.toList = as.map Value.ref → as.length = i → KdxG (mixKind prog w) (ixd 0 items.toList) S h as →
      codeAny (model prog w) A (.builtin "list.extend.loop" ⟨[.ref S, .ref e, res], []⟩) R { s with heap := h, toks := tk } := by
  have hne' : S ≠ e := Nat.ne_of_gt heS
  have hSi : S ≠ it := Nat.ne_of_gt hiS
  intro k
  induction k with
  | zero =>
    intro i h tk c acc as hk hi hst hit hl hkeep hS hacc hal hG
    have hin : i = items.size := by omega
    refine codeAny_builtin PySem.F.entry_extend_loop ?_
    rw [Around.under_plainId PySem.F.plain_extend_loop _]
    show wpAny _ A.in1 (pyNext (.ref e) >>= _) _ _ _
    refine wpAny_bind (en_done (s := { s with heap := h, toks := tk }) (A := A.in1) hh hst hit hl (Array.getElem?_eq_none (by omega)) fun h' he => ?_)
    refine wpAny_pure (hR h' tk acc c as (fun b o h1 h2 h3 e => he b o h3 (hkeep b o h1 h2 h3 e)) (he S _ hSi hS) (by omega) ⟨hG.rise, hG.above, fun j a hj => ?_⟩ hacc)
    obtain ⟨key, kk, x, e1, e2, e3⟩ := hG.pairs j a hj
    exact ⟨key, kk, x, e1, e2, he a _ (Nat.ne_of_gt (Nat.lt_trans hiS (hG.above a (List.mem_of_getElem? hj)))) e3⟩
  | succ k ih =>
    intro i h tk c acc as hk hi hst hit hl hkeep hS hacc hal hG
    have hlt : i < items.size := by omega
    have hx : items[i]? = some items[i] := Array.getElem?_eq_getElem hlt
    have hsz : acc.size = i := by rw [← Array.length_toList, hacc, List.length_map, hal]
    refine codeAny_builtin PySem.F.entry_extend_loop ?_
    rw [Around.under_plainId PySem.F.plain_extend_loop _]
    show wpAny _ A.in1 (pyNext (.ref e) >>= _) _ _ _
    refine wpAny_bind (en_item (s := { s with heap := h, toks := tk }) (S := S) hst (Heap.lt_size hS) hit hl hx hne fun h' hst' hit' ht hz hkp => ?_)
    dsimp only at ht hz hkp ⊢
    have hS' := hkp S _ hne' hSi hS
    have up : ∀ b o, b ≠ S → h'.get? b = some o → (h'.update S (Obj.mapSeq (·.push (Value.ref h.objs.size)))).get? b = some o := fun b o hb e => (Heap.get?_update_other _ _ (Ne.symm hb)).trans e
    have hSl : S < h.objs.size := Heap.lt_size hS
    show wpAny _ A.in1 (updateSeq S (·.push (Value.ref h.objs.size)) >>= _) _ _ _
    refine wpAny_bind ?_
    refine wpAny_updateSeq hS' rfl (wpAny_pure ⟨plainId_quiet PySem.F.plain_extend_loop _, ih (i + 1) _ _ _ (acc.push (Value.ref h.objs.size)) (as ++ [h.objs.size]) (by omega) hlt (hst'.keep up (Ne.symm hne')) (hit'.at fun o e => up it o (Ne.symm hSi) e) (hl.at fun o e => up l o hlS (hkp l o hle hli e))
      (fun b o h1 h2 h3 e => up b o h1 (hkp b o h2 h3 (hkeep b o h1 h2 h3 e))) (Heap.get?_update_self _ hS' rfl) (by rw [Array.toList_push, hacc, List.map_append]; rfl) (by rw [List.length_append, hal]; rfl) ⟨?_, ?_, ?_⟩⟩) (by rw [hsz]; omega) (by show (acc.push (Value.ref h.objs.size)).size ≤ sizeLine + 1; rw [Array.size_push, hsz]; omega)
    · refine List.pairwise_append.mpr ⟨hG.rise, List.pairwise_singleton _ _, fun a ha b hb => ?_⟩
      rw [List.mem_singleton.mp hb]
      exact hG.there ha
    · intro a ha
      rcases List.mem_append.mp ha with ha | ha
      · exact hG.above a ha
      · rw [List.mem_singleton.mp ha]; exact hSl
    · intro j b hj
      rcases Nat.lt_trichotomy j as.length with h1 | h1 | h1
      · rw [List.getElem?_append_left h1] at hj
        obtain ⟨key', k', x', e1, e2, e3⟩ := hG.pairs j b hj
        have hb := hG.above b (List.mem_of_getElem? hj)
        have hbe : e < b := Nat.lt_trans heS hb
        have hbi : it < b := Nat.lt_trans hiS hb
        exact ⟨key', k', x', e1, e2, up b _ (Nat.ne_of_gt hb) (hkp b _ (Nat.ne_of_gt hbe) (Nat.ne_of_gt hbi) e3)⟩
      · subst h1
        have hb : h.objs.size = b := by simpa using hj
        subst hb
        refine ⟨.int (i : Nat) tk, Sum.inl ((i : Nat) : Int), items[i], ?_, ?_, up _ _ (Nat.ne_of_gt hSl) ht⟩
        · rw [hal, ixd_get, Nat.zero_add, Array.getElem?_toList, hx]; rfl
        · show keyIs (Sum.inl ((i : Nat) : Int)) (.int (i : Nat) tk) = true
          simp [keyIs, Value.isInt]
      · have hnone : (as ++ [h.objs.size])[j]? = none := List.getElem?_eq_none (by rw [List.length_append, List.length_singleton]; omega)
        rw [hnone] at hj; cases hj
end
theorem en_len : typeLookup (.type "enumerate") "__len__" = pure none := by rw [typeLookup_type, builtinLookup_eq_fast]; kernel_rfl
theorem en_lh : typeLookup (.type "enumerate") "__length_hint__" = pure none := by rw [typeLookup_type, builtinLookup_eq_fast]; kernel_rfl
section
variable {prog : Program} {w : World} {A : Around} {E : Value → Shared → Prop} {s : Shared} {e it l : Addr} {items : Array Value}
theorem en_hint (hT : s.TypeIs (.ref e) "enumerate") {Q : Bool → Shared → Prop} (h : Q true s) : wpAny (model prog w) A (Builtin.List.listLengthHint (.ref e)) Q E s := by
  unfold Builtin.List.listLengthHint
  refine wpAny_bind (wpAny_specialOf hT en_len ?_)
  show wpAny _ A (specialOf (Value.ref e) (Str.ofString "__length_hint__") >>= _) _ _ _
  refine wpAny_bind (wpAny_specialOf hT en_lh ?_)
  exact wpAny_pure h
theorem en_extend {R : Result → Shared → Prop} (hh : A.handled = none) (he : IsEnum s.heap e it ((0 : Nat) : Int) .none) (hit : s.heap.IsListIter it l 0) (hl : s.heap.IsList l items) (hne : e ≠ it) (hle : l ≠ e) (hli : l ≠ it) (S : Addr) (heS : e < S) (hiS : it < S) (hlS : l < S) (res : Value) (c₀ : Nat) (hS : s.heap.get? S = some { cls := .type "list", data := .seq #[] c₀ })
    (hR : ∀ h' tk acc c as, (∀ b o, b ≠ S → b ≠ e → b ≠ it → s.heap.get? b = some o → h'.get? b = some o) → h'.get? S = some { cls := .type "list", dict := none, data := .seq acc c, slots := #[] } → as.length = items.size → KdxG (mixKind prog w) (ixd 0 items.toList) S h' as →
      acc.toList = as.map Value.ref → R (.ok (.ret res)) { s with heap := h', toks := tk }) (hn : items.size ≤ sizeLine) :
    wpAny (model prog w) A.in1 (Builtin.List.listExtendWith (.ref S) (.ref e) res)
      (fun fin s' => match fin with | .done f => R (.ok f) s' | .again c' => c'.quiet = true ∧ codeAny (model prog w) A c' R s') (fun e s' => R (.error e) s') s := by
  have hT : s.TypeIs (.ref e) "enumerate" := ⟨_, he, rfl⟩
  unfold Builtin.List.listExtendWith
  refine wpAny_bind (wpAny_typeOf (T := "enumerate") hT ?_)
  have h1 : Builtin.List.listSameRef (.ref S) (.ref e) = false := by simp [Builtin.List.listSameRef, Nat.ne_of_gt heS]
  have h2 : (Value.type "enumerate" == Value.type "list") = false := by decide
  have h3 : (Value.type "enumerate" == Value.type "tuple") = false := by decide
  simp only [h1, h2, h3, Bool.or_false, Bool.false_eq_true, if_false]
  refine wpAny_bind (wpAny_pyIter_enum he ?_)
  refine wpAny_bind (wpAny_holding (en_hint hT ?_))
  refine wpAny_ite_split (fun _ => ?_) (fun z => absurd rfl z)
  refine wpAny_bind (wpAny_rule ?_)
  refine wpAny_bind ?_
  show wpAny _ _ (updateSeq S (·.push .none) >>= fun _ => updateSeq S (·.pop)) _ _ _
  refine wpAny_bind (wpAny_updateSeq hS rfl ?_)
  have hS₂ := Heap.get?_update_self (Obj.mapSeq (·.push Value.none)) hS rfl
  refine wpAny_updateSeq (hz := by seq_fits) hS₂ rfl ?_
  have hS₃ := Heap.get?_update_self (Obj.mapSeq (·.pop)) hS₂ rfl
  have hk : ∀ b o, b ≠ S → s.heap.get? b = some o → ((s.heap.update S (Obj.mapSeq (·.push Value.none))).update S (Obj.mapSeq (·.pop))).get? b = some o := fun b o hb e =>
    (Heap.get?_update_other _ _ (Ne.symm hb)).trans ((Heap.get?_update_other _ _ (Ne.symm hb)).trans e)
  refine wpAny_pure ⟨plainId_quiet PySem.F.plain_extend_loop _, ?_⟩
  refine en_loop (s := s) (h₁ := s.heap) (items := items) (l := l) (it := it) hh heS hiS hne (Nat.ne_of_lt hlS) hle hli hn res hR items.size 0 _ s.toks _ #[] [] (Nat.sub_zero _) (Nat.zero_le _) (.inl ⟨rfl, hk _ _ (Nat.ne_of_lt heS) he⟩) (hit.at fun o x => hk it o (Nat.ne_of_lt hiS) x) (hl.at fun o x => hk l o (Nat.ne_of_lt hlS) x)
    (fun b o hb _ _ e => hk b o hb e) hS₃ rfl rfl ⟨List.Pairwise.nil, (fun _ ha => nomatch ha), (fun j a hj => by simp at hj)⟩
theorem en_init {R : Result → Shared → Prop} (hh : A.handled = none) (he : IsEnum s.heap e it ((0 : Nat) : Int) .none) (hit : s.heap.IsListIter it l 0) (hl : s.heap.IsList l items) (hne : e ≠ it) (hle : l ≠ e) (hli : l ≠ it) (S : Addr) (heS : e < S) (hiS : it < S) (hlS : l < S) (hS : s.heap.get? S = some { cls := .type "list", data := .seq #[] })
    (hR : ∀ h' tk acc c as, (∀ b o, b ≠ S → b ≠ e → b ≠ it → s.heap.get? b = some o → h'.get? b = some o) → h'.get? S = some { cls := .type "list", dict := none, data := .seq acc c, slots := #[] } → as.length = items.size → KdxG (mixKind prog w) (ixd 0 items.toList) S h' as →
      acc.toList = as.map Value.ref → R (.ok (.ret .none)) { s with heap := h', toks := tk }) (hn : items.size ≤ sizeLine) :
    wpAny (model prog w) A.in1 (Builtin.«list.__init__» ⟨[.ref S, .ref e], []⟩)
      (fun fin s' => match fin with | .done f => R (.ok f) s' | .again c' => c'.quiet = true ∧ codeAny (model prog w) A c' R s') (fun e s' => R (.error e) s') s := by
  show wpAny _ _ (do let old ← Builtin.List.listItems (.ref S); Builtin.List.listUpdate (.ref S) (fun _ => #[]); letGo old.toList.reverse; Builtin.List.listExtendWith (.ref S) (.ref e) .none) _ _ s
  refine wpAny_bind ?_
  unfold Builtin.List.listItems
  refine wpAny_bind (wpAny_seqItems hS rfl (wpAny_pure ?_))
  show wpAny _ _ (updateSeq S (fun _ => #[]) >>= fun _ => letGo (#[] : Array Value).toList.reverse >>= fun _ => Builtin.List.listExtendWith (.ref S) (.ref e) .none) _ _ s
  refine wpAny_bind (wpAny_updateSeq hS rfl ?_)
  have hS₂ := Heap.get?_update_self (Obj.mapSeq (fun _ => (#[] : Array Value))) hS rfl
  have oth : ∀ b o, b ≠ S → s.heap.get? b = some o → (s.heap.update S (Obj.mapSeq (fun _ => (#[] : Array Value)))).get? b = some o :=
    fun b o hb e => (Heap.get?_update_other _ _ (Ne.symm hb)).trans e
  refine wpAny_bind (wpAny_letGo ?_)
  refine en_extend (it := it) (l := l) (items := items) hh (oth _ _ (Nat.ne_of_lt heS) he) (hit.at fun o x => oth it o (Nat.ne_of_lt hiS) x) (hl.at fun o x => oth l o (Nat.ne_of_lt hlS) x) hne hle hli S heS hiS hlS .none _ hS₂ (fun h' tk acc c as hk hS' hlen hG hacc => ?_) hn
  exact hR h' tk acc c as (fun b o hb h2 h3 e => hk b o hb h2 h3 (oth b o hb e)) hS' hlen hG hacc
theorem en_call {Q : Value → Shared → Prop} (hh : A.handled = none) (he : IsEnum s.heap e it ((0 : Nat) : Int) .none) (hit : s.heap.IsListIter it l 0) (hl : s.heap.IsList l items) (hne : e ≠ it) (hle : l ≠ e) (hli : l ≠ it) (hn : items.size ≤ sizeLine)
    (hQ : ∀ h' tk acc c as, (∀ b o, b ≠ e → b ≠ it → s.heap.get? b = some o → h'.get? b = some o) → h'.get? s.heap.objs.size = some { cls := .type "list", dict := none, data := .seq acc c, slots := #[] } → as.length = items.size → KdxG (mixKind prog w) (ixd 0 items.toList) s.heap.objs.size h' as →
      acc.toList = as.map Value.ref → Q (.ref s.heap.objs.size) { s with heap := h', toks := tk }) :
    wpAny (model prog w) A (call (.type "list") [.ref e]) Q E s := by
  refine callType_codes (Q₁ := fun obj s₁ => obj = .ref s.heap.objs.size ∧ s₁ = { s with heap := s.heap.push { cls := .type "list", data := .seq #[] } }) PySem.F.called_list (PySem.F.typeCall_list_1 _) PySem.F.entry_list_init
    (code_list_new _ ⟨rfl, rfl⟩) fun obj s₁ h₁ => ?_
  obtain ⟨rfl, rfl⟩ := h₁
  have hS : (s.heap.push { cls := .type "list", data := .seq #[] }).get? s.heap.objs.size = some { cls := .type "list", data := .seq #[] } := Heap.get?_push_size _ rfl
  have hel : e < s.heap.objs.size := Heap.lt_size he
  have hil : it < s.heap.objs.size := by obtain ⟨_, ho, _⟩ := id hit; exact Heap.lt_size ho
  have hll : l < s.heap.objs.size := by obtain ⟨_, ho, _⟩ := id hl; exact Heap.lt_size ho
  refine ⟨⟨_, hS, rfl⟩, PySem.F.args_list_init_2 _ _, en_init (it := it) (l := l) (items := items) (A := A.in1) hh (Heap.get?_push_of_some _ he) (hit.at fun o x => Heap.get?_push_of_some _ x) (hl.at fun o x => Heap.get?_push_of_some _ x) hne hle hli _ hel hil hll hS (fun h' tk acc c as hk hS' hlen hG hacc => ?_) hn⟩
  exact ⟨rfl, hQ h' tk acc c as (fun b o h1 h2 e => hk b o (Nat.ne_of_lt (Heap.lt_size e)) h1 h2 (Heap.get?_push_of_some _ e)) hS' hlen hG hacc⟩
end
/-- a new list of new pairs: place and item -/
def rListEn (K : PySem.W.Frag) : V → Hp → VK → Prop := fun x H Q => ∃ (a : Addr) (xs : List V), x = .ref a ∧ SqL K H a xs ∧
  ∀ (H' : Hp) (p : Addr) (ts : List Addr), (∀ b o, H b = some o → H' b = some o) → H p = none → (∀ t ∈ ts, H t = none) → p ∉ ts → H' p = some (.lst (ts.map V.ref)) → Paired (fun (t : Addr) (q : Key × V) => H' t = some (.tup [kV q.1, q.2])) ts (ixd 0 xs) → Q (.ref p) H'
def tListEn (K : PySem.W.Frag) (te : TE) : TE := fun σ H Q => te σ H fun x H1 => rListEn K x H1 Q
section
variable {X : Cx} {e : Expr} {te : TE} {p p2 cpos pos : Pos}
theorem en_laid {pins : List (Addr × Obj)} {σ : L2.St} {H : Hp} {s : Shared} {h' : Heap} {tk : Nat} {kvs : List (Key × V)} {vs : List (Key × Value)} {acc : Array Value} {c : Nat} {as : List Addr} {S : Addr} (hSz : s.heap.objs.size ≤ S) (I : Inv X pins σ H s) (hz : kvs.length ≤ sizeLine) (kv : KV kvs vs)
    (hk : ∀ b o, s.heap.get? b = some o → h'.get? b = some o) (hS : h'.get? S = some { cls := .type "list", dict := none, data := .seq acc c, slots := #[] }) (hl : as.length = vs.length) (hG : PySem.W.KdxG (mixKind X.prog X.w) vs S h' as) (hacc : acc.toList = as.map Value.ref) :
    ∃ H' : Hp, (∀ b o, H b = some o → H' b = some o) ∧ H S = none ∧ (∀ t ∈ as, H t = none) ∧ S ∉ as ∧ H' S = some (.lst (as.map V.ref)) ∧ Paired (fun (t : Addr) (q : Key × V) => H' t = some (.tup [kV q.1, q.2])) as kvs ∧ Inv X pins σ H' { s with heap := h', toks := tk } := by
  have lk : kvs.length = vs.length := Paired.length kv
  have hSn : S ∉ as := fun z => Nat.lt_irrefl _ (hG.above _ z)
  have nd : as.Nodup := List.Pairwise.imp (fun {a b} (h : a < b) => Nat.ne_of_lt h) hG.rise
  have new : ∀ t ∈ as, H t = none := fun t ht => I.hok.fresh (Nat.le_trans hSz (Nat.le_of_lt (hG.above t ht)))
  have newS : H S = none := I.hok.fresh hSz
  have atP := LiI.putT_at as kvs (upd H S (.lst (as.map V.ref))) (by omega) nd
  have off : ∀ b, b ∉ as → b ≠ S → LiI.putT (upd H S (.lst (as.map V.ref))) as kvs b = H b := fun b h1 h2 => by rw [LiI.putT_off as kvs _ h1, upd_ne h2]
  have low : ∀ b o, s.heap.get? b = some o → b ∉ as ∧ b ≠ S := fun b o e => ⟨fun z => absurd (Heap.lt_size e) (Nat.not_lt.mpr (Nat.le_trans hSz (Nat.le_of_lt (hG.above b z)))), Nat.ne_of_lt (Nat.lt_of_lt_of_le (Heap.lt_size e) hSz)⟩
  have kp : ∀ b u, H b = some u → (LiI.putT (upd H S (.lst (as.map V.ref))) as kvs) b = some u := fun b u e => by
    rw [off b (fun z => by rw [new b z] at e; cases e) (fun z => by rw [z, newS] at e; cases e)]
    exact e
  have eS : LiI.putT (upd H S (.lst (as.map V.ref))) as kvs S = some (.lst (as.map V.ref)) := by rw [LiI.putT_off as kvs _ hSn, upd_same]
  refine ⟨LiI.putT (upd H S (.lst (as.map V.ref))) as kvs, kp, newS, new, hSn, eS, atP, ?_⟩
  refine I.call' (ch := []) rfl ⟨fun b o q _ _ _ => hk b o q, fun b o q _ _ _ => ⟨o.slots, hk b o q⟩, fun b o q n _ => ?_, fun b o q _ => ⟨o, hk b o q⟩, fun b xs q => kp b _ q, fun b o u q => kp b _ q, fun b ps q => ⟨#[], by rw [kp b _ q]; simp⟩⟩ (fun b u q => ?_) I.bare fun b z => by simp at z
  · obtain ⟨z1, z2⟩ := low b o q
    rw [off b z1 z2]
    exact n
  · by_cases hb : b ∈ as
    · obtain ⟨j, pk, e1, e2, e3⟩ := LiI.paired_ix atP hb
      rw [e3] at q
      cases q
      obtain ⟨key, k, x, f1, f2, f3⟩ := hG.pairs j b e1
      obtain ⟨qv, g1, g2, g3⟩ := LiI.paired_get kv e2
      rw [f1] at g1
      cases g1
      have rk : RelV (kV pk.1) key := by
        rw [g2]
        exact relV_key (show keyIs k key = true from f2)
      exact ⟨by show 2 ≤ sizeLine; decide, [key, x], .cons rk (.cons g3 .nil), ⟨_, f3, rfl, _, rfl⟩⟩
    · by_cases hb2 : b = S
      · rw [hb2] at q ⊢
        rw [eS] at q
        cases q
        refine ⟨by rw [List.length_map]; omega, acc.toList, c, by rw [hacc]; exact LiI.vals_refs as, ?_⟩
        rw [Array.toArray_toList]
        exact hS
      · rw [off b hb hb2] at q
        exact (I.hok b u q).stay (fun d v _ y => hk d v y) (fun d y => kp d _ y) fun d xs y => kp d _ y
/-- list(enumerate(e)) -/
theorem pe_listEn (hc : X.calm = true) (he : PE X e te) (hg : Gl X "list") (hm : X.mg "list" = none) (hv : bootBuiltins "list" = some (.type "list")) (hg2 : Gl X "enumerate") (hm2 : X.mg "enumerate" = none)
    (hs2 : starEach [e] X.env = (false, eval e X.env) :: starEach [] X.env := by rfl)
    (hs : starEach [.Call (.Name "enumerate" p2) [e] [] cpos] X.env = (false, eval (.Call (.Name "enumerate" p2) [e] [] cpos) X.env) :: starEach [] X.env := by rfl) :
    PE X (.Call (.Name "list" p) [.Call (.Name "enumerate" p2) [e] [] cpos] [] pos) (tListEn X.K te) := by
  refine ⟨fun pins s σ H Q I hq => ?_⟩
  refine wpAny_Call_Name_kw (ld_blt I hg hm hv (PyProof.Rows.callWith_type1 ?_ hs rfl))
  rw [hs]
  show wpAny _ _ (spliced ((false, eval (.Call (.Name "enumerate" p2) [e] [] cpos) X.env) :: backTo pos (starEach [] X.env))) _ _ s
  refine Calls.spliced_cons (wpAny_Call_Name_kw (ld_blt I hg2 hm2 boot_enumerate (PyProof.Rows.callWith_type1 ?_ hs2 rfl)))
  rw [hs2]
  show wpAny _ _ (spliced ((false, eval e X.env) :: backTo cpos (starEach [] X.env))) _ _ s
  refine Calls.spliced_cons (thn (he.run pins s σ H _ I hq) fun u s1 ⟨x, H1, I1, rx, a, xs, ex, hq1, q⟩ => ?_)
  subst ex
  obtain rfl : u = Value.ref a := rx
  obtain ⟨its, rv, pl, hz⟩ := I1.list hq1
  refine Calls.spliced_nil ?_
  refine call_enumerate_list pl.isList fun h' hen hit hsz hk => Calls.spliced_nil ?_
  have hal : a < s1.heap.objs.size := by obtain ⟨_, ho, _⟩ := pl.isList; exact Heap.lt_size ho
  have hL : h'.IsList a its.toArray := pl.isList.at fun o y => hk a o y
  have lx := rv.length
  refine en_call (s := { s1 with heap := h' }) (it := s1.heap.objs.size) (l := a) (items := its.toArray) (I1.ok.hd hc) hen hit hL (Nat.succ_ne_self _) (Nat.ne_of_lt (Nat.lt_succ_of_lt hal)) (Nat.ne_of_lt hal) (by simp; omega) fun h2 tk acc c as hk2 hS hlen hG hacc => ?_
  have lv : (ixd 0 its).length = its.length := ixd_length 0 its
  obtain ⟨H2, g1, g2, g3, g4, g5, g6, g7⟩ := en_laid (X := X) (tk := tk) (kvs := ixd 0 xs) (vs := ixd 0 its) (S := h'.objs.size) (by omega) I1 (by rw [ixd_length]; omega) (ixd_kv 0 rv)
    (fun b o e => hk2 b o (Nat.ne_of_lt (Nat.lt_succ_of_lt (Heap.lt_size e))) (Nat.ne_of_lt (Heap.lt_size e)) (hk b o e)) hS (by rw [lv, hlen]; simp) hG hacc
  exact ⟨.ref _, H2, g7, rfl, q H2 _ as g1 g2 g3 g4 g5 g6⟩
end
end Hk

/-! d[k] and xs[i] in one; k in d -/
namespace Hk
open PySem PySem.Spec PyProof.Rows L2 He
section
variable {X : Cx}
def rIxD : R2 := fun x y H Q => ∃ a v, x = .ref a ∧ DGet H a y (some v) ∧ Q v H
theorem ix_dict (hu : X.A.units + 64 < cLine) : IxR X rIxD := by
  intro value slice pins s σ H x y v u Q I rx ry h hs
  obtain ⟨a, z, rfl, g, q⟩ := h
  cases rx
  have hT := dict_typeIs I g
  unfold subscriptTail
  refine wpAny_bind ?_
  rw [getitemInPython_of_ne hT.not_modules]
  refine wpAny_bind (wpAny_specialOf hT PySem.F.slot_dict_getitem.lookup ?_)
  have fin : wpAny (model X.prog X.w) X.A (subscripted slice false (.ref a) u) (fun r s₃ => wpAny (model X.prog X.w) X.A (letTemporaryGo value (.ref a) r >>= fun _ => pure r) (EP X pins σ Q) X.xe s₃) X.xe s := by
    rw [hs]
    exact wpAny_operating (wpAny_mono (d_getItem (E := X.xe) (Q := EP X pins σ Q) (lt1 hu) I g ry fun w' s3 I3 rw' => ⟨z, H, I3, rw', q⟩) (fun r s₃ h₃ => wpAny_bind (wpAny_letTemporaryGo (wpAny_pure h₃))) fun _ _ x => x)
  first
    | exact wpAny_pure (wpAny_bind fin)
    | exact wpAny_bind (wpAny_pure (wpAny_bind fin))
    | exact wpAny_bind fin
def rIxA (K : PySem.W.Frag) : R2 := fun x y H Q => rIxU K x y H Q ∨ rIxD x y H Q
theorem ixAll (hu : X.A.units + 64 < cLine) : IxR X (rIxA X.K) := (ixAny hu).or (ix_dict hu)
def rInD : R2 := fun y x H Q => ∃ a o, x = .ref a ∧ DGet H a y o ∧ Q (.bl o.isSome) H
def rNotInD : R2 := fun y x H Q => ∃ a o, x = .ref a ∧ DGet H a y o ∧ Q (.bl (!o.isSome)) H
theorem op_inD (hu : X.A.units + 64 < cLine) : OpR X (compareOp .In) rInD := by
  intro pins s σ H x y v u Q I rx ry h
  obtain ⟨a, o, rfl, g, q⟩ := h
  cases ry
  exact d_in (lt1 hu) I g rx fun s3 I3 => ⟨.bl o.isSome, H, I3, rfl, q⟩
theorem op_notInD (hu : X.A.units + 64 < cLine) : OpR X (compareOp .NotIn) rNotInD := by
  intro pins s σ H x y v u Q I rx ry h
  obtain ⟨a, o, rfl, g, q⟩ := h
  cases ry
  exact d_notIn (lt1 hu) I g rx fun s3 I3 => ⟨.bl (!o.isSome), H, I3, rfl, q⟩
def rInA (K : PySem.W.Frag) : R2 := fun x y H Q => rInU K x y H Q ∨ rInD x y H Q
def rNotInA (K : PySem.W.Frag) : R2 := fun x y H Q => rNotInU K x y H Q ∨ rNotInD x y H Q
theorem oInA (hu : X.A.units + 64 < cLine) : OpR X (compareOp .In) (rInA X.K) := OpR.or (oIn hu) (op_inD hu)
theorem oNotInA (hu : X.A.units + 64 < cLine) : OpR X (compareOp .NotIn) (rNotInA X.K) := OpR.or (oNotIn hu) (op_notInD hu)
def rSortedD : List V → Hp → VK → Prop := fun xs H Q => ∃ (a : Addr) (kvs : List (Key × V)) (ks : List Str), xs = [.ref a] ∧ Rd H a (.dK kvs) ∧ kvs.map (·.1) = ks.map Sum.inr ∧ ks.length < 64 ∧
    ∀ ys p, ys.Perm ks → sortedS ys = true → H p = none → Q (.ref p) (upd H p (.lst (ys.map V.str)))
theorem cr_sortedD (hc : X.calm = true) : CallR X (.builtin "sorted") rSortedD := call_sortedD hc
end
end Hk

namespace Pu
open PySem PySem.Spec PyProof.Rows L2 He Hk
/-! ### texts in order -/
def leS (a b : Str) : Prop := a.cps.toList ≤ b.cps.toList
theorem leS_of {a b : Str} : ltCps b.cps.toList a.cps.toList = false ↔ leS a b := by
  rw [ltCps_eq, decide_eq_false_iff_not]
  exact List.not_lt
theorem leS_trans {a b c : Str} (h : leS a b) (g : leS b c) : leS a c := List.le_trans h g
theorem leS_anti {a b : Str} (h : leS a b) (g : leS b a) : a = b := by
  have e : a.cps.toList = b.cps.toList := List.le_antisymm h g
  obtain ⟨x⟩ := a
  obtain ⟨y⟩ := b
  exact congrArg Str.mk (Array.toList_inj.mp e)
theorem leS_total (a b : Str) : leS a b ∨ leS b a := List.le_total _ _
theorem rising_pw : ∀ (p : Str) (l : List Str), risingS p l = true → (∀ x ∈ l, leS p x) ∧ l.Pairwise leS
  | p, [], _ => ⟨(fun _ h => nomatch h), .nil⟩
  | p, x :: r, h => by
    have h' : (!ltCps x.cps.toList p.cps.toList) = true ∧ risingS x r = true := by simpa [risingS, Bool.and_eq_true] using h
    obtain ⟨h1, h2⟩ := rising_pw x r h'.2
    have hp : leS p x := leS_of.mp (by simpa using h'.1)
    refine ⟨fun y hy => ?_, .cons h1 h2⟩
    rcases List.mem_cons.mp hy with rfl | hy
    · exact hp
    · exact leS_trans hp (h1 y hy)
theorem sorted_pw : ∀ (l : List Str), sortedS l = true → l.Pairwise leS
  | [], _ => .nil
  | x :: r, h => let ⟨h1, h2⟩ := rising_pw x r h; .cons h1 h2
theorem pw_unique : ∀ {xs ys : List Str}, xs.Pairwise leS → ys.Pairwise leS → xs.Perm ys → xs = ys
  | [], ys, _, _, p => (List.nil_perm.mp p).symm
  | x :: xs, [], _, _, p => absurd p.symm (by simp)
  | x :: xs, y :: ys, h, g, p => by
    have hx := List.pairwise_cons.mp h
    have gy := List.pairwise_cons.mp g
    have e : x = y := by
      have m1 : x ∈ y :: ys := p.mem_iff.mp (List.mem_cons_self ..)
      have m2 : y ∈ x :: xs := p.mem_iff.mpr (List.mem_cons_self ..)
      rcases List.mem_cons.mp m1 with e | m1
      · exact e
      rcases List.mem_cons.mp m2 with e | m2
      · exact e.symm
      exact leS_anti (hx.1 y m2) (gy.1 x m1)
    subst e
    rw [pw_unique hx.2 gy.2 (List.Perm.cons_inv p)]
def insS (x : Str) : List Str → List Str
  | [] => [x]
  | y :: r => if ltCps y.cps.toList x.cps.toList then y :: insS x r else x :: y :: r
def sortS : List Str → List Str
  | [] => []
  | x :: r => insS x (sortS r)
theorem insS_perm (x : Str) : ∀ l, (insS x l).Perm (x :: l)
  | [] => .refl _
  | y :: r => by
    unfold insS
    split
    · exact ((insS_perm x r).cons y).trans (.swap x y r)
    · exact .refl _
theorem sortS_perm : ∀ l, (sortS l).Perm l
  | [] => .refl _
  | x :: r => (insS_perm x _).trans ((sortS_perm r).cons x)
theorem insS_pw (x : Str) : ∀ {l : List Str}, l.Pairwise leS → (insS x l).Pairwise leS
  | [], _ => List.pairwise_singleton _ _
  | y :: r, h => by
    have hy := List.pairwise_cons.mp h
    unfold insS
    split
    · rename_i c
      refine List.pairwise_cons.mpr ⟨fun z hz => ?_, insS_pw x hy.2⟩
      have lxy : leS y x := by
        rcases leS_total y x with q | q
        · exact q
        · have := leS_of.mpr q; rw [c] at this; cases this
      rcases List.mem_cons.mp ((insS_perm x r).mem_iff.mp hz) with rfl | hz
      · exact lxy
      · exact hy.1 z hz
    · rename_i c
      have lxy : leS x y := leS_of.mp (by simpa using c)
      refine List.pairwise_cons.mpr ⟨fun z hz => ?_, h⟩
      rcases List.mem_cons.mp hz with rfl | hz
      · exact lxy
      · exact leS_trans lxy (hy.1 z hz)
theorem sortS_pw : ∀ l, (sortS l).Pairwise leS
  | [] => .nil
  | x :: r => insS_pw x (sortS_pw r)
theorem sortS_is {ys ks : List Str} (p : ys.Perm ks) (s : sortedS ys = true) : ys = sortS ks := pw_unique (sorted_pw ys s) (sortS_pw ks) (p.trans (sortS_perm ks).symm)
section
variable {K : PySem.W.Frag} {O B B' : Addr → Prop} {H H' H1 H2 : Hp} {env env' env1 env2 : Env} {σ : L2.St} {p : Addr} {v : V} {t : T} {fr : Bool}
/-! ### unions -/
def oIxA : OpT := fun ts P => oIx ts P ∨ oDGet ts P
theorem OpOk.join {r r' : R2} {a b : OpT} (h : OpOk K (r2 r) a) (h' : OpOk K (r2 r') b) : OpOk K (r2 fun x y H Q => r x y H Q ∨ r' x y H Q) (fun ts P => a ts P ∨ b ts P) := by
  intro B H vs ts P Q hB hb hp hq
  have key : ∀ {q : R2}, r2 q vs H Q → ((∀ x y H Q, q x y H Q → r x y H Q ∨ r' x y H Q) → r2 (fun x y H Q => r x y H Q ∨ r' x y H Q) vs H Q) := by
    intro q hq f
    match vs, hq with
    | [x, y], hq => exact f x y H Q hq
  rcases hp with hp | hp
  · exact key (h B H vs ts P Q hB hb hp hq) fun _ _ _ _ => .inl
  · exact key (h' B H vs ts P Q hB hb hp hq) fun _ _ _ _ => .inr
theorem ok_ixA : OpOk K (r2 (rIxA K)) oIxA := OpOk.join (r := rIxU K) (r' := rIxD) ok_ix ok_dget
def hasT (kvs : List (Key × T)) (k : Key) : Bool := (valT kvs k).isSome
def oDInG (neg : Bool) : OpT
  | [k, .dct kvs], P => match keyT k with | some k => P (.bl (neg ^^ hasT kvs k)) | none => False
  | _, _ => False
theorem dget_any {a : Addr} {kvs : List (Key × V)} {ks : List (Key × T)} {k : Key} {w : V} {u : T} (ha : Rd H a (.dK kvs)) (al : AtK K B H kvs ks) (hw : Br K B H w u) (e : keyT u = some k) : ∃ o, DGet H a w o ∧ o.isSome = hasT ks k := by
  refine ⟨valV kvs k, .inl ⟨kvs, k, ha, at_key hw e, rfl⟩, ?_⟩
  unfold hasT
  cases q : valT ks k with
  | none => rw [al.val_none q]; rfl
  | some t => obtain ⟨x, e1, _⟩ := al.val q; rw [e1]; rfl
theorem ok_dIn : OpOk K (r2 rInD) (oDInG false) := by
  refine OpOk.pair (fun B H v w t u P Q hB hv hw hp hq => ?_) fun ts P h => by unfold oDInG at h; split at h <;> first | exact ⟨_, _, rfl⟩ | exact h.elim
  unfold oDInG at hp
  split at hp
  · rename_i e; cases e
    obtain ⟨a, kvs, rfl, ha, al⟩ := hw.dct
    cases e : keyT t with
    | none => rw [e] at hp; exact hp.elim
    | some k =>
      rw [e] at hp
      obtain ⟨o, g, h⟩ := dget_any ha al hv e
      refine ⟨a, o, rfl, g, ?_⟩
      rw [h]
      have q := hq _ _ H hp (Same.refl H) (.bl _)
      rw [Bool.false_xor] at q
      exact q
  · exact hp.elim
theorem ok_dNotIn : OpOk K (r2 rNotInD) (oDInG true) := by
  refine OpOk.pair (fun B H v w t u P Q hB hv hw hp hq => ?_) fun ts P h => by unfold oDInG at h; split at h <;> first | exact ⟨_, _, rfl⟩ | exact h.elim
  unfold oDInG at hp
  split at hp
  · rename_i e; cases e
    obtain ⟨a, kvs, rfl, ha, al⟩ := hw.dct
    cases e : keyT t with
    | none => rw [e] at hp; exact hp.elim
    | some k =>
      rw [e] at hp
      obtain ⟨o, g, h⟩ := dget_any ha al hv e
      refine ⟨a, o, rfl, g, ?_⟩
      rw [h]
      have q := hq _ _ H hp (Same.refl H) (.bl _)
      rw [Bool.true_xor] at q
      exact q
  · exact hp.elim
def oInA : OpT := fun ts P => oIn ts P ∨ oDInG false ts P
def oNotInA : OpT := fun ts P => oNotIn ts P ∨ oDInG true ts P
theorem ok_inA : OpOk K (r2 (rInA K)) oInA := OpOk.join (r := rInU K) (r' := rInD) ok_in ok_dIn
theorem ok_notInA : OpOk K (r2 (rNotInA K)) oNotInA := OpOk.join (r := rNotInU K) (r' := rNotInD) ok_notIn ok_dNotIn
/-! ### sorted(d), xs[::-1], list(enumerate(xs)), index -/
def strKeys : List (Key × T) → Option (List Str)
  | [] => some []
  | (.inr k, _) :: r => (strKeys r).map (k :: ·)
  | _ => none
theorem strKeys_is : ∀ {kvs : List (Key × T)} {ks : List Str}, strKeys kvs = some ks → kvs.map (·.1) = ks.map Sum.inr
  | [], ks, h => by cases h; rfl
  | (.inr k, t) :: r, ks, h => by
    cases q : strKeys r with
    | none => simp [strKeys, q] at h
    | some l => simp [strKeys, q] at h; subst h; simp [strKeys_is q]
  | (.inl _, _) :: r, ks, h => by simp [strKeys] at h
def oSortD : OpT
  | [.dct kvs], P => match strKeys kvs with | some ks => ks.length < 64 ∧ P (.lst ((sortS ks).map T.str)) | none => False
  | _, _ => False
theorem at_strL : ∀ (ks : List Str), AtL K B H (ks.map V.str) (ks.map T.str)
  | [] => .nil
  | k :: r => .cons (.str k) (at_strL r)
theorem ok_sortD : OpNew K rSortedD oSortD := by
  intro B H vs ts P Q hB hb hp hq
  unfold oSortD at hp
  split at hp
  · rename_i kvs
    obtain ⟨x, rfl, hx⟩ := hb.one rfl
    obtain ⟨a, xs, rfl, ha, al⟩ := hx.dct
    cases e : strKeys kvs with
    | none => rw [e] at hp; exact hp.elim
    | some ks =>
      rw [e] at hp
      refine ⟨a, xs, ks, rfl, ha, by rw [al.keys, strKeys_is e], hp.1, fun ys q pm so hn => ?_⟩
      rw [sortS_is pm so]
      exact hq _ _ _ hp.2 (same_new hn) hn (holds_new (a := q) hn (at_strL _))
  · exact hp.elim
def oRev : OpT
  | [.lst xs], P => P (.lst xs.reverse)
  | _, _ => False
theorem AtL.rev : ∀ {xs : List V} {ts : List T}, AtL K B H xs ts → AtL K B H xs.reverse ts.reverse
  | _, _, .nil => .nil
  | _, _, .cons h r => by rw [List.reverse_cons, List.reverse_cons]; exact r.rev.append (.cons h .nil)
theorem rf_rev {te : TE} {pa : PA} (ha : RefA K (tCons te tNil) pa) : RefF K (tRevL K te) (pOp oRev pa) := by
  refine rf_cbF (r := r1 fun x H1 Q => ∃ a xs, x = .ref a ∧ SqL K H1 a xs ∧ ∀ p, H1 p = none → Q (.ref p) (upd H1 p (.lst xs.reverse))) ?_ ha
  intro B H vs ts P Q hB hb hp hq
  unfold oRev at hp
  split at hp
  · obtain ⟨x, rfl, hx⟩ := hb.one rfl
    obtain ⟨a, xs, rfl, ha, al⟩ := hx.lst
    exact ⟨a, xs, rfl, .inl (.inl ha), fun p hn => hq _ _ _ hp (same_new hn) hn (holds_new (a := p) hn al.rev)⟩
  · exact hp.elim
def enT : Nat → List T → List T
  | _, [] => []
  | i, t :: r => .tup [.int (i : Nat), t] :: enT (i + 1) r
def oListEn : OpT
  | [.lst xs], P => P (.lst (enT 0 xs))
  | _, _ => False
theorem at_en (s : StB B H B' H') (nb : ∀ a, B' a → H a ≠ none ∨ a = p) : ∀ {xs : List V} {ts : List T} {as : List Addr} (i : Nat), AtL K B H xs ts → Paired (fun (t : Addr) (q : Key × V) => H' t = some (.tup [kV q.1, q.2])) as (ixd i xs) → (∀ t ∈ as, H t = none) → p ∉ as → AtL K B' H' (as.map V.ref) (enT i ts)
  | _, _, _, i, .nil, .nil, _, _ => .nil
  | _, _, _, i, .cons h r, .cons q qs, hn, hp => by
    rename_i a as x t xs ts
    refine .cons (.tup (fun z => ?_) (.inl q) (.cons (.int _) (.cons (h.keep s) .nil))) (at_en s nb (i + 1) r qs (fun t ht => hn t (List.mem_cons_of_mem _ ht)) fun z => hp (List.mem_cons_of_mem _ z))
    rcases nb _ z with y | y
    · exact y (hn _ (List.mem_cons_self ..))
    · exact hp (by rw [← y]; exact List.mem_cons_self ..)
theorem rf_listEn {te : TE} {pa : PA} (ha : RefA K (tCons te tNil) pa) : RefF K (tListEn K te) (pOp oListEn pa) := by
  refine rf_cbF (r := r1 (rListEn K)) ?_ ha
  intro B H vs ts P Q hB hb hp hq
  unfold oListEn at hp
  split at hp
  · obtain ⟨x, rfl, hx⟩ := hb.one rfl
    obtain ⟨a, xs, rfl, ha, al⟩ := hx.lst
    refine ⟨a, xs, rfl, .inl (.inl ha), fun H' p as hk hn hns hpn e1 e2 => hq _ _ _ hp (fun b o e => hk b o e) hn (.lst e1 ?_)⟩
    exact at_en (p := p) ⟨fun b o _ e => hk b o e, fun b z => z.elim .inl fun y => .inr (y ▸ hn)⟩ (fun b z => z.elim (fun y => .inl (hB b y)) .inr) 0 al e2 hns hpn
  · exact hp.elim
/-! ### xs.index(x), of flat items -/
def ixT (x : T) : List T → Option Nat
  | [] => none
  | y :: r => if eqF y x = true then some 0 else (ixT x r).map (· + 1)
def oIndex : OpT
  | [.lst xs, x], P => (flatT x = true ∧ xs.all flatT = true) ∧ match ixT x xs with | some j => P (.int (j : Nat)) | none => False
  | _, _ => False
theorem ixT_at {x : V} {u : T} (hx : At K B H x u) (fx : flatT u = true) : ∀ {xs : List V} {ts : List T} {j : Nat}, AtL K B H xs ts → ts.all flatT = true → ixT u ts = some j →
    ∃ z, xs[j]? = some z ∧ eqV z x = true ∧ ∀ (m : Nat) (z' : V), m < j → xs[m]? = some z' → eqV z' x = false
  | _, _, _, .nil, _, e => by cases e
  | _, _, j, .cons (x := y) (t := t) (xs := xs) (ts := ts) h r, f, e => by
    have f' : flatT t = true ∧ ts.all flatT = true := by simpa [List.all_cons, Bool.and_eq_true] using f
    have q := at_eqF h hx f'.1 fx
    unfold ixT at e
    by_cases c : eqF t u = true
    · rw [if_pos c] at e; cases e
      exact ⟨y, rfl, by rw [q]; exact c, fun m z' hm _ => absurd hm (Nat.not_lt_zero m)⟩
    · rw [if_neg c] at e
      cases e2 : ixT u ts with
      | none => rw [e2] at e; cases e
      | some i =>
        rw [e2] at e; cases e
        obtain ⟨z, h1, h2, h3⟩ := ixT_at hx fx r f'.2 e2
        refine ⟨z, by simpa using h1, h2, fun m z' hm hz => ?_⟩
        cases m with
        | zero =>
          have ez : y = z' := by simpa using hz
          subst ez
          rw [q]; simpa using c
        | succ m => exact h3 m z' (Nat.lt_of_succ_lt_succ hm) (by simpa using hz)
theorem ok_index : OpOk K (rm (rIndex K)) oIndex := by
  intro B H vs ts P Q hB hb hp hq
  unfold oIndex at hp
  split at hp
  · obtain ⟨x, c, rfl, hx, hc⟩ := hb.two rfl
    obtain ⟨a, xs, rfl, ha, al⟩ := hx.lst
    have ac := br_flat hc hp.1.1
    obtain ⟨⟨f1, f2⟩, hp⟩ := hp
    cases e : ixT _ _ with
    | none => rw [e] at hp; exact hp.elim
    | some j =>
      rw [e] at hp
      obtain ⟨z, h1, h2, h3⟩ := ixT_at ac f1 al f2 e
      exact ⟨a, xs, c, j, z, rfl, rfl, .inl (.inl ha), at_flat ac f1, atl_flat al f2, h1, h2, h3, hq _ _ H hp (Same.refl H) (.int _)⟩
  · exact hp.elim
/-- a method of a list that is a value -/
def pML (rp : OpT) (pe : PE) (pa : PA) : PE := fun env P => pe env fun t env1 => match t with
  | .lst ts => pa env1 fun as env2 => (match tsOf env2 as with | some us => rp (.lst ts :: us) fun z => P z env2 | none => False)
  | _ => False
theorem rf_bmL {r : V → List V → Hp → VK → Prop} {rp : OpT} {te : TE} {ta : TA} {pe : PE} {pa : PA} (o : OpOk K (rm r) rp) (he : RefE K te pe) (ha : RefA K ta pa) : RefE K (tBM K "list" r te ta) (pML rp pe pa) := by
  intro O H σ env P Q R hp hq
  refine he O H σ env _ _ R hp fun t env1 v H1 p1 r1 s1 a1 => ?_
  cases t with
  | lst ts =>
    obtain ⟨b, xs, rfl, hb, bl⟩ := Br.lst (.inl a1)
    refine ⟨.inl ⟨rfl, xs, .inl (.inl hb)⟩, ?_⟩
    refine ha O H1 σ env1 _ _ r1 p1 fun as env2 vs H2 p2 r2 s2 a2 => ?_
    cases e : tsOf env2 as with
    | none => rw [e] at p2; exact p2.elim
    | some us =>
      rw [e] at p2
      have bb : BrL K (Bd O env2) H2 (.ref b :: vs) (.lst ts :: us) := ⟨.inl (a1.keep s2.stb), br_args r2 a2 e⟩
      exact o (Bd O env2) H2 (.ref b :: vs) (.lst ts :: us) _ _ (fun a q => r2.bdom q) bb p2 fun t v H' h1 h2 h3 => hq t env2 v H' h1 (r2.same h2) ((s1.trans s2).trans (.same h2)) h3
  | _ => exact p1.elim
/-! ### xs.pop(), xs.extend(ys) -/
def pPop (i : Nat) : PE := fun env P => match ownT env[i]? with
  | some (_, .lst ts) => (match ts.getLast? with | some t => P t (reown env i (.lst ts.dropLast)) | none => False)
  | _ => False
theorem AtL.dropLast {xs : List V} {ts : List T} (h : AtL K B H xs ts) : AtL K B H xs.dropLast ts.dropLast := by
  rw [List.dropLast_eq_take, List.dropLast_eq_take, h.length]; exact h.take _
theorem own_val {i : Nat} (R : Rel K O H σ env) (e : ownT env[i]? = some (p, t)) : σ[i]? = some (some (.ref p)) := by
  cases q : env[i]? with
  | none => rw [q] at e; cases e
  | some s =>
    rw [q] at e
    have sl := R.slot i s q
    cases s with
    | own p' t0 => cases e; exact R.var q sl.1
    | ref p' t0 => cases e; exact R.var q sl.1
    | none => cases e
    | val _ => cases e
theorem rf_pop {i : Nat} : RefE K (tBM0 K "list" rPop (tVar i)) (pPop i) := by
  intro O H σ env P Q R hp hq
  unfold pPop at hp
  cases e : ownT env[i]? with
  | none => rw [e] at hp; exact hp.elim
  | some q =>
    obtain ⟨p, u⟩ := q
    rw [e] at hp
    cases u with
    | lst ts =>
      dsimp only at hp
      cases e2 : ts.getLast? with
      | none => rw [e2] at hp; exact hp.elim
      | some t =>
        rw [e2] at hp
        have ho := ownT_holds R e
        cases ho with
        | @lst xs _ eh al =>
          obtain ⟨y, h1, h2⟩ := al.get' (i := ts.length - 1) (t := t) (by rw [← List.getLast?_eq_getElem?]; exact e2)
          have rt := ownT_root e
          have st := stb_own (O := O) (H := H) (o := .lst xs.dropLast) (.inr rt)
          obtain ⟨w1, w2, w3⟩ := R.write (o := .lst xs.dropLast) e (.lst upd_same (al.dropLast.keep st))
          refine ⟨_, w1, .inl ⟨rfl, xs, .inl (.inl eh)⟩, p, xs, y, rfl, rfl, eh, by rw [al.length]; exact h1, ?_⟩
          exact hq t _ y _ hp w2 w3 (by rw [bd_reown]; exact h2.keep st)
    | _ => exact hp.elim
def pExtend (i : Nat) (pe : PE) : PS := fun d env => (∃ p ts, ownT env[i]? = some (p, .lst ts)) ∧ pe env fun t env1 => match ownT env1[i]? with
  | some (_, .lst ts) => (match t with | .lst us => ts.length + us.length ≤ 1000000 ∧ d.nx (reown env1 i (.lst (ts ++ us))) | _ => False)
  | _ => False
theorem rf_extend {i : Nat} {te : TE} {pe : PE} (he : RefE K te pe) : RefS K fr (tDrop (tBM K "list" rExtend (tVar i) (tCons te tNil))) (pExtend i pe) := by
  rintro O H σ env D d R ⟨⟨p0, ts0, e0⟩, hp⟩ hd
  have ho := ownT_holds R e0
  have ev := own_val R e0
  refine ⟨_, ev, ?_⟩
  cases ho with
  | @lst xs0 _ eh0 al0 =>
    refine ⟨.inl ⟨rfl, xs0, .inl (.inl eh0)⟩, ?_⟩
    refine he O H σ env _ _ R hp fun t env1 w H1 p1 r1 s1 a1 => ?_
    cases e : ownT env1[i]? with
    | none => rw [e] at p1; exact p1.elim
    | some q =>
      obtain ⟨p, u⟩ := q
      rw [e] at p1
      cases u with
      | lst ts =>
        dsimp only at p1
        cases t with
        | lst us =>
          dsimp only at p1
          have ho := ownT_holds r1 e
          obtain ⟨b, ys, rfl, hb, bl⟩ := Br.lst (.inl a1)
          cases ho with
          | @lst xs _ eh al =>
            have rt := ownT_root e
            have st := stb_own (O := O) (H := H1) (o := .lst (xs ++ ys)) (.inr rt)
            obtain ⟨w1, w2, w3⟩ := r1.write (o := .lst (xs ++ ys)) e (.lst upd_same ((al.append bl).keep st))
            rw [ev] at w1; cases w1
            exact ⟨p0, b, xs, ys, rfl, rfl, eh, hb, by rw [al.length, bl.length]; exact Nat.le_trans p1.1 million, hd.nx σ _ _ p1.2 w2 (s1.trans w3)⟩
        | _ => exact p1.elim
      | _ => exact p1.elim
def pNever : PS := fun _ _ => False
theorem rf_never : RefS K fr tNever pNever := fun O H σ env D d R hp e => hp.elim
/-! ### f(e): a new object is handed in to be written, and dropped -/
def pCallN (ps : PSp) (pe : PE) : PE := fun env P => pe env fun t env' => ∀ p, ps [.ref p t] fun r _ => P r env'
theorem root_one {a : Addr} {q : Addr} {u : T} (h : Root [.ref q u] a) : a = q := by
  obtain ⟨i, s, e, r⟩ := h
  cases i with
  | zero => simp at e; subst e; cases r; rfl
  | succ i => simp at e
theorem rf_callN {ps : PSp} {te : TE} {pe : PE} {E : XK} (he : RefF K te pe) : RefE K (tCall (spP K fr ps) [] E (tCons te tNil)) (pCallN ps pe) := by
  intro O H σ env P Q R hp hq
  refine he O H σ env _ _ R hp fun t env' p H' p1 r1 s1 hn ho => ?_
  show spP K fr ps [V.ref p] H' Q E
  have nO : ¬ O p := fun z => R.dom p z hn
  have nR : ¬ Root env' p := r1.out p (.inr rfl)
  have rp : Root [Slot.ref p t] p := ⟨0, _, rfl, rfl⟩
  have R0 : Rel K (fun a => O a ∨ Root env' a) H' ([V.ref p].map some) [.ref p t] := by
    refine ⟨rfl, fun i s e => ?_, fun i j s u a e1 e2 r1 r2 => ?_, fun a q z => ?_, fun a q => ?_⟩
    · cases i with
      | zero =>
        simp at e; subst e
        refine ⟨rfl, ho.keep (.less fun a q => ?_) rfl⟩
        rcases q with (q | q) | q
        · exact .inl (.inl q)
        · exact .inr q
        · exact .inl (.inr (root_one q))
      | succ i => simp at e
    · cases i with
      | zero =>
        cases j with
        | zero => rfl
        | succ j => simp at e2
      | succ i => simp at e1
    · have := root_one z; subst this
      exact q.elim nO nR
    · rcases q with q | q
      · exact r1.dom a (.inl q)
      · exact r1.bdom (.inr q)
  refine ⟨_, [.ref p t], _, R0, p1 p, fun r sl' v H2 p2 sh R2 s2 at2 _ => ?_⟩
  cases sh with
  | @ref _ _ u _ _ sh =>
  cases sh
  have kp : ∀ a o, a ≠ p → H' a = some o → H2 a = some o := fun a o na e => s2.keep a o (fun z => na (root_one z)) e
  have st : StB (Bd (fun a => O a ∨ a = p) env') H' (Bd O env') H2 := ⟨fun a o n e => kp a o (fun z => n (.inl (.inr z))) e, fun a q => .inl (q.elim (fun z => .inl (.inl z)) .inr)⟩
  have R3 : Rel K O H2 σ env' := by
    refine ⟨r1.len, fun i s e => (r1.slot i s e).keep st fun a ra => ?_, r1.one, fun a q => r1.out a (.inl q), fun a q => s2.dom a (r1.dom a (.inl q))⟩
    have na : a ≠ p := fun z => by subst z; exact nR ⟨i, s, e, ra⟩
    obtain ⟨_, t', h'⟩ := (r1.slot i s e).root ra
    cases q : H' a with
    | none => exact absurd q h'.def
    | some o => exact kp a o na q
  refine hq r env' v H2 p2 R3 ⟨fun a o n e => kp a o (fun z => by subst z; rw [hn] at e; cases e) (s1.keep a o n e), s1.more, fun a q => s2.dom a (s1.dom a q)⟩ (at2.keep (.less fun a q => ?_))
  rcases q with q | q
  · exact .inl (.inl q)
  · exact .inl (.inr q)
end
end Pu

namespace Pu
open PySem PySem.Spec PyProof.Rows L2 He Hk
section
variable {env env' : Env} {d : PD} {P : T → Env → Prop} {R : T → Prop} {i : Nat} {p : Addr} {t : T} {xs : List T}
theorem v_sortD {kvs : List (Key × T)} {ks : List Str} (e : strKeys kvs = some ks) (hz : ks.length < 64) (h : R (.lst ((sortS ks).map T.str))) : oSortD [.dct kvs] R := by
  show (match strKeys kvs with | some ks => ks.length < 64 ∧ R (.lst ((sortS ks).map T.str)) | none => False); rw [e]; exact ⟨hz, h⟩
theorem v_rev (h : R (.lst xs.reverse)) : oRev [.lst xs] R := h
theorem v_listEn (h : R (.lst (enT 0 xs))) : oListEn [.lst xs] R := h
theorem v_ixAd {kvs : List (Key × T)} {k : T} (h : oDGet [.dct kvs, k] R) : oIxA [.dct kvs, k] R := .inr h
theorem v_ixAl {k : T} (h : oIx [.lst xs, k] R) : oIxA [.lst xs, k] R := .inl h
theorem v_ixAt {k : T} (h : oIx [.tup xs, k] R) : oIxA [.tup xs, k] R := .inl h
theorem v_inAd {kvs : List (Key × T)} {k : T} {k' : Key} (e : keyT k = some k') (h : R (.bl (hasT kvs k'))) : oInA [k, .dct kvs] R := by
  refine .inr ?_
  show (match keyT k with | some k => R (.bl (false ^^ hasT kvs k)) | none => False)
  rw [e]; dsimp only; rw [Bool.false_xor]; exact h
theorem v_notInAd {kvs : List (Key × T)} {k : T} {k' : Key} (e : keyT k = some k') (h : R (.bl (!hasT kvs k'))) : oNotInA [k, .dct kvs] R := by
  refine .inr ?_
  show (match keyT k with | some k => R (.bl (true ^^ hasT kvs k)) | none => False)
  rw [e]; dsimp only; rw [Bool.true_xor]; exact h
theorem v_index {x : T} {j : Nat} (f : flatT x = true) (g : xs.all flatT = true) (e : ixT x xs = some j) (h : R (.int (j : Nat))) : oIndex [.lst xs, x] R := by
  refine ⟨⟨f, g⟩, ?_⟩
  rw [e]; exact h
def kML (rp : OpT) (pa : PA) (t : T) (env : Env) (P : T → Env → Prop) : Prop := match t with
  | .lst ts => pa env fun as env2 => (match tsOf env2 as with | some us => rp (.lst ts :: us) fun z => P z env2 | none => False)
  | _ => False
def kMLO (rp : OpT) (ts : List T) (as : List Ar) (env : Env) (P : T → Env → Prop) : Prop := match tsOf env as with | some us => rp (.lst ts :: us) fun z => P z env | none => False
theorem w_ml {rp : OpT} {a : PE} {pa : PA} (h : a env fun t env1 => kML rp pa t env1 P) : pML rp a pa env P := h
theorem w_kML {rp : OpT} {pa : PA} (h : pa env fun as env2 => kMLO rp xs as env2 P) : kML rp pa (.lst xs) env P := h
theorem w_kMLO {rp : OpT} {as : List Ar} {us : List T} (e : tsOf env as = some us) (h : rp (.lst xs :: us) fun u => P u env) : kMLO rp xs as env P := by unfold kMLO; rw [e]; exact h
theorem w_pop (e : ownT env[i]? = some (p, .lst xs)) (e2 : xs.getLast? = some t) (ee : reown env i (.lst xs.dropLast) = env') (h : P t env') : pPop i env P := by
  subst ee; unfold pPop; rw [e]; dsimp only; rw [e2]; exact h
def kExt (i : Nat) (t : T) (env : Env) (Q : Env → Prop) : Prop := match ownT env[i]? with
  | some (_, .lst ts) => (match t with | .lst us => ts.length + us.length ≤ 1000000 ∧ Q (reown env i (.lst (ts ++ us))) | _ => False)
  | _ => False
theorem w_extend {pe : PE} (hs : ownT env[i]? = some (p, .lst xs)) (h : pe env fun t env1 => kExt i t env1 d.nx) : pExtend i pe d env := ⟨⟨p, xs, hs⟩, h⟩
theorem w_kExt {us : List T} {Q : Env → Prop} (e : ownT env[i]? = some (p, .lst xs)) (hz : xs.length + us.length ≤ 1000000) (ee : reown env i (.lst (xs ++ us)) = env') (h : Q env') : kExt i (.lst us) env Q := by
  subst ee; unfold kExt; rw [e]; exact ⟨hz, h⟩
theorem w_callN {ps : PSp} {pe : PE} (h : pe env fun t env' => ∀ p, ps [.ref p t] fun r _ => P r env') : pCallN ps pe env P := h
end
end Pu

namespace Pu
open PySem PySem.Spec PyProof.Rows L2 He Hk
def t_is_whole (K : PySem.W.Frag)  : TS :=
  (tRet (tAndV (tCB (rIsi K) (tCons (tVar 0) (tCons (tC (.ty "int")) tNil))) (tNotV (tCB (rIsi K) (tCons (tVar 0) (tCons (tC (.ty "bool")) tNil))))))

def t_is_name (K : PySem.W.Frag)  : TS :=
  (tSeq (tIfS (tOr (tNot (tB (tCB (rIsi K) (tCons (tVar 0) (tCons (tC (.ty "str")) tNil))))) (tNot (tTest (tChain (rLeI) (rLeI) (tC (.int 1)) (tCB (rLenX K) (tCons (tVar 0) tNil)) (tC (.int 8)))))) (tRet (tC (.bl false))) tNext)
    (tRet (tCB (rAll K) (tCons (tLc (iStr (tVar 0)) (gName 1) tYes (tOp (rInU K) (tVar 1) (tC (.str "abcdefghijklmnopqrstuvwxyz"))) [1]) tNil))))

def t_is_number (K : PySem.W.Frag) (sp_is_whole : Sp) : TS :=
  (tRet (tAndV (tCall sp_is_whole [] E0 (tCons (tVar 0) tNil)) (tChain (rLtU) (rLtU) (tUn rNeg (tC (.int 1000000000000000000))) (tVar 0) (tC (.int 1000000000000000000)))))

def t_is_text (K : PySem.W.Frag)  : TS :=
  (tSeq (tIfS (tOr (tNot (tB (tCB (rIsi K) (tCons (tVar 0) (tCons (tC (.ty "str")) tNil))))) (tTest (tOp (rGtI) (tCB (rLenX K) (tCons (tVar 0) tNil)) (tC (.int 40))))) (tRet (tC (.bl false))) tNext)
    (tRet (tCB (rAll K) (tCons (tLc (iStr (tVar 0)) (gName 1) tYes (tOp (rInU K) (tVar 1) (tC (.str " !\"#$&'()*+,-./0123456789:;<=>?@ABCDEFGHIJKLMNOPQRSTUVWXYZ[\\]^_`abcdefghijklmnopqrstuvwxyz{|}~"))) [1]) tNil))))

def t_held_in (K : PySem.W.Frag) (sp_is_name : Sp) : TS :=
  (tSeq (tIfS (tAnd (tB (tCB (rIsi K) (tCons (tVar 0) (tCons (tC (.ty "list")) tNil)))) (tTest (tOp (rLeI) (tCB (rLenX K) (tCons (tVar 0) tNil)) (tC (.int 6))))) (tRet (tVar 0)) tNext)
    (tSeq (tIfS (tAnd (tB (tCB (rIsi K) (tCons (tVar 0) (tCons (tC (.ty "dict")) tNil)))) (tAnd (tTest (tOp (rLeI) (tCB (rLenX K) (tCons (tVar 0) tNil)) (tC (.int 8)))) (tB (tCB (rAll K) (tCons (tLockUE (tLc (DW.ti .keys (tVar 0)) (gName 1) tYes (tCall sp_is_name [] E0 (tCons (tVar 1) tNil)) [1])) tNil))))) (tRet (tListVals (tVar 0))) tNext)
    (tRet (tC .non))))

def t_deepness (K : PySem.W.Frag) (sp_is_number : Sp) (sp_is_text : Sp) (sp_held_in : Sp) (sp_deepness : Sp) : TS :=
  (tSeq (tIfS (tOr (tTest (tOp (Hk.rIsN) (tVar 0) (tC .non))) (tOr (tB (tCB (rIsi K) (tCons (tVar 0) (tCons (tC (.ty "bool")) tNil)))) (tOr (tB (tCall sp_is_number [] E0 (tCons (tVar 0) tNil))) (tB (tCall sp_is_text [] E0 (tCons (tVar 0) tNil)))))) (tRet (tC (.int 1))) tNext)
    (tSeq (tAsg (tCall sp_held_in [] E0 (tCons (tVar 0) tNil)) (gName 1))
    (tSeq (tIfS (tTest (tOp (Hk.rIsN) (tVar 1) (tC .non))) (tRet (tC (.int 0))) tNext)
    (tSeq (tAsg (tLc (iList K (tVar 1)) (gName 3) tYes (tCall sp_deepness [] E0 (tCons (tVar 3) tNil)) [3]) (gName 2))
    (tSeq (tIfS (tOr (tTest (tOp (rInU K) (tC (.int 0)) (tVar 2))) (tTest (tOp (rInU K) (tC (.int 4)) (tVar 2)))) (tRet (tC (.int 0))) tNext)
    (tRet (tOp (rAdd K) (tC (.int 1)) (tCB (rMax K) (tCons (tOp (rAdd K) (tVar 2) (tLst (tCons (tC (.int 0)) tNil))) tNil)))))))))

def t_is_worth (K : PySem.W.Frag) (sp_deepness : Sp) : TS :=
  (tRet (tOp (rGtI) (tCall sp_deepness [] E0 (tCons (tVar 0) tNil)) (tC (.int 0))))

def t_need_worth (K : PySem.W.Frag) (sp_is_worth : Sp) : TS :=
  (tIfS (tNot (tB (tCall sp_is_worth [] E0 (tCons (tVar 0) tNil)))) tNever tNext)

def t_sort_word (K : PySem.W.Frag)  : TS :=
  (tSeq (tIfS (tTest (tOp (Hk.rIsN) (tVar 0) (tC .non))) (tRet (tC (.str "nothing"))) tNext)
    (tSeq (tIfS (tB (tCB (rIsi K) (tCons (tVar 0) (tCons (tC (.ty "bool")) tNil)))) (tRet (tC (.str "truth"))) tNext)
    (tSeq (tIfS (tB (tCB (rIsi K) (tCons (tVar 0) (tCons (tC (.ty "int")) tNil)))) (tRet (tC (.str "number"))) tNext)
    (tSeq (tIfS (tB (tCB (rIsi K) (tCons (tVar 0) (tCons (tC (.ty "str")) tNil)))) (tRet (tC (.str "text"))) tNext)
    (tSeq (tIfS (tB (tCB (rIsi K) (tCons (tVar 0) (tCons (tC (.ty "list")) tNil)))) (tRet (tC (.str "row"))) tNext)
    (tRet (tC (.str "fields"))))))))

def t_sort_of (K : PySem.W.Frag) (sp_need_worth : Sp) (sp_sort_word : Sp) : TS :=
  (tSeq (tDrop (tCall sp_need_worth [] E0 (tCons (tVar 0) tNil)))
    (tRet (tCall sp_sort_word [] E0 (tCons (tVar 0) tNil))))

def t_deep (K : PySem.W.Frag) (sp_need_worth : Sp) (sp_deepness : Sp) : TS :=
  (tSeq (tDrop (tCall sp_need_worth [] E0 (tCons (tVar 0) tNil)))
    (tRet (tCall sp_deepness [] E0 (tCons (tVar 0) tNil))))

def t_steps_in (K : PySem.W.Frag)  : TS :=
  (tSeq (tIfS (tB (tCB (rIsi K) (tCons (tVar 0) (tCons (tC (.ty "list")) tNil)))) (tRet (tListEn K (tVar 0))) tNext)
    (tSeq (tIfS (tB (tCB (rIsi K) (tCons (tVar 0) (tCons (tC (.ty "dict")) tNil)))) (tRet (tLc (iList K (tCB rSortedD (tCons (tVar 0) tNil))) (gName 1) tYes (tTup (tCons (tVar 1) (tCons (tDGet (tVar 0) (tVar 1)) tNil))) [1])) tNext)
    (tRet (tLst tNil))))

def t_copy_of (K : PySem.W.Frag) (sp_copy_of : Sp) : TS :=
  (tSeq (tIfS (tB (tCB (rIsi K) (tCons (tVar 0) (tCons (tC (.ty "list")) tNil)))) (tRet (tLc (iList K (tVar 0)) (gName 1) tYes (tCall sp_copy_of [] E0 (tCons (tVar 1) tNil)) [1])) tNext)
    (tSeq (tIfS (tB (tCB (rIsi K) (tCons (tVar 0) (tCons (tC (.ty "dict")) tNil)))) (tSeq (tAsg tDNewK (gName 2))
    (tSeq (tLockU (tFor (DW.ti .items (tVar 0)) (gTup K 2 (gCons (gName 3) (gCons (gName 1) gNil))) (tAsg (tCall sp_copy_of [] E0 (tCons (tVar 1) tNil)) (gSub (tVar 2) (tVar 3) rSetD))))
    (tRet (tVar 2)))) tNext)
    (tRet (tVar 0))))

def t_gathered (K : PySem.W.Frag) (sp_copy_of : Sp) (sp_steps_in : Sp) (sp_gathered : Sp) : TS :=
  (tSeq (tAsg (tLst (tCons (tTup (tCons (tVar 1) (tCons (tCall sp_copy_of [] E0 (tCons (tVar 0) tNil)) tNil))) tNil)) (gName 2))
    (tSeq (tFor (iList K (tCall sp_steps_in [] E0 (tCons (tVar 0) tNil))) (gTup K 2 (gCons (gName 3) (gCons (gName 4) gNil))) (tDrop (tBM K "list" rExtend (tVar 2) (tCons (tCall sp_gathered [] E0 (tCons (tVar 4) (tCons (tOp (rAdd K) (tVar 1) (tTup (tCons (tVar 3) tNil))) tNil))) tNil))))
    (tRet (tVar 2))))

def t_inner (K : PySem.W.Frag) (sp_need_worth : Sp) (sp_gathered : Sp) : TS :=
  (tSeq (tDrop (tCall sp_need_worth [] E0 (tCons (tVar 0) tNil)))
    (tRet (tCall sp_gathered [] E0 (tCons (tVar 0) (tCons (tTup tNil) tNil)))))

def t_leads (K : PySem.W.Frag) (sp_is_whole : Sp) : TS :=
  (tSeq (tIfS (tB (tCB (rIsi K) (tCons (tVar 0) (tCons (tC (.ty "list")) tNil)))) (tRet (tAndV (tCall sp_is_whole [] E0 (tCons (tVar 1) tNil)) (tChain (rLeI) (rLtU) (tC (.int 0)) (tVar 1) (tCB (rLenX K) (tCons (tVar 0) tNil))))) tNext)
    (tRet (tAndV (tCB (rIsi K) (tCons (tVar 0) (tCons (tC (.ty "dict")) tNil))) (tAndV (tCB (rIsi K) (tCons (tVar 1) (tCons (tC (.ty "str")) tNil))) (tOp (rInA K) (tVar 1) (tVar 0))))))

def t_worth_at (K : PySem.W.Frag) (sp_need_worth : Sp) (sp_leads : Sp) (sp_copy_of : Sp) : TS :=
  (tSeq (tDrop (tCall sp_need_worth [] E0 (tCons (tVar 0) tNil)))
    (tSeq (tIfS (tNot (tB (tCB (rIsi K) (tCons (tVar 1) (tCons (tC (.ty "tuple")) tNil))))) tNever tNext)
    (tSeq (tAsg (tVar 0) (gName 2))
    (tSeq (tFor (iTup K (tVar 1)) (gName 3) (tSeq (tIfS (tNot (tB (tCall sp_leads [] E0 (tCons (tVar 2) (tCons (tVar 3) tNil))))) tNever tNext)
    (tAsg (tOp (rIxA K) (tVar 2) (tVar 3)) (gName 2))))
    (tRet (tCall sp_copy_of [] E0 (tCons (tVar 2) tNil)))))))

def t__law_cell (K : PySem.W.Frag)  : TS :=
  (tSeq (tIfS (tTest (tOp (rLtU) (tVar 1) (tCB (rLenX K) (tCons (tVar 0) tNil)))) (tRet (tOp (rIxU K) (tVar 0) (tVar 1))) tNext)
    (tRet (tOp (rAdd K) (tOp (rMulX K) (tC (.int 7919)) (tVar 1)) (tC (.int 31)))))

def t__law_box (K : PySem.W.Frag)  : TS :=
  (tRet (tLst (tCons (tCB (rMax2) (tCons (tC (.int 0)) (tCons (tOp (Hk.rSub) (tVar 0) (tOp (rPow) (tC (.int 10)) (tC (.int 18)))) tNil))) (tCons (tOp (rMod) (tVar 0) (tC (.int 2147483647))) (tCons (tC (.int 0)) tNil)))))

def t__law_take (K : PySem.W.Frag)  : TS :=
  (tSeq (tIfS (tTest (tOp (rGtI) (tOp (rIxU K) (tVar 0) (tC (.int 0))) (tC (.int 0)))) (tSeq (tAsg (tOp (rMod) (tOp (rIxU K) (tVar 0) (tC (.int 0))) (tVar 1)) (gName 2))
    (tSeq (tAsg (tOp (rDiv) (tOp (rIxU K) (tVar 0) (tC (.int 0))) (tVar 1)) (gSub (tVar 0) (tC (.int 0)) rSetL))
    (tRet (tVar 2)))) tNext)
    (tSeq (tAsg (tOp (rAdd K) (tOp (rIxU K) (tVar 0) (tC (.int 2))) (tC (.int 1))) (gSub (tVar 0) (tC (.int 2)) rSetL))
    (tSeq (tAsg (tOp (rMod) (tOp (rPow) (tOp (rAdd K) (tOp (rAdd K) (tOp (rIxU K) (tVar 0) (tC (.int 1))) (tOp (rMulX K) (tC (.int 7919)) (tOp (rIxU K) (tVar 0) (tC (.int 2))))) (tC (.int 17))) (tC (.int 5))) (tC (.int 2147483629))) (gName 3))
    (tSeq (tAsg (tOp (rMod) (tOp (rPow) (tOp (rAdd K) (tOp (rMulX K) (tVar 3) (tOp (rAdd K) (tC (.int 16807)) (tOp (rIxU K) (tVar 0) (tC (.int 2))))) (tC (.int 11))) (tC (.int 3))) (tC (.int 2147483587))) (gName 3))
    (tRet (tOp (rMod) (tOp (rDiv) (tVar 3) (tC (.int 8))) (tVar 1)))))))

def t__law_signs (K : PySem.W.Frag)  : TS :=
  (tRet (tC (.str " !\"#$&'()*+,-./0123456789:;<=>?@ABCDEFGHIJKLMNOPQRSTUVWXYZ[\\]^_`abcdefghijklmnopqrstuvwxyz{|}~")))

def t__law_number (K : PySem.W.Frag) (sp__law_take : Sp) : TS :=
  (tSeq (tAsg (tCall sp__law_take [] E0 (tCons (tVar 0) (tCons (tC (.int 6)) tNil))) (gName 1))
    (tSeq (tIfS (tTest (tOp (rLtU) (tVar 1) (tC (.int 2)))) (tRet (tOp (Hk.rSub) (tCall sp__law_take [] E0 (tCons (tVar 0) (tCons (tC (.int 9)) tNil))) (tC (.int 4)))) tNext)
    (tSeq (tIfS (tTest (tOp (rEqY K) (tVar 1) (tC (.int 2)))) (tRet (tOp (rMulX K) (tOp (rIxU K) (tLst (tCons (tC (.int 1)) (tCons (tUn rNeg (tC (.int 1))) tNil))) (tCall sp__law_take [] E0 (tCons (tVar 0) (tCons (tC (.int 2)) tNil)))) (tOp (Hk.rSub) (tOp (Hk.rSub) (tOp (rPow) (tC (.int 10)) (tC (.int 18))) (tC (.int 1))) (tCall sp__law_take [] E0 (tCons (tVar 0) (tCons (tC (.int 3)) tNil)))))) tNext)
    (tSeq (tAsg (tC (.int 0)) (gName 2))
    (tSeq (tFor (iRng1 (tCons (tOp (rAdd K) (tC (.int 1)) (tCall sp__law_take [] E0 (tCons (tVar 0) (tCons (tC (.int 3)) tNil)))) tNil)) (gName 3) (tAsg (tOp (rAdd K) (tOp (rMulX K) (tVar 2) (tOp (rPow) (tC (.int 10)) (tC (.int 6)))) (tCall sp__law_take [] E0 (tCons (tVar 0) (tCons (tOp (rPow) (tC (.int 10)) (tC (.int 6))) tNil)))) (gName 2)))
    (tRet (tOp (rMulX K) (tVar 2) (tOp (rIxU K) (tLst (tCons (tC (.int 1)) (tCons (tUn rNeg (tC (.int 1))) tNil))) (tCall sp__law_take [] E0 (tCons (tVar 0) (tCons (tC (.int 2)) tNil)))))))))))

def t__law_text (K : PySem.W.Frag) (sp__law_signs : Sp) (sp__law_take : Sp) : TS :=
  (tSeq (tAsg (tCall sp__law_signs [] E0 tNil) (gName 1))
    (tSeq (tAsg (tOp (rIxU K) (tLst (tCons (tCall sp__law_take [] E0 (tCons (tVar 0) (tCons (tC (.int 4)) tNil))) (tCons (tC (.int 40)) (tCons (tCall sp__law_take [] E0 (tCons (tVar 0) (tCons (tC (.int 41)) tNil))) tNil)))) (tCall sp__law_take [] E0 (tCons (tVar 0) (tCons (tC (.int 3)) tNil)))) (gName 2))
    (tSeq (tAsg (tCall sp__law_take [] E0 (tCons (tVar 0) (tCons (tC (.int 94)) tNil))) (gName 3))
    (tSeq (tAsg (tCall sp__law_take [] E0 (tCons (tVar 0) (tCons (tC (.int 9)) tNil))) (gName 4))
    (tRet (tM1 (rJoin K) (tC (.str "")) (tLc (iRng1 (tCons (tVar 2) tNil)) (gName 5) tYes (tOp (rIxU K) (tVar 1) (tOp (rMod) (tOp (rAdd K) (tVar 3) (tOp (rMulX K) (tVar 4) (tVar 5))) (tC (.int 94)))) [5])))))))

def t__law_names (K : PySem.W.Frag) (sp__law_take : Sp) : TS :=
  (tSeq (tAsg (tC (.str "abcdefghijklmnopqrstuvwxyz")) (gName 2))
    (tSeq (tAsg (tCall sp__law_take [] E0 (tCons (tVar 0) (tCons (tC (.int 3)) tNil))) (gName 3))
    (tSeq (tAsg (tCall sp__law_take [] E0 (tCons (tVar 0) (tCons (tC (.int 26)) tNil))) (gName 4))
    (tSeq (tAsg (tLc (iRng1 (tCons (tVar 1) tNil)) (gName 6) tYes (tOp (rIxU K) (tVar 2) (tOp (rMod) (tOp (rAdd K) (tVar 4) (tOp (rMulX K) (tC (.int 5)) (tVar 6))) (tC (.int 26)))) [6]) (gName 5))
    (tSeq (tIfS (tTest (tOp (rEqY K) (tVar 3) (tC (.int 1)))) (tSeq (tAsg (tCall sp__law_take [] E0 (tCons (tVar 0) (tCons (tC (.int 8)) tNil))) (gName 7))
    (tSeq (tAsg (tCall sp__law_take [] E0 (tCons (tVar 0) (tCons (tOp (rAdd K) (tVar 7) (tC (.int 1))) tNil))) (gName 8))
    (tSeq (tAsg (tM1 (rJoin K) (tC (.str "")) (tLc (iRng1 (tCons (tVar 7) tNil)) (gName 6) tYes (tOp (rIxU K) (tVar 2) (tCall sp__law_take [] E0 (tCons (tVar 0) (tCons (tC (.int 26)) tNil)))) [6])) (gName 9))
    (tAsg (tLc (iList K (tVar 5)) (gName 10) tYes (tOp (rAdd K) (tOp (rAdd K) (tSl (rSlU K) (tVar 9) tNoPart (tPart (tVar 8))) (tVar 10)) (tSl (rSlU K) (tVar 9) (tPart (tVar 8)) tNoPart)) [10]) (gName 5))))) tNext)
    (tSeq (tIfS (tTest (tOp (rEqY K) (tVar 3) (tC (.int 2)))) (tAsg (tLc (iRng1 (tCons (tVar 1) tNil)) (gName 6) tYes (tOp (rMulX K) (tOp (rIxU K) (tVar 2) (tVar 4)) (tOp (rAdd K) (tC (.int 1)) (tVar 6))) [6]) (gName 5)) tNext)
    (tSeq (tAsg (tCall sp__law_take [] E0 (tCons (tVar 0) (tCons (tOp (rAdd K) (tVar 1) (tC (.int 1))) tNil))) (gName 8))
    (tRet (tOp (rAdd K) (tSl (rSlU K) (tVar 5) (tPart (tVar 8)) tNoPart) (tSl (rSlU K) (tVar 5) tNoPart (tPart (tVar 8))))))))))))

def t__law_worth (K : PySem.W.Frag) (sp__law_take : Sp) (sp__law_number : Sp) (sp__law_text : Sp) (sp__law_worth : Sp) (sp__law_names : Sp) : TS :=
  (tSeq (tAsg (tCall sp__law_take [] E0 (tCons (tVar 0) (tCons (tC (.int 9)) tNil))) (gName 2))
    (tSeq (tIfS (tTest (tOp (rEqY K) (tVar 2) (tC (.int 0)))) (tRet (tC .non)) tNext)
    (tSeq (tIfS (tTest (tOp (rEqY K) (tVar 2) (tC (.int 1)))) (tRet (tOp (rEqY K) (tCall sp__law_take [] E0 (tCons (tVar 0) (tCons (tC (.int 2)) tNil))) (tC (.int 1)))) tNext)
    (tSeq (tIfS (tOr (tTest (tOp (rEqY K) (tVar 2) (tC (.int 2)))) (tAnd (tTest (tOp (rEqY K) (tVar 1) (tC (.int 1)))) (tTest (tOp (rGtI) (tVar 2) (tC (.int 5)))))) (tRet (tCall sp__law_number [] E0 (tCons (tVar 0) tNil))) tNext)
    (tSeq (tIfS (tOr (tTest (tOp (rEqY K) (tVar 2) (tC (.int 3)))) (tTest (tOp (rEqY K) (tVar 1) (tC (.int 1))))) (tRet (tCall sp__law_text [] E0 (tCons (tVar 0) tNil))) tNext)
    (tSeq (tAsg (tOp (rIxU K) (tLst (tCons (tCall sp__law_take [] E0 (tCons (tVar 0) (tCons (tC (.int 4)) tNil))) (tCons (tCall sp__law_take [] E0 (tCons (tVar 0) (tCons (tOp (rIxU K) (tLst (tCons (tC (.int 1)) (tCons (tC (.int 3)) (tCons (tC (.int 4)) (tCons (tC (.int 9)) tNil))))) (tOp (Hk.rSub) (tVar 1) (tC (.int 1)))) tNil))) tNil))) (tCall sp__law_take [] E0 (tCons (tVar 0) (tCons (tC (.int 2)) tNil)))) (gName 3))
    (tSeq (tIfS (tTest (tOp (rLtU) (tVar 2) (tC (.int 7)))) (tRet (tLc (iRng1 (tCons (tCB (rMin2) (tCons (tC (.int 6)) (tCons (tVar 3) tNil))) tNil)) (gName 4) tYes (tCall sp__law_worth [] E0 (tCons (tVar 0) (tCons (tOp (Hk.rSub) (tVar 1) (tC (.int 1))) tNil))) [4])) tNext)
    (tSeq (tAsg tDNewK (gName 5))
    (tSeq (tFor (iList K (tCall sp__law_names [] E0 (tCons (tVar 0) (tCons (tVar 3) tNil)))) (gName 6) (tAsg (tCall sp__law_worth [] E0 (tCons (tVar 0) (tCons (tOp (Hk.rSub) (tVar 1) (tC (.int 1))) tNil))) (gSub (tVar 5) (tVar 6) rSetD)))
    (tRet (tVar 5)))))))))))

def t__law_sort (K : PySem.W.Frag)  : TS :=
  (tSeq (tAsg (tLst (tCons (tOp (Hk.rIsN) (tVar 0) (tC .non)) (tCons (tCB (rIsi K) (tCons (tVar 0) (tCons (tC (.ty "bool")) tNil))) (tCons (tCB (rIsi K) (tCons (tVar 0) (tCons (tC (.ty "int")) tNil))) (tCons (tCB (rIsi K) (tCons (tVar 0) (tCons (tC (.ty "str")) tNil))) tNil))))) (gName 1))
    (tSeq (tAsg (tLst (tCons (tC (.str "nothing")) (tCons (tC (.str "truth")) (tCons (tC (.str "number")) (tCons (tC (.str "text")) (tCons (tC (.str "row")) (tCons (tC (.str "fields")) tNil))))))) (gName 2))
    (tRet (tOp (rIxU K) (tVar 2) (tBM K "list" (rIndex K) (tOp (rAdd K) (tVar 1) (tLst (tCons (tCB (rIsi K) (tCons (tVar 0) (tCons (tC (.ty "list")) tNil))) (tCons (tC (.bl true)) tNil)))) (tCons (tC (.bl true)) tNil))))))

def t__law_deep (K : PySem.W.Frag) (sp__law_deep : Sp) : TS :=
  (tSeq (tAsg (tLst tNil) (gName 1))
    (tSeq (tIfS (tB (tCB (rIsi K) (tCons (tVar 0) (tCons (tC (.ty "list")) tNil)))) (tAsg (tVar 0) (gName 1)) tNext)
    (tSeq (tIfS (tB (tCB (rIsi K) (tCons (tVar 0) (tCons (tC (.ty "dict")) tNil)))) (tAsg (tListVals (tVar 0)) (gName 1)) tNext)
    (tRet (tOp (rAdd K) (tC (.int 1)) (tCB (rMax K) (tCons (tOp (rAdd K) (tLst (tCons (tC (.int 0)) tNil)) (tLc (iList K (tVar 1)) (gName 2) tYes (tCall sp__law_deep [] E0 (tCons (tVar 2) tNil)) [2])) tNil)))))))

def t__law_walk (K : PySem.W.Frag)  : TS :=
  (tSeq (tAsg (tLst (tCons (tTup (tCons (tTup tNil) (tCons (tVar 0) tNil))) tNil)) (gName 1))
    (tSeq (tAsg (tLst tNil) (gName 2))
    (tSeq (tWhile (tTest (tOp (rNeY K) (tVar 1) (tLst tNil))) (tSeq (tAsg (tBM0 K "list" rPop (tVar 1)) (gTup K 2 (gCons (gName 3) (gCons (gName 4) gNil))))
    (tSeq (tDrop (tBM K "list" rAppend (tVar 2) (tCons (tTup (tCons (tVar 3) (tCons (tVar 4) tNil))) tNil)))
    (tSeq (tAsg (tLst tNil) (gName 5))
    (tSeq (tIfS (tB (tCB (rIsi K) (tCons (tVar 4) (tCons (tC (.ty "list")) tNil)))) (tAsg (tLc (iRng1 (tCons (tCB (rLenX K) (tCons (tVar 4) tNil)) tNil)) (gName 6) tYes (tTup (tCons (tOp (rAdd K) (tVar 3) (tTup (tCons (tVar 6) tNil))) (tCons (tOp (rIxU K) (tVar 4) (tVar 6)) tNil))) [6]) (gName 5)) tNext)
    (tSeq (tIfS (tB (tCB (rIsi K) (tCons (tVar 4) (tCons (tC (.ty "dict")) tNil)))) (tAsg (tLc (iList K (tCB rSortedD (tCons (tVar 4) tNil))) (gName 7) tYes (tTup (tCons (tOp (rAdd K) (tVar 3) (tTup (tCons (tVar 7) tNil))) (tCons (tDGet (tVar 4) (tVar 7)) tNil))) [7]) (gName 5)) tNext)
    (tDrop (tBM K "list" rExtend (tVar 1) (tCons (tRevL K (tVar 5)) tNil)))))))))
    (tRet (tVar 2)))))

def t__law_led (K : PySem.W.Frag)  : TS :=
  (tSeq (tFor (iTup K (tVar 1)) (gName 2) (tAsg (tOp (rIxA K) (tVar 0) (tVar 2)) (gName 0)))
    (tRet (tVar 0)))

def t__law_at_right (K : PySem.W.Frag) (sp_worth_at : Sp) (sp__law_led : Sp) : TS :=
  (tSeq (tFor (iList K (tVar 1)) (gTup K 2 (gCons (gName 2) (gCons (gName 3) gNil))) (tIfS (tOr (tTest (tOp (rNeY K) (tCB (rReprP K) (tCons (tCall sp_worth_at [] E0 (tCons (tVar 0) (tCons (tVar 2) tNil))) tNil)) (tCB (rReprP K) (tCons (tVar 3) tNil)))) (tTest (tOp (rNeY K) (tCB (rReprP K) (tCons (tCall sp__law_led [] E0 (tCons (tVar 0) (tCons (tVar 2) tNil))) tNil)) (tCB (rReprP K) (tCons (tVar 3) tNil))))) (tRet (tC (.bl false))) tNext))
    (tRet (tC (.bl true))))

def t__law_case (K : PySem.W.Frag) (sp__law_take : Sp) (sp__law_worth : Sp) (sp__law_walk : Sp) (sp__law_at_right : Sp) (sp_inner : Sp) (sp_sort_of : Sp) (sp__law_sort : Sp) (sp_deep : Sp) (sp__law_deep : Sp) : TS :=
  (tSeq (tAsg (tCall sp__law_take [] E0 (tCons (tVar 0) (tCons (tC (.int 2)) tNil))) (gName 1))
    (tSeq (tAsg (tCall sp__law_worth [] E0 (tCons (tVar 0) (tCons (tOp (rAdd K) (tC (.int 1)) (tCall sp__law_take [] E0 (tCons (tVar 0) (tCons (tC (.int 4)) tNil)))) tNil))) (gName 2))
    (tSeq (tAsg (tCall sp__law_walk [] E0 (tCons (tVar 2) tNil)) (gName 3))
    (tSeq (tIfS (tAnd (tTest (tOp (rEqY K) (tVar 1) (tC (.int 1)))) (tNot (tB (tCall sp__law_at_right [] E0 (tCons (tVar 2) (tCons (tVar 3) tNil)))))) (tRet (tC (.bl false))) tNext)
    (tSeq (tAsg (tCall sp_inner [] E0 (tCons (tVar 2) tNil)) (gName 4))
    (tSeq (tIfS (tOr (tNot (tB (tCB (rIsi K) (tCons (tVar 4) (tCons (tC (.ty "list")) tNil))))) (tTest (tOp (rNeY K) (tCB (rReprP K) (tCons (tVar 4) tNil)) (tCB (rReprP K) (tCons (tVar 3) tNil))))) (tRet (tC (.bl false))) tNext)
    (tSeq (tIfS (tNot (tB (tCall sp__law_at_right [] E0 (tCons (tVar 2) (tCons (tVar 3) tNil))))) (tRet (tC (.bl false))) tNext)
    (tSeq (tFor (iList K (tSl (rSlU K) (tVar 3) tNoPart (tPart (tC (.int 40))))) (gTup K 2 (gCons (gName 5) (gCons (gName 6) gNil))) (tIfS (tOr (tTest (tOp (rNeY K) (tCall sp_sort_of [] E0 (tCons (tVar 6) tNil)) (tCall sp__law_sort [] E0 (tCons (tVar 6) tNil)))) (tTest (tOp (rNeY K) (tCB (rReprP K) (tCons (tCall sp_deep [] E0 (tCons (tVar 6) tNil)) tNil)) (tCB (rReprP K) (tCons (tCall sp__law_deep [] E0 (tCons (tVar 6) tNil)) tNil))))) (tRet (tC (.bl false))) tNext))
    (tRet (tOp (rEqY K) (tCB (rReprP K) (tCons (tCall sp_inner [] E0 (tCons (tVar 2) tNil)) tNil)) (tCB (rReprP K) (tCons (tVar 3) tNil))))))))))))

def t_law (K : PySem.W.Frag) (sp__law_case : Sp) (sp__law_box : Sp) (sp__law_cell : Sp) : TS :=
  (tSeq (tFor (iRng1 (tCons (tCB (rMax2) (tCons (tC (.int 2)) (tCons (tCB (rMin2) (tCons (tC (.int 8)) (tCons (tCB (rLenX K) (tCons (tVar 0) tNil)) tNil))) tNil))) tNil)) (gName 1) (tIfS (tNot (tB (tCall sp__law_case [] E0 (tCons (tCall sp__law_box [] E0 (tCons (tCall sp__law_cell [] E0 (tCons (tVar 0) (tCons (tVar 1) tNil))) tNil)) tNil)))) (tRet (tC (.bl false))) tNext))
    (tRet (tC (.bl true))))
def p_is_whole   : PS :=
  (pRet (pAndV (pOp Pu.oIsi (pConsV 0 (pCons (pC (.ty "int")) pNil))) (pNotV (pOp Pu.oIsi (pConsV 0 (pCons (pC (.ty "bool")) pNil))))))

def p_is_name   : PS :=
  (pSeq (pIf (pOr (pNot (pTest (pOp Pu.oIsi (pConsV 0 (pCons (pC (.ty "str")) pNil))))) (pNot (pTest (pChain Pu.oLe Pu.oLe (pC (.int 1)) (pOp Pu.oLen (pConsV 0 pNil)) (pC (.int 8)))))) (pRet (pC (.bl false))) pNext)
    (pRet (pOp Pu.oAll (pCons (pLc (piStr (pVar 0)) (pgName 1) pYes (pOp Pu.oIn (pConsV 1 (pCons (pC (.str "abcdefghijklmnopqrstuvwxyz")) pNil))) [1]) pNil))))

def p_is_number  (ps_is_whole : PSp) : PS :=
  (pRet (pAndV (pCall ps_is_whole (pCons (pVar 0) pNil)) (pChain Pu.oLt Pu.oLt (pOp Pu.oNeg (pCons (pC (.int 1000000000000000000)) pNil)) (pVar 0) (pC (.int 1000000000000000000)))))

def p_is_text   : PS :=
  (pSeq (pIf (pOr (pNot (pTest (pOp Pu.oIsi (pConsV 0 (pCons (pC (.ty "str")) pNil))))) (pTest (pOp Pu.oGt (pCons (pOp Pu.oLen (pConsV 0 pNil)) (pCons (pC (.int 40)) pNil))))) (pRet (pC (.bl false))) pNext)
    (pRet (pOp Pu.oAll (pCons (pLc (piStr (pVar 0)) (pgName 1) pYes (pOp Pu.oIn (pConsV 1 (pCons (pC (.str " !\"#$&'()*+,-./0123456789:;<=>?@ABCDEFGHIJKLMNOPQRSTUVWXYZ[\\]^_`abcdefghijklmnopqrstuvwxyz{|}~")) pNil))) [1]) pNil))))

def p_held_in  (ps_is_name : PSp) : PS :=
  (pSeq (pIf (pAnd (pTest (pOp Pu.oIsi (pConsV 0 (pCons (pC (.ty "list")) pNil)))) (pTest (pOp Pu.oLe (pCons (pOp Pu.oLen (pConsV 0 pNil)) (pCons (pC (.int 6)) pNil))))) (pRet (pVar 0)) pNext)
    (pSeq (pIf (pAnd (pTest (pOp Pu.oIsi (pConsV 0 (pCons (pC (.ty "dict")) pNil)))) (pAnd (pTest (pOp Pu.oLe (pCons (pOp Pu.oLen (pConsV 0 pNil)) (pCons (pC (.int 8)) pNil)))) (pTest (pOp Pu.oAll (pCons (pLc (piD .keys (pVar 0)) (pgName 1) pYes (pCall ps_is_name (pCons (pVar 1) pNil)) [1]) pNil))))) (pRet (pOp Pu.oListV (pConsV 0 pNil))) pNext)
    (pRet (pC .non))))

def p_deepness  (ps_is_number : PSp) (ps_is_text : PSp) (ps_held_in : PSp) (ps_deepness : PSp) : PS :=
  (pSeq (pIf (pOr (pTest (pOp Pu.oIsN (pConsV 0 (pCons (pC .non) pNil)))) (pOr (pTest (pOp Pu.oIsi (pConsV 0 (pCons (pC (.ty "bool")) pNil)))) (pOr (pTest (pCall ps_is_number (pCons (pVar 0) pNil))) (pTest (pCall ps_is_text (pCons (pVar 0) pNil)))))) (pRet (pC (.int 1))) pNext)
    (pSeq (pAsg (pCall ps_held_in (pCons (pVar 0) pNil)) (pgName 1))
    (pSeq (pIf (pTest (pOp Pu.oIsN (pConsV 1 (pCons (pC .non) pNil)))) (pRet (pC (.int 0))) pNext)
    (pSeq (pAsg (pLc (piList (pVar 1)) (pgName 3) pYes (pCall ps_deepness (pCons (pVar 3) pNil)) [3]) (pgName 2))
    (pSeq (pIf (pOr (pTest (pOp Pu.oIn (pCons (pC (.int 0)) (pConsV 2 pNil)))) (pTest (pOp Pu.oIn (pCons (pC (.int 4)) (pConsV 2 pNil))))) (pRet (pC (.int 0))) pNext)
    (pRet (pOp Pu.oAdd (pCons (pC (.int 1)) (pCons (pOp Pu.oMax (pCons (pOp Pu.oAdd (pConsV 2 (pCons (pLst (pCons (pC (.int 0)) pNil)) pNil))) pNil)) pNil)))))))))

def p_is_worth  (ps_deepness : PSp) : PS :=
  (pRet (pOp Pu.oGt (pCons (pCall ps_deepness (pCons (pVar 0) pNil)) (pCons (pC (.int 0)) pNil))))

def p_need_worth  (ps_is_worth : PSp) : PS :=
  (pIf (pNot (pTest (pCall ps_is_worth (pCons (pVar 0) pNil)))) pNever pNext)

def p_sort_word   : PS :=
  (pSeq (pIf (pTest (pOp Pu.oIsN (pConsV 0 (pCons (pC .non) pNil)))) (pRet (pC (.str "nothing"))) pNext)
    (pSeq (pIf (pTest (pOp Pu.oIsi (pConsV 0 (pCons (pC (.ty "bool")) pNil)))) (pRet (pC (.str "truth"))) pNext)
    (pSeq (pIf (pTest (pOp Pu.oIsi (pConsV 0 (pCons (pC (.ty "int")) pNil)))) (pRet (pC (.str "number"))) pNext)
    (pSeq (pIf (pTest (pOp Pu.oIsi (pConsV 0 (pCons (pC (.ty "str")) pNil)))) (pRet (pC (.str "text"))) pNext)
    (pSeq (pIf (pTest (pOp Pu.oIsi (pConsV 0 (pCons (pC (.ty "list")) pNil)))) (pRet (pC (.str "row"))) pNext)
    (pRet (pC (.str "fields"))))))))

def p_sort_of  (ps_need_worth : PSp) (ps_sort_word : PSp) : PS :=
  (pSeq (pDrop (pCall ps_need_worth (pCons (pVar 0) pNil)))
    (pRet (pCall ps_sort_word (pCons (pVar 0) pNil))))

def p_deep  (ps_need_worth : PSp) (ps_deepness : PSp) : PS :=
  (pSeq (pDrop (pCall ps_need_worth (pCons (pVar 0) pNil)))
    (pRet (pCall ps_deepness (pCons (pVar 0) pNil))))

def p_steps_in   : PS :=
  (pSeq (pIf (pTest (pOp Pu.oIsi (pConsV 0 (pCons (pC (.ty "list")) pNil)))) (pRet (pOp Pu.oListEn (pConsV 0 pNil))) pNext)
    (pSeq (pIf (pTest (pOp Pu.oIsi (pConsV 0 (pCons (pC (.ty "dict")) pNil)))) (pRet (pLc (piList (pOp Pu.oSortD (pConsV 0 pNil))) (pgName 1) pYes (pTup (pCons (pVar 1) (pCons (pOp Pu.oDGet (pConsV 0 (pConsV 1 pNil))) pNil))) [1])) pNext)
    (pRet (pLst pNil))))

def p_copy_of  (ps_copy_of : PSp) : PS :=
  (pSeq (pIf (pTest (pOp Pu.oIsi (pConsV 0 (pCons (pC (.ty "list")) pNil)))) (pRet (pLc (piList (pVar 0)) (pgName 1) pYes (pCall ps_copy_of (pCons (pVar 1) pNil)) [1])) pNext)
    (pSeq (pIf (pTest (pOp Pu.oIsi (pConsV 0 (pCons (pC (.ty "dict")) pNil)))) (pSeq (pOwn pDNew 2)
    (pSeq (pFor (piD .items (pVar 0)) (pgTup 2 (pgCons (pgName 3) (pgCons (pgName 1) pgNil))) (pAsg (pCall ps_copy_of (pCons (pVar 1) pNil)) (pgSetD 2 (pVar 3))))
    (pRet (pVar 2)))) pNext)
    (pRet (pVar 0))))

def p_gathered  (ps_copy_of : PSp) (ps_steps_in : PSp) (ps_gathered : PSp) : PS :=
  (pSeq (pOwn (pLst (pCons (pTup (pCons (pVar 1) (pCons (pCall ps_copy_of (pCons (pVar 0) pNil)) pNil))) pNil)) 2)
    (pSeq (pFor (piList (pCall ps_steps_in (pCons (pVar 0) pNil))) (pgTup 2 (pgCons (pgName 3) (pgCons (pgName 4) pgNil))) (pExtend 2 (pCall ps_gathered (pCons (pVar 4) (pCons (pOp Pu.oAdd (pConsV 1 (pCons (pTup (pCons (pVar 3) pNil)) pNil))) pNil)))))
    (pRet (pVar 2))))

def p_inner  (ps_need_worth : PSp) (ps_gathered : PSp) : PS :=
  (pSeq (pDrop (pCall ps_need_worth (pCons (pVar 0) pNil)))
    (pRet (pCall ps_gathered (pCons (pVar 0) (pCons (pTup pNil) pNil)))))

def p_leads  (ps_is_whole : PSp) : PS :=
  (pSeq (pIf (pTest (pOp Pu.oIsi (pConsV 0 (pCons (pC (.ty "list")) pNil)))) (pRet (pAndV (pCall ps_is_whole (pCons (pVar 1) pNil)) (pChain Pu.oLe Pu.oLt (pC (.int 0)) (pVar 1) (pOp Pu.oLen (pConsV 0 pNil))))) pNext)
    (pRet (pAndV (pOp Pu.oIsi (pConsV 0 (pCons (pC (.ty "dict")) pNil))) (pAndV (pOp Pu.oIsi (pConsV 1 (pCons (pC (.ty "str")) pNil))) (pOp Pu.oInA (pConsV 1 (pConsV 0 pNil)))))))

def p_worth_at  (ps_need_worth : PSp) (ps_leads : PSp) (ps_copy_of : PSp) : PS :=
  (pSeq (pDrop (pCall ps_need_worth (pCons (pVar 0) pNil)))
    (pSeq (pIf (pNot (pTest (pOp Pu.oIsi (pConsV 1 (pCons (pC (.ty "tuple")) pNil))))) pNever pNext)
    (pSeq (pAsg (pVar 0) (pgName 2))
    (pSeq (pFor (piTup (pVar 1)) (pgName 3) (pSeq (pIf (pNot (pTest (pCall ps_leads (pCons (pVar 2) (pCons (pVar 3) pNil))))) pNever pNext)
    (pAsg (pOp Pu.oIxA (pConsV 2 (pConsV 3 pNil))) (pgName 2))))
    (pRet (pCall ps_copy_of (pCons (pVar 2) pNil)))))))

def p__law_cell   : PS :=
  (pSeq (pIf (pTest (pOp Pu.oLt (pConsV 1 (pCons (pOp Pu.oLen (pConsV 0 pNil)) pNil)))) (pRet (pOp Pu.oIx (pConsV 0 (pConsV 1 pNil)))) pNext)
    (pRet (pOp Pu.oAdd (pCons (pOp Pu.oMul (pCons (pC (.int 7919)) (pConsV 1 pNil))) (pCons (pC (.int 31)) pNil)))))

def p__law_box   : PS :=
  (pRet (pLst (pCons (pOp Pu.oMax2 (pCons (pC (.int 0)) (pCons (pOp Pu.oSub (pConsV 0 (pCons (pOp Pu.oPow (pCons (pC (.int 10)) (pCons (pC (.int 18)) pNil))) pNil))) pNil))) (pCons (pOp Pu.oMod (pConsV 0 (pCons (pC (.int 2147483647)) pNil))) (pCons (pC (.int 0)) pNil)))))

def p__law_take   : PS :=
  (pSeq (pIf (pTest (pOp Pu.oGt (pCons (pOp Pu.oIx (pConsV 0 (pCons (pC (.int 0)) pNil))) (pCons (pC (.int 0)) pNil)))) (pSeq (pAsg (pOp Pu.oMod (pCons (pOp Pu.oIx (pConsV 0 (pCons (pC (.int 0)) pNil))) (pConsV 1 pNil))) (pgName 2))
    (pSeq (pAsg (pOp Pu.oDiv (pCons (pOp Pu.oIx (pConsV 0 (pCons (pC (.int 0)) pNil))) (pConsV 1 pNil))) (pgSetL 0 (pC (.int 0))))
    (pRet (pVar 2)))) pNext)
    (pSeq (pAsg (pOp Pu.oAdd (pCons (pOp Pu.oIx (pConsV 0 (pCons (pC (.int 2)) pNil))) (pCons (pC (.int 1)) pNil))) (pgSetL 0 (pC (.int 2))))
    (pSeq (pAsg (pOp Pu.oMod (pCons (pOp Pu.oPow (pCons (pOp Pu.oAdd (pCons (pOp Pu.oAdd (pCons (pOp Pu.oIx (pConsV 0 (pCons (pC (.int 1)) pNil))) (pCons (pOp Pu.oMul (pCons (pC (.int 7919)) (pCons (pOp Pu.oIx (pConsV 0 (pCons (pC (.int 2)) pNil))) pNil))) pNil))) (pCons (pC (.int 17)) pNil))) (pCons (pC (.int 5)) pNil))) (pCons (pC (.int 2147483629)) pNil))) (pgName 3))
    (pSeq (pAsg (pOp Pu.oMod (pCons (pOp Pu.oPow (pCons (pOp Pu.oAdd (pCons (pOp Pu.oMul (pConsV 3 (pCons (pOp Pu.oAdd (pCons (pC (.int 16807)) (pCons (pOp Pu.oIx (pConsV 0 (pCons (pC (.int 2)) pNil))) pNil))) pNil))) (pCons (pC (.int 11)) pNil))) (pCons (pC (.int 3)) pNil))) (pCons (pC (.int 2147483587)) pNil))) (pgName 3))
    (pRet (pOp Pu.oMod (pCons (pOp Pu.oDiv (pConsV 3 (pCons (pC (.int 8)) pNil))) (pConsV 1 pNil))))))))

def p__law_signs   : PS :=
  (pRet (pC (.str " !\"#$&'()*+,-./0123456789:;<=>?@ABCDEFGHIJKLMNOPQRSTUVWXYZ[\\]^_`abcdefghijklmnopqrstuvwxyz{|}~")))

def p__law_number  (ps__law_take : PSp) : PS :=
  (pSeq (pAsg (pCall ps__law_take (pConsV 0 (pCons (pC (.int 6)) pNil))) (pgName 1))
    (pSeq (pIf (pTest (pOp Pu.oLt (pConsV 1 (pCons (pC (.int 2)) pNil)))) (pRet (pOp Pu.oSub (pCons (pCall ps__law_take (pConsV 0 (pCons (pC (.int 9)) pNil))) (pCons (pC (.int 4)) pNil)))) pNext)
    (pSeq (pIf (pTest (pOp Pu.oEq (pConsV 1 (pCons (pC (.int 2)) pNil)))) (pRet (pOp Pu.oMul (pCons (pOp Pu.oIx (pCons (pLst (pCons (pC (.int 1)) (pCons (pOp Pu.oNeg (pCons (pC (.int 1)) pNil)) pNil))) (pCons (pCall ps__law_take (pConsV 0 (pCons (pC (.int 2)) pNil))) pNil))) (pCons (pOp Pu.oSub (pCons (pOp Pu.oSub (pCons (pOp Pu.oPow (pCons (pC (.int 10)) (pCons (pC (.int 18)) pNil))) (pCons (pC (.int 1)) pNil))) (pCons (pCall ps__law_take (pConsV 0 (pCons (pC (.int 3)) pNil))) pNil))) pNil)))) pNext)
    (pSeq (pAsg (pC (.int 0)) (pgName 2))
    (pSeq (pFor (piRng1 (pOp Pu.oAdd (pCons (pC (.int 1)) (pCons (pCall ps__law_take (pConsV 0 (pCons (pC (.int 3)) pNil))) pNil)))) (pgName 3) (pAsg (pOp Pu.oAdd (pCons (pOp Pu.oMul (pConsV 2 (pCons (pOp Pu.oPow (pCons (pC (.int 10)) (pCons (pC (.int 6)) pNil))) pNil))) (pCons (pCall ps__law_take (pConsV 0 (pCons (pOp Pu.oPow (pCons (pC (.int 10)) (pCons (pC (.int 6)) pNil))) pNil))) pNil))) (pgName 2)))
    (pRet (pOp Pu.oMul (pConsV 2 (pCons (pOp Pu.oIx (pCons (pLst (pCons (pC (.int 1)) (pCons (pOp Pu.oNeg (pCons (pC (.int 1)) pNil)) pNil))) (pCons (pCall ps__law_take (pConsV 0 (pCons (pC (.int 2)) pNil))) pNil))) pNil)))))))))

def p__law_text  (ps__law_signs : PSp) (ps__law_take : PSp) : PS :=
  (pSeq (pAsg (pCall ps__law_signs pNil) (pgName 1))
    (pSeq (pAsg (pOp Pu.oIx (pCons (pLst (pCons (pCall ps__law_take (pConsV 0 (pCons (pC (.int 4)) pNil))) (pCons (pC (.int 40)) (pCons (pCall ps__law_take (pConsV 0 (pCons (pC (.int 41)) pNil))) pNil)))) (pCons (pCall ps__law_take (pConsV 0 (pCons (pC (.int 3)) pNil))) pNil))) (pgName 2))
    (pSeq (pAsg (pCall ps__law_take (pConsV 0 (pCons (pC (.int 94)) pNil))) (pgName 3))
    (pSeq (pAsg (pCall ps__law_take (pConsV 0 (pCons (pC (.int 9)) pNil))) (pgName 4))
    (pRet (pM Pu.oJoin (pC (.str "")) (pCons (pLc (piRng1 (pVar 2)) (pgName 5) pYes (pOp Pu.oIx (pConsV 1 (pCons (pOp Pu.oMod (pCons (pOp Pu.oAdd (pConsV 3 (pCons (pOp Pu.oMul (pConsV 4 (pConsV 5 pNil))) pNil))) (pCons (pC (.int 94)) pNil))) pNil))) [5]) pNil)))))))

def p__law_names  (ps__law_take : PSp) : PS :=
  (pSeq (pAsg (pC (.str "abcdefghijklmnopqrstuvwxyz")) (pgName 2))
    (pSeq (pAsg (pCall ps__law_take (pConsV 0 (pCons (pC (.int 3)) pNil))) (pgName 3))
    (pSeq (pAsg (pCall ps__law_take (pConsV 0 (pCons (pC (.int 26)) pNil))) (pgName 4))
    (pSeq (pAsg (pLc (piRng1 (pVar 1)) (pgName 6) pYes (pOp Pu.oIx (pConsV 2 (pCons (pOp Pu.oMod (pCons (pOp Pu.oAdd (pConsV 4 (pCons (pOp Pu.oMul (pCons (pC (.int 5)) (pConsV 6 pNil))) pNil))) (pCons (pC (.int 26)) pNil))) pNil))) [6]) (pgName 5))
    (pSeq (pIf (pTest (pOp Pu.oEq (pConsV 3 (pCons (pC (.int 1)) pNil)))) (pSeq (pAsg (pCall ps__law_take (pConsV 0 (pCons (pC (.int 8)) pNil))) (pgName 7))
    (pSeq (pAsg (pCall ps__law_take (pConsV 0 (pCons (pOp Pu.oAdd (pConsV 7 (pCons (pC (.int 1)) pNil))) pNil))) (pgName 8))
    (pSeq (pAsg (pM Pu.oJoin (pC (.str "")) (pCons (pLc (piRng1 (pVar 7)) (pgName 6) pYes (pOp Pu.oIx (pConsV 2 (pCons (pCall ps__law_take (pConsV 0 (pCons (pC (.int 26)) pNil))) pNil))) [6]) pNil)) (pgName 9))
    (pAsg (pLc (piList (pVar 5)) (pgName 10) pYes (pOp Pu.oAdd (pCons (pOp Pu.oAdd (pCons (pSlV 9 pNoPart (pPart (pVar 8))) (pConsV 10 pNil))) (pCons (pSlV 9 (pPart (pVar 8)) pNoPart) pNil))) [10]) (pgName 5))))) pNext)
    (pSeq (pIf (pTest (pOp Pu.oEq (pConsV 3 (pCons (pC (.int 2)) pNil)))) (pAsg (pLc (piRng1 (pVar 1)) (pgName 6) pYes (pOp Pu.oMul (pCons (pOp Pu.oIx (pConsV 2 (pConsV 4 pNil))) (pCons (pOp Pu.oAdd (pCons (pC (.int 1)) (pConsV 6 pNil))) pNil))) [6]) (pgName 5)) pNext)
    (pSeq (pAsg (pCall ps__law_take (pConsV 0 (pCons (pOp Pu.oAdd (pConsV 1 (pCons (pC (.int 1)) pNil))) pNil))) (pgName 8))
    (pRet (pOp Pu.oAdd (pCons (pSlV 5 (pPart (pVar 8)) pNoPart) (pCons (pSlV 5 pNoPart (pPart (pVar 8))) pNil)))))))))))

def p__law_worth  (ps__law_take : PSp) (ps__law_number : PSp) (ps__law_text : PSp) (ps__law_worth : PSp) (ps__law_names : PSp) : PS :=
  (pSeq (pAsg (pCall ps__law_take (pConsV 0 (pCons (pC (.int 9)) pNil))) (pgName 2))
    (pSeq (pIf (pTest (pOp Pu.oEq (pConsV 2 (pCons (pC (.int 0)) pNil)))) (pRet (pC .non)) pNext)
    (pSeq (pIf (pTest (pOp Pu.oEq (pConsV 2 (pCons (pC (.int 1)) pNil)))) (pRet (pOp Pu.oEq (pCons (pCall ps__law_take (pConsV 0 (pCons (pC (.int 2)) pNil))) (pCons (pC (.int 1)) pNil)))) pNext)
    (pSeq (pIf (pOr (pTest (pOp Pu.oEq (pConsV 2 (pCons (pC (.int 2)) pNil)))) (pAnd (pTest (pOp Pu.oEq (pConsV 1 (pCons (pC (.int 1)) pNil)))) (pTest (pOp Pu.oGt (pConsV 2 (pCons (pC (.int 5)) pNil)))))) (pRet (pCall ps__law_number (pConsV 0 pNil))) pNext)
    (pSeq (pIf (pOr (pTest (pOp Pu.oEq (pConsV 2 (pCons (pC (.int 3)) pNil)))) (pTest (pOp Pu.oEq (pConsV 1 (pCons (pC (.int 1)) pNil))))) (pRet (pCall ps__law_text (pConsV 0 pNil))) pNext)
    (pSeq (pAsg (pOp Pu.oIx (pCons (pLst (pCons (pCall ps__law_take (pConsV 0 (pCons (pC (.int 4)) pNil))) (pCons (pCall ps__law_take (pConsV 0 (pCons (pOp Pu.oIx (pCons (pLst (pCons (pC (.int 1)) (pCons (pC (.int 3)) (pCons (pC (.int 4)) (pCons (pC (.int 9)) pNil))))) (pCons (pOp Pu.oSub (pConsV 1 (pCons (pC (.int 1)) pNil))) pNil))) pNil))) pNil))) (pCons (pCall ps__law_take (pConsV 0 (pCons (pC (.int 2)) pNil))) pNil))) (pgName 3))
    (pSeq (pIf (pTest (pOp Pu.oLt (pConsV 2 (pCons (pC (.int 7)) pNil)))) (pRet (pLc (piRng1 (pOp Pu.oMin2 (pCons (pC (.int 6)) (pConsV 3 pNil)))) (pgName 4) pYes (pCall ps__law_worth (pConsV 0 (pCons (pOp Pu.oSub (pConsV 1 (pCons (pC (.int 1)) pNil))) pNil))) [4])) pNext)
    (pSeq (pOwn pDNew 5)
    (pSeq (pFor (piList (pCall ps__law_names (pConsV 0 (pCons (pVar 3) pNil)))) (pgName 6) (pAsg (pCall ps__law_worth (pConsV 0 (pCons (pOp Pu.oSub (pConsV 1 (pCons (pC (.int 1)) pNil))) pNil))) (pgSetD 5 (pVar 6))))
    (pRet (pVar 5)))))))))))

def p__law_sort   : PS :=
  (pSeq (pAsg (pLst (pCons (pOp Pu.oIsN (pConsV 0 (pCons (pC .non) pNil))) (pCons (pOp Pu.oIsi (pConsV 0 (pCons (pC (.ty "bool")) pNil))) (pCons (pOp Pu.oIsi (pConsV 0 (pCons (pC (.ty "int")) pNil))) (pCons (pOp Pu.oIsi (pConsV 0 (pCons (pC (.ty "str")) pNil))) pNil))))) (pgName 1))
    (pSeq (pAsg (pLst (pCons (pC (.str "nothing")) (pCons (pC (.str "truth")) (pCons (pC (.str "number")) (pCons (pC (.str "text")) (pCons (pC (.str "row")) (pCons (pC (.str "fields")) pNil))))))) (pgName 2))
    (pRet (pOp Pu.oIx (pConsV 2 (pCons (pML Pu.oIndex (pOp Pu.oAdd (pConsV 1 (pCons (pLst (pCons (pOp Pu.oIsi (pConsV 0 (pCons (pC (.ty "list")) pNil))) (pCons (pC (.bl true)) pNil))) pNil))) (pCons (pC (.bl true)) pNil)) pNil))))))

def p__law_deep  (ps__law_deep : PSp) : PS :=
  (pSeq (pAsg (pLst pNil) (pgName 1))
    (pSeq (pIf (pTest (pOp Pu.oIsi (pConsV 0 (pCons (pC (.ty "list")) pNil)))) (pAsg (pVar 0) (pgName 1)) pNext)
    (pSeq (pIf (pTest (pOp Pu.oIsi (pConsV 0 (pCons (pC (.ty "dict")) pNil)))) (pAsg (pOp Pu.oListV (pConsV 0 pNil)) (pgName 1)) pNext)
    (pRet (pOp Pu.oAdd (pCons (pC (.int 1)) (pCons (pOp Pu.oMax (pCons (pOp Pu.oAdd (pCons (pLst (pCons (pC (.int 0)) pNil)) (pCons (pLc (piList (pVar 1)) (pgName 2) pYes (pCall ps__law_deep (pCons (pVar 2) pNil)) [2]) pNil))) pNil)) pNil)))))))

def p__law_walk   : PS :=
  (pSeq (pOwn (pLst (pCons (pTup (pCons (pTup pNil) (pCons (pVar 0) pNil))) pNil)) 1)
    (pSeq (pOwn (pLst pNil) 2)
    (pSeq (pWhile (pTest (pOp Pu.oNe (pConsV 1 (pCons (pLst pNil) pNil)))) (pSeq (pAsg (pPop 1) (pgTup 2 (pgCons (pgName 3) (pgCons (pgName 4) pgNil))))
    (pSeq (pAppend 2 (pTup (pCons (pVar 3) (pCons (pVar 4) pNil))))
    (pSeq (pAsg (pLst pNil) (pgName 5))
    (pSeq (pIf (pTest (pOp Pu.oIsi (pConsV 4 (pCons (pC (.ty "list")) pNil)))) (pAsg (pLc (piRng1 (pOp Pu.oLen (pConsV 4 pNil))) (pgName 6) pYes (pTup (pCons (pOp Pu.oAdd (pConsV 3 (pCons (pTup (pCons (pVar 6) pNil)) pNil))) (pCons (pOp Pu.oIx (pConsV 4 (pConsV 6 pNil))) pNil))) [6]) (pgName 5)) pNext)
    (pSeq (pIf (pTest (pOp Pu.oIsi (pConsV 4 (pCons (pC (.ty "dict")) pNil)))) (pAsg (pLc (piList (pOp Pu.oSortD (pConsV 4 pNil))) (pgName 7) pYes (pTup (pCons (pOp Pu.oAdd (pConsV 3 (pCons (pTup (pCons (pVar 7) pNil)) pNil))) (pCons (pOp Pu.oDGet (pConsV 4 (pConsV 7 pNil))) pNil))) [7]) (pgName 5)) pNext)
    (pExtend 1 (pOp Pu.oRev (pConsV 5 pNil)))))))))
    (pRet (pVar 2)))))

def p__law_led   : PS :=
  (pSeq (pFor (piTup (pVar 1)) (pgName 2) (pAsg (pOp Pu.oIxA (pConsV 0 (pConsV 2 pNil))) (pgName 0)))
    (pRet (pVar 0)))

def p__law_at_right  (ps_worth_at : PSp) (ps__law_led : PSp) : PS :=
  (pSeq (pFor (piList (pVar 1)) (pgTup 2 (pgCons (pgName 2) (pgCons (pgName 3) pgNil))) (pIf (pOr (pTest (pOp Pu.oNe (pCons (pOp Pu.oRepr (pCons (pCall ps_worth_at (pCons (pVar 0) (pCons (pVar 2) pNil))) pNil)) (pCons (pOp Pu.oRepr (pConsV 3 pNil)) pNil)))) (pTest (pOp Pu.oNe (pCons (pOp Pu.oRepr (pCons (pCall ps__law_led (pCons (pVar 0) (pCons (pVar 2) pNil))) pNil)) (pCons (pOp Pu.oRepr (pConsV 3 pNil)) pNil))))) (pRet (pC (.bl false))) pNext))
    (pRet (pC (.bl true))))

def p__law_case  (ps__law_take : PSp) (ps__law_worth : PSp) (ps__law_walk : PSp) (ps__law_at_right : PSp) (ps_inner : PSp) (ps_sort_of : PSp) (ps__law_sort : PSp) (ps_deep : PSp) (ps__law_deep : PSp) : PS :=
  (pSeq (pAsg (pCall ps__law_take (pConsV 0 (pCons (pC (.int 2)) pNil))) (pgName 1))
    (pSeq (pAsg (pCall ps__law_worth (pConsV 0 (pCons (pOp Pu.oAdd (pCons (pC (.int 1)) (pCons (pCall ps__law_take (pConsV 0 (pCons (pC (.int 4)) pNil))) pNil))) pNil))) (pgName 2))
    (pSeq (pAsg (pCall ps__law_walk (pCons (pVar 2) pNil)) (pgName 3))
    (pSeq (pIf (pAnd (pTest (pOp Pu.oEq (pConsV 1 (pCons (pC (.int 1)) pNil)))) (pNot (pTest (pCall ps__law_at_right (pCons (pVar 2) (pCons (pVar 3) pNil)))))) (pRet (pC (.bl false))) pNext)
    (pSeq (pAsg (pCall ps_inner (pCons (pVar 2) pNil)) (pgName 4))
    (pSeq (pIf (pOr (pNot (pTest (pOp Pu.oIsi (pConsV 4 (pCons (pC (.ty "list")) pNil))))) (pTest (pOp Pu.oNe (pCons (pOp Pu.oRepr (pConsV 4 pNil)) (pCons (pOp Pu.oRepr (pConsV 3 pNil)) pNil))))) (pRet (pC (.bl false))) pNext)
    (pSeq (pIf (pNot (pTest (pCall ps__law_at_right (pCons (pVar 2) (pCons (pVar 3) pNil))))) (pRet (pC (.bl false))) pNext)
    (pSeq (pFor (piList (pSlV 3 pNoPart (pPart (pC (.int 40))))) (pgTup 2 (pgCons (pgName 5) (pgCons (pgName 6) pgNil))) (pIf (pOr (pTest (pOp Pu.oNe (pCons (pCall ps_sort_of (pCons (pVar 6) pNil)) (pCons (pCall ps__law_sort (pCons (pVar 6) pNil)) pNil)))) (pTest (pOp Pu.oNe (pCons (pOp Pu.oRepr (pCons (pCall ps_deep (pCons (pVar 6) pNil)) pNil)) (pCons (pOp Pu.oRepr (pCons (pCall ps__law_deep (pCons (pVar 6) pNil)) pNil)) pNil))))) (pRet (pC (.bl false))) pNext))
    (pRet (pOp Pu.oEq (pCons (pOp Pu.oRepr (pCons (pCall ps_inner (pCons (pVar 2) pNil)) pNil)) (pCons (pOp Pu.oRepr (pConsV 3 pNil)) pNil))))))))))))

def p_law  (ps__law_case : PSp) (ps__law_box : PSp) (ps__law_cell : PSp) : PS :=
  (pSeq (pFor (piRng1 (pOp Pu.oMax2 (pCons (pC (.int 2)) (pCons (pOp Pu.oMin2 (pCons (pC (.int 8)) (pCons (pOp Pu.oLen (pConsV 0 pNil)) pNil))) pNil)))) (pgName 1) (pIf (pNot (pTest (pCallN ps__law_case (pCall ps__law_box (pCons (pCall ps__law_cell (pCons (pVar 0) (pCons (pVar 1) pNil))) pNil))))) (pRet (pC (.bl false))) pNext))
    (pRet (pC (.bl true))))
end Pu

namespace Pu
open PySem PySem.Spec PyProof.Rows L2 He Hk
/-! ### how long a thing's text may be -/
def kFine : Key → Prop
  | .inl i => i.natAbs < 10 ^ 120
  | .inr z => z.length ≤ 1000 ∧ Cs (· < 0x110000) z
def kCost : Key → Nat
  | .inl _ => 125
  | .inr z => 10 * z.length + 2
mutual
def T.Fine : T → Prop
  | .non => True
  | .bl _ => True
  | .int i => i.natAbs < 10 ^ 120
  | .str z => z.length ≤ 1000 ∧ Cs (· < 0x110000) z
  | .lst xs => T.FineL xs
  | .tup xs => T.FineL xs
  | .dct kvs => T.FineK kvs
  | _ => False
def T.FineL : List T → Prop
  | [] => True
  | t :: r => t.Fine ∧ T.FineL r
def T.FineK : List (Key × T) → Prop
  | [] => True
  | (k, t) :: r => kFine k ∧ t.Fine ∧ T.FineK r
end
mutual
def T.cost : T → Nat
  | .non => 5
  | .bl _ => 5
  | .int _ => 125
  | .str z => 10 * z.length + 2
  | .lst xs => 4 + T.costL xs
  | .tup xs => 4 + T.costL xs
  | .dct kvs => 4 + T.costK kvs
  | _ => 5
def T.costL : List T → Nat
  | [] => 0
  | t :: r => t.cost + 2 + T.costL r
def T.costK : List (Key × T) → Nat
  | [] => 0
  | (k, t) :: r => kCost k + t.cost + 4 + T.costK r
end
mutual
/-- how many lists, tuples, dicts are about its innermost -/
def T.deep : T → Nat
  | .lst xs => 1 + T.deepL xs
  | .tup xs => 1 + T.deepL xs
  | .dct kvs => 1 + T.deepK kvs
  | _ => 0
def T.deepL : List T → Nat
  | [] => 0
  | t :: r => max t.deep (T.deepL r)
def T.deepK : List (Key × T) → Nat
  | [] => 0
  | (_, t) :: r => max t.deep (T.deepK r)
end
theorem log_fine {i : Int} (h : i.natAbs < 10 ^ 120) : i.natAbs.log2 < 1920 := by
  by_cases z : i.natAbs = 0
  · rw [z]; decide
  · refine (Nat.log2_lt z).mpr (Nat.lt_trans h (by decide +kernel))
theorem int_text {i : Int} (h : i.natAbs < 10 ^ 120) : (Str.ofString (toString i)).length ≤ 125 := by
  have e := int_text_length_le10 (a := i) (k := 120) (by decide) h
  rw [PySem.ofString_length]
  omega
theorem str_text {z : Str} (hc : Cs (· < 0x110000) z) : (reprText z).length ≤ 10 * z.length + 2 := StrLaws.reprText_len z fun c h => Nat.lt_trans (hc c h) (by decide)
theorem k_show {k : Key} (h : kFine k) : (kD k).showable = true ∧ (kD k).shown.length ≤ kCost k := by
  cases k with
  | inl i => exact ⟨decide_eq_true (log_fine h), int_text h⟩
  | inr z => exact ⟨rfl, str_text h.2⟩
theorem listText_len (ts : List Str) : (listText ts).length ≤ 4 + (ts.map (·.length + 2)).sum := by
  have key : ∀ (ts : List Str) (k : Nat) (acc : Str), (textFrom k acc ts).length ≤ acc.length + (ts.map (·.length + 2)).sum := by
    intro ts
    induction ts with
    | nil => intro k acc; exact Nat.le_refl _
    | cons t r ih =>
      intro k acc
      have q := ih (k + 1) (acc ++ (if k > 0 then ", " else "" : String) ++ t)
      have e : (acc ++ (if k > 0 then ", " else "" : String) ++ t).length ≤ acc.length + 2 + t.length := by
        rw [str_app, str_app]
        have : (Str.ofString (if k > 0 then ", " else "")).length ≤ 2 := by split <;> decide
        omega
      show (textFrom (k + 1) _ r).length ≤ _
      rw [List.map_cons, List.sum_cons]
      omega
  have q := key ts 0 "["
  unfold listText
  rw [str_app]
  have e1 : (Str.ofString "[").length = 1 := rfl
  have e2 : (Str.ofString "]").length = 1 := rfl
  omega
theorem join_len (ts : List Str) : (Str.join ", " ts).length ≤ (ts.map (·.length + 2)).sum := by
  by_cases h : ts = []
  · subst h; decide
  · have e := join_length_add ts h
    have p : piled ts = (ts.map (·.length + 2)).sum := by
      clear h e
      induction ts with
      | nil => rfl
      | cons t r ih => rw [List.map_cons, List.sum_cons, ← ih]; simp [piled]
    omega
theorem tupleText_len (ts : List Str) : (tupleText ts).length ≤ 4 + (ts.map (·.length + 2)).sum := by
  have q := join_len ts
  unfold tupleText
  rw [str_app, str_app]
  have e1 : (Str.ofString "(").length = 1 := rfl
  have e2 : (Str.ofString (if (ts.length == 1) = true then ",)" else ")")).length ≤ 2 := by split <;> decide
  omega
theorem dictText_len (ts : List Str) : (dictText ts).length ≤ 4 + (ts.map (·.length + 2)).sum := by
  have q := join_len ts
  unfold dictText
  rw [str_app, str_app]
  have e1 : (Str.ofString "{").length = 1 := rfl
  have e2 : (Str.ofString "}").length = 1 := rfl
  omega
mutual
theorem T.shows : ∀ t : T, t.Fine → t.toD.showable = true ∧ t.toD.shown.length ≤ t.cost
  | .non, _ => ⟨rfl, by decide⟩
  | .bl b, _ => ⟨rfl, by cases b <;> decide⟩
  | .int i, h => ⟨decide_eq_true (log_fine h), int_text h⟩
  | .str z, h => ⟨rfl, str_text h.2⟩
  | .lst xs, h => by
    obtain ⟨h1, h2⟩ := T.showsL xs h
    exact ⟨h1, Nat.le_trans (listText_len _) (Nat.add_le_add_left h2 4)⟩
  | .tup xs, h => by
    obtain ⟨h1, h2⟩ := T.showsL xs h
    exact ⟨h1, Nat.le_trans (tupleText_len _) (Nat.add_le_add_left h2 4)⟩
  | .dct kvs, h => by
    obtain ⟨h1, h2⟩ := T.showsK kvs h
    exact ⟨h1, Nat.le_trans (dictText_len _) (Nat.add_le_add_left h2 4)⟩
  | .ty _, h => h.elim
  | .glo _, h => h.elim
  | .ins _ _, h => h.elim
  | .scr _, h => h.elim
theorem T.showsL : ∀ ts : List T, T.FineL ts → PyData.showableAll (T.toDs ts) = true ∧ ((PyData.shownAll (T.toDs ts)).map (·.length + 2)).sum ≤ T.costL ts
  | [], _ => ⟨rfl, Nat.le_refl _⟩
  | t :: r, h => by
    obtain ⟨h1, h2⟩ := T.shows t h.1
    obtain ⟨h3, h4⟩ := T.showsL r h.2
    refine ⟨?_, ?_⟩
    · show (t.toD.showable && PyData.showableAll (T.toDs r)) = true
      rw [h1, h3]; rfl
    · show (t.toD.shown.length + 2) + ((PyData.shownAll (T.toDs r)).map (·.length + 2)).sum ≤ t.cost + 2 + T.costL r
      omega
theorem T.showsK : ∀ ts : List (Key × T), T.FineK ts → PyData.showableKv (T.toDk ts) = true ∧ ((PyData.shownKv (T.toDk ts)).map (·.length + 2)).sum ≤ T.costK ts
  | [], _ => ⟨rfl, Nat.le_refl _⟩
  | (k, t) :: r, h => by
    obtain ⟨h0, h1, h5⟩ := h
    obtain ⟨h1, h2⟩ := T.shows t h1
    obtain ⟨h3, h4⟩ := T.showsK r h5
    obtain ⟨h6, h7⟩ := k_show h0
    refine ⟨?_, ?_⟩
    · show ((kD k).showable && t.toD.showable && PyData.showableKv (T.toDk r)) = true
      rw [h1, h3, h6]; rfl
    · show ((kD k).shown ++ Str.ofString ": " ++ t.toD.shown).length + 2 + ((PyData.shownKv (T.toDk r)).map (·.length + 2)).sum ≤ kCost k + t.cost + 4 + T.costK r
      rw [str_app, str_app]
      have e2 : (Str.ofString ": ").length = 2 := rfl
      omega
end
mutual
theorem T.depth_le : ∀ t : T, t.toD.depth ≤ t.deep + 1
  | .non => by decide
  | .bl b => by cases b <;> decide
  | .int i => by show (PyData.int i).depth ≤ 0 + 1; simp [PyData.depth]
  | .str z => by show (PyData.str z).depth ≤ 0 + 1; simp [PyData.depth]
  | .lst xs => by
    have q := T.depthL_le xs
    show (PyData.list (T.toDs xs)).depth ≤ 1 + T.deepL xs + 1
    simp only [PyData.depth]
    omega
  | .tup xs => by
    have q := T.depthL_le xs
    show (PyData.tuple (T.toDs xs)).depth ≤ 1 + T.deepL xs + 1
    simp only [PyData.depth]
    omega
  | .dct kvs => by
    have q := T.depthK_le kvs
    show (PyData.dict (T.toDk kvs)).depth ≤ 1 + T.deepK kvs + 1
    simp only [PyData.depth]
    omega
  | .ty _ => by show PyData.none.depth ≤ 0 + 1; decide
  | .glo _ => by show PyData.none.depth ≤ 0 + 1; decide
  | .ins _ _ => by show PyData.none.depth ≤ 0 + 1; decide
  | .scr _ => by show PyData.none.depth ≤ 0 + 1; decide
theorem T.depthL_le : ∀ ts : List T, PyData.depthAll (T.toDs ts) ≤ T.deepL ts + 1
  | [] => by decide
  | t :: r => by
    have q := T.depth_le t
    have q2 := T.depthL_le r
    show PyData.depthAll (t.toD :: T.toDs r) ≤ max t.deep (T.deepL r) + 1
    simp only [PyData.depthAll]
    omega
theorem T.depthK_le : ∀ ts : List (Key × T), PyData.depthKv (T.toDk ts) ≤ T.deepK ts + 1
  | [] => by decide
  | (k, t) :: r => by
    have q := T.depth_le t
    have q2 := T.depthK_le r
    have e : (kD k).depth ≤ 1 := by cases k <;> simp [kD, PyData.depth]
    show PyData.depthKv ((kD k, t.toD) :: T.toDk r) ≤ max t.deep (T.deepK r) + 1
    simp only [PyData.depthKv]
    omega
end
mutual
theorem T.fine_dat : ∀ t : T, t.Fine → t.dat true = true
  | .non, _ => rfl
  | .bl _, _ => rfl
  | .int _, _ => rfl
  | .str _, _ => rfl
  | .lst xs, h => T.fine_datL xs h
  | .tup xs, h => T.fine_datL xs h
  | .dct kvs, h => by
    show (true && T.datK true kvs) = true
    rw [T.fine_datK kvs h]; rfl
  | .ty _, h => h.elim
  | .glo _, h => h.elim
  | .ins _ _, h => h.elim
  | .scr _, h => h.elim
theorem T.fine_datL : ∀ ts : List T, T.FineL ts → T.datL true ts = true
  | [], _ => rfl
  | t :: r, h => by
    show (t.dat true && T.datL true r) = true
    rw [T.fine_dat t h.1, T.fine_datL r h.2]; rfl
theorem T.fine_datK : ∀ ts : List (Key × T), T.FineK ts → T.datK true ts = true
  | [], _ => rfl
  | (k, t) :: r, h => by
    show (t.dat true && T.datK true r) = true
    rw [T.fine_dat t h.2.1, T.fine_datK r h.2.2]; rfl
end
theorem shows_of {t : T} (h : t.Fine) (hd : t.deep ≤ 30) (hc : t.cost ≤ 16000000) : Shows t := by
  obtain ⟨h1, h2⟩ := T.shows t h
  exact ⟨T.fine_dat t h, h1, Nat.le_trans (T.depth_le t) (by omega), Nat.le_trans h2 hc⟩
/-! ### members -/
theorem fineL_mem : ∀ {ts : List T} {t : T}, T.FineL ts → t ∈ ts → t.Fine
  | [], _, _, h => by simp at h
  | a :: r, t, f, h => by
    rcases List.mem_cons.mp h with rfl | h
    · exact f.1
    · exact fineL_mem f.2 h
theorem fineL_of : ∀ {ts : List T}, (∀ t, t ∈ ts → t.Fine) → T.FineL ts
  | [], _ => trivial
  | a :: r, h => ⟨h a (by simp), fineL_of fun t ht => h t (by simp [ht])⟩
theorem deepL_mem : ∀ {ts : List T} {t : T}, t ∈ ts → t.deep ≤ T.deepL ts
  | [], _, h => by simp at h
  | a :: r, t, h => by
    show t.deep ≤ max a.deep (T.deepL r)
    rcases List.mem_cons.mp h with rfl | h
    · omega
    · have := deepL_mem h; omega
theorem deepL_le : ∀ {ts : List T} {n : Nat}, (∀ t, t ∈ ts → t.deep ≤ n) → T.deepL ts ≤ n
  | [], n, _ => Nat.zero_le _
  | a :: r, n, h => by
    show max a.deep (T.deepL r) ≤ n
    have h1 := h a (by simp)
    have h2 := deepL_le (ts := r) fun t ht => h t (by simp [ht])
    omega
theorem fineK_vals : ∀ {kvs : List (Key × T)}, T.FineK kvs → T.FineL (kvs.map (·.2))
  | [], _ => trivial
  | (_, _) :: _, f => ⟨f.2.1, fineK_vals f.2.2⟩
theorem fineK_keys : ∀ {kvs : List (Key × T)} {k : Key}, T.FineK kvs → k ∈ kvs.map (·.1) → kFine k
  | [], _, _, h => by simp at h
  | (k', t) :: r, k, f, h => by
    rw [List.map_cons] at h
    rcases List.mem_cons.mp h with rfl | h
    · exact f.1
    · exact fineK_keys f.2.2 h
theorem deepK_vals : ∀ kvs : List (Key × T), T.deepL (kvs.map (·.2)) = T.deepK kvs
  | [] => rfl
  | (k, t) :: r => by
    show max t.deep (T.deepL (r.map (·.2))) = max t.deep (T.deepK r)
    rw [deepK_vals r]
/-! ### dicts whose keys differ -/
mutual
def T.Uq : T → Prop
  | .lst xs => T.UqL xs
  | .tup xs => T.UqL xs
  | .dct kvs => (kvs.map (·.1)).Nodup ∧ T.UqK kvs
  | _ => True
def T.UqL : List T → Prop
  | [] => True
  | t :: r => t.Uq ∧ T.UqL r
def T.UqK : List (Key × T) → Prop
  | [] => True
  | (_, t) :: r => t.Uq ∧ T.UqK r
end
theorem uqL_mem : ∀ {ts : List T} {t : T}, T.UqL ts → t ∈ ts → t.Uq
  | [], _, _, h => by simp at h
  | a :: r, t, f, h => by
    rcases List.mem_cons.mp h with rfl | h
    · exact f.1
    · exact uqL_mem f.2 h
theorem uqL_of : ∀ {ts : List T}, (∀ t, t ∈ ts → t.Uq) → T.UqL ts
  | [], _ => trivial
  | a :: r, h => ⟨h a (by simp), uqL_of fun t ht => h t (by simp [ht])⟩
theorem uqK_mem : ∀ {ts : List (Key × T)} {kv : Key × T}, T.UqK ts → kv ∈ ts → kv.2.Uq
  | [], _, _, h => by simp at h
  | (k, a) :: r, kv, f, h => by
    rcases List.mem_cons.mp h with rfl | h
    · exact f.1
    · exact uqK_mem f.2 h
theorem uqK_of : ∀ {ts : List (Key × T)}, (∀ kv, kv ∈ ts → kv.2.Uq) → T.UqK ts
  | [], _ => trivial
  | (k, a) :: r, h => ⟨h (k, a) (by simp), uqK_of fun t ht => h t (by simp [ht])⟩
theorem fineK_mem : ∀ {ts : List (Key × T)} {kv : Key × T}, T.FineK ts → kv ∈ ts → kFine kv.1 ∧ kv.2.Fine
  | [], _, _, h => by simp at h
  | (k, a) :: r, kv, f, h => by
    rcases List.mem_cons.mp h with rfl | h
    · exact ⟨f.1, f.2.1⟩
    · exact fineK_mem f.2.2 h
theorem fineK_of : ∀ {kvs : List (Key × T)}, (∀ kv, kv ∈ kvs → kFine kv.1 ∧ kv.2.Fine) → T.FineK kvs
  | [], _ => trivial
  | (k, t) :: r, h => ⟨(h (k, t) (by simp)).1, (h (k, t) (by simp)).2, fineK_of fun kv hk => h kv (by simp [hk])⟩
theorem valT_mem {kvs : List (Key × T)} {k : Key} {t : T} (h : valT kvs k = some t) : (k, t) ∈ kvs := by
  unfold valT at h
  obtain ⟨kv, h1, rfl⟩ := Option.map_eq_some_iff.mp h
  have h2 := List.find?_some h1
  have h3 := List.mem_of_find?_eq_some h1
  have e : kv.1 = k := of_decide_eq_true h2
  subst e; exact h3
theorem valT_some {kvs : List (Key × T)} {k : Key} (h : k ∈ kvs.map (·.1)) : ∃ t, valT kvs k = some t := by
  induction kvs with
  | nil => simp at h
  | cons a r ih =>
    unfold valT
    rw [List.find?_cons]
    by_cases c : a.1 = k
    · simp only [c, decide_true]; exact ⟨a.2, rfl⟩
    · simp only [c, decide_false]
      rw [List.map_cons] at h
      exact ih ((List.mem_cons.mp h).resolve_left fun z => c z.symm)
theorem any_key {kvs : List (Key × T)} {k : Key} : (kvs.any fun kv => decide (kv.1 = k)) = true ↔ k ∈ kvs.map (·.1) := by
  rw [List.any_eq_true, List.mem_map]
  constructor
  · rintro ⟨kv, h1, h2⟩; exact ⟨kv, h1, of_decide_eq_true h2⟩
  · rintro ⟨kv, h1, h2⟩; exact ⟨kv, h1, decide_eq_true h2⟩
theorem putT_keys {kvs : List (Key × T)} {k : Key} {t : T} : (k ∈ kvs.map (·.1) ∧ (putT kvs k t).map (·.1) = kvs.map (·.1)) ∨ (k ∉ kvs.map (·.1) ∧ (putT kvs k t).map (·.1) = kvs.map (·.1) ++ [k]) := by
  unfold putT
  by_cases c : (kvs.any fun kv => decide (kv.1 = k)) = true
  · rw [if_pos c, List.map_map]
    refine .inl ⟨any_key.mp c, List.map_congr_left fun kv _ => ?_⟩
    show (if kv.1 = k then (kv.1, t) else kv).1 = kv.1
    split <;> rfl
  · rw [if_neg c, List.map_append]
    exact .inr ⟨fun z => c (any_key.mpr z), rfl⟩
theorem putT_nodup {kvs : List (Key × T)} {k : Key} {t : T} (h : (kvs.map (·.1)).Nodup) : ((putT kvs k t).map (·.1)).Nodup := by
  rcases putT_keys (kvs := kvs) (k := k) (t := t) with ⟨_, e⟩ | ⟨c, e⟩
  · rw [e]; exact h
  · rw [e]
    exact List.nodup_append.mpr ⟨h, by simp, fun a ha b hb => by rw [show b = k from by simpa using hb]; intro z; subst z; exact c ha⟩
theorem mergeT_nodup : ∀ {ms kvs : List (Key × T)}, (kvs.map (·.1)).Nodup → ((mergeT kvs ms).map (·.1)).Nodup
  | [], _, h => h
  | (_, _) :: ms, _, h => mergeT_nodup (ms := ms) (putT_nodup h)
/-- each entry is as Q says -/
def AllE (Q : Key → T → Prop) (kvs : List (Key × T)) : Prop := ∀ kv, kv ∈ kvs → Q kv.1 kv.2
theorem AllE.put {Q : Key → T → Prop} {kvs : List (Key × T)} {k : Key} {t : T} (h : AllE Q kvs) (ht : Q k t) : AllE Q (putT kvs k t) := by
  unfold putT
  intro kv hkv
  split at hkv
  · obtain ⟨kv0, h0, rfl⟩ := List.mem_map.mp hkv
    by_cases c : kv0.1 = k
    · rw [if_pos c]; rw [c]; exact ht
    · rw [if_neg c]; exact h kv0 h0
  · rcases List.mem_append.mp hkv with q | q
    · exact h kv q
    · rw [show kv = (k, t) from by simpa using q]; exact ht
theorem AllE.merge {Q : Key → T → Prop} : ∀ {ms kvs : List (Key × T)}, AllE Q ms → AllE Q kvs → AllE Q (mergeT kvs ms)
  | [], _, _, h => h
  | (k, t) :: ms, kvs, hm, h => AllE.merge (ms := ms) (fun kv hk => hm kv (by simp [hk])) (h.put (hm (k, t) (by simp)))
theorem putT_len {kvs : List (Key × T)} {k : Key} {t : T} : (putT kvs k t).length ≤ kvs.length + 1 := by
  unfold putT
  split
  · rw [List.length_map]; omega
  · rw [List.length_append]; exact Nat.le_refl _
theorem mergeT_len : ∀ {ms kvs : List (Key × T)}, (mergeT kvs ms).length ≤ kvs.length + ms.length
  | [], _ => Nat.le_refl _
  | (k, t) :: ms, kvs => by
    have h1 := mergeT_len (ms := ms) (kvs := putT kvs k t)
    have h2 := putT_len (kvs := kvs) (k := k) (t := t)
    show (mergeT (putT kvs k t) ms).length ≤ _
    rw [List.length_cons]; omega
theorem costK_put {kvs : List (Key × T)} {k : Key} {t x : T} (hn : (kvs.map (·.1)).Nodup) (h : valT kvs k = some x) : T.costK (putT kvs k t) + x.cost = T.costK kvs + t.cost := by
  have hm : (kvs.any fun kv => decide (kv.1 = k)) = true := List.any_eq_true.mpr ⟨_, valT_mem h, decide_eq_true rfl⟩
  unfold putT
  rw [if_pos hm]
  clear hm
  induction kvs with
  | nil => cases h
  | cons a r ih =>
    obtain ⟨ka, ta⟩ := a
    rw [List.map_cons, List.nodup_cons] at hn
    unfold valT at h
    rw [List.find?_cons] at h
    rw [List.map_cons]
    by_cases c : ka = k
    · subst c
      simp only [decide_true] at h
      cases h
      have er : (r.map fun kv => if kv.1 = ka then (kv.1, t) else kv) = r := by
        refine (List.map_congr_left fun kv hkv => ?_).trans (List.map_id r)
        rw [if_neg (fun z => hn.1 (List.mem_map.mpr ⟨kv, hkv, z⟩))]; rfl
      rw [if_pos rfl, er]
      show kCost ka + t.cost + 4 + T.costK r + ta.cost = kCost ka + ta.cost + 4 + T.costK r + t.cost
      omega
    · simp only [c, decide_false] at h
      have := ih hn.2 h
      rw [if_neg c]
      show kCost ka + ta.cost + 4 + T.costK _ + x.cost = kCost ka + ta.cost + 4 + T.costK r + t.cost
      omega
theorem cost_mem : ∀ {ts : List T} {t : T}, t ∈ ts → t.cost + 2 ≤ T.costL ts
  | [], _, h => by simp at h
  | a :: r, t, h => by
    show t.cost + 2 ≤ a.cost + 2 + T.costL r
    rcases List.mem_cons.mp h with rfl | h
    · omega
    · have := cost_mem h; omega
theorem costK_mem : ∀ {ts : List (Key × T)} {kv : Key × T}, kv ∈ ts → kv.2.cost + 4 ≤ T.costK ts
  | [], _, h => by simp at h
  | (k, a) :: r, kv, h => by
    show kv.2.cost + 4 ≤ kCost k + a.cost + 4 + T.costK r
    rcases List.mem_cons.mp h with rfl | h
    · simp only; omega
    · have := costK_mem h; omega
theorem costL_app : ∀ (xs ys : List T), T.costL (xs ++ ys) = T.costL xs + T.costL ys
  | [], ys => by show T.costL ys = 0 + T.costL ys; omega
  | a :: r, ys => by
    show a.cost + 2 + T.costL (r ++ ys) = a.cost + 2 + T.costL r + T.costL ys
    rw [costL_app r ys]; omega
theorem costL_le : ∀ {ts : List T} {c : Nat}, (∀ t, t ∈ ts → t.cost ≤ c) → T.costL ts ≤ ts.length * (c + 2)
  | [], c, _ => Nat.zero_le _
  | t :: r, c, h => by
    have h1 := h t (by simp)
    have h2 := costL_le (ts := r) fun y hy => h y (by simp [hy])
    show t.cost + 2 + T.costL r ≤ (r.length + 1) * (c + 2)
    rw [Nat.add_mul]; omega
theorem costK_le : ∀ {ts : List (Key × T)} {c k : Nat}, (∀ t, t ∈ ts → t.2.cost ≤ c ∧ kCost t.1 ≤ k) → T.costK ts ≤ ts.length * (c + k + 4)
  | [], c, k, _ => Nat.zero_le _
  | (a, t) :: r, c, k, h => by
    have h1 := h (a, t) (by simp)
    have h2 := costK_le (ts := r) fun y hy => h y (by simp [hy])
    show kCost a + t.cost + 4 + T.costK r ≤ (r.length + 1) * (c + k + 4)
    rw [Nat.add_mul]
    have := h1.1
    have := h1.2
    simp only at *
    omega
theorem deepK_mem {kvs : List (Key × T)} {kv : Key × T} (h : kv ∈ kvs) : kv.2.deep ≤ T.deepK kvs := by
  rw [← deepK_vals]
  exact deepL_mem (List.mem_map_of_mem h)
theorem deepK_le {kvs : List (Key × T)} {n : Nat} (h : ∀ kv, kv ∈ kvs → kv.2.deep ≤ n) : T.deepK kvs ≤ n := by
  rw [← deepK_vals]
  exact deepL_le fun t ht => by obtain ⟨kv, hkv, rfl⟩ := List.mem_map.mp ht; exact h kv hkv
/-- a thing: its text at most so long, at most so deep -/
structure Th (c d : Nat) (t : T) : Prop where
  fine : t.Fine
  uq : t.Uq
  cost : t.cost ≤ c
  deep : t.deep ≤ d
theorem Th.mono {c d c' d' : Nat} {t : T} (h : Th c d t) (h1 : c ≤ c') (h2 : d ≤ d') : Th c' d' t := ⟨h.fine, h.uq, Nat.le_trans h.cost h1, Nat.le_trans h.deep h2⟩
theorem Th.shows {c d : Nat} {t : T} (h : Th c d t) (h1 : c ≤ 16000000) (h2 : d ≤ 30) : Shows t := shows_of h.fine (Nat.le_trans h.deep h2) (Nat.le_trans h.cost h1)
theorem Th.lst {c d n : Nat} {ts : List T} (h : ∀ t, t ∈ ts → Th c d t) (hl : ts.length ≤ n) : Th (4 + n * (c + 2)) (1 + d) (.lst ts) :=
  ⟨fineL_of fun t ht => (h t ht).fine, uqL_of fun t ht => (h t ht).uq, Nat.add_le_add_left (Nat.le_trans (costL_le fun t ht => (h t ht).cost) (Nat.mul_le_mul_right _ hl)) 4, Nat.add_le_add_left (deepL_le fun t ht => (h t ht).deep) 1⟩
theorem Th.tup {c d n : Nat} {ts : List T} (h : ∀ t, t ∈ ts → Th c d t) (hl : ts.length ≤ n) : Th (4 + n * (c + 2)) (1 + d) (.tup ts) :=
  ⟨fineL_of fun t ht => (h t ht).fine, uqL_of fun t ht => (h t ht).uq, Nat.add_le_add_left (Nat.le_trans (costL_le fun t ht => (h t ht).cost) (Nat.mul_le_mul_right _ hl)) 4, Nat.add_le_add_left (deepL_le fun t ht => (h t ht).deep) 1⟩
theorem Th.dct {c d n k : Nat} {kvs : List (Key × T)} (h : AllE (fun a t => (kFine a ∧ kCost a ≤ k) ∧ Th c d t) kvs) (hn : (kvs.map (·.1)).Nodup) (hl : kvs.length ≤ n) : Th (4 + n * (c + k + 4)) (1 + d) (.dct kvs) :=
  ⟨fineK_of fun kv hkv => ⟨(h kv hkv).1.1, (h kv hkv).2.fine⟩, ⟨hn, uqK_of fun kv hkv => (h kv hkv).2.uq⟩, Nat.add_le_add_left (Nat.le_trans (costK_le fun kv hkv => ⟨(h kv hkv).2.cost, (h kv hkv).1.2⟩) (Nat.mul_le_mul_right _ hl)) 4, Nat.add_le_add_left (deepK_le fun kv hkv => (h kv hkv).2.deep) 1⟩
end Pu

namespace Pu
open PySem PySem.Spec PyProof.Rows L2 He Hk
local macro_rules | `(tactic| wtm_at "kb") => `(tactic| first | with_reducible exact kb_NoneType_int | with_reducible exact kb_NoneType_bool | with_reducible exact kb_NoneType_str | with_reducible exact kb_NoneType_list | with_reducible exact kb_NoneType_tuple | with_reducible exact kb_NoneType_dict | with_reducible exact kb_bool_int | with_reducible exact kb_bool_bool | with_reducible exact kb_bool_str | with_reducible exact kb_bool_list | with_reducible exact kb_bool_tuple | with_reducible exact kb_bool_dict | with_reducible exact kb_int_int | with_reducible exact kb_int_bool | with_reducible exact kb_int_str | with_reducible exact kb_int_list | with_reducible exact kb_int_tuple | with_reducible exact kb_int_dict | with_reducible exact kb_str_int | with_reducible exact kb_str_bool | with_reducible exact kb_str_str | with_reducible exact kb_str_list | with_reducible exact kb_str_tuple | with_reducible exact kb_str_dict | with_reducible exact kb_list_int | with_reducible exact kb_list_bool | with_reducible exact kb_list_str | with_reducible exact kb_list_list | with_reducible exact kb_list_tuple | with_reducible exact kb_list_dict | with_reducible exact kb_tuple_int | with_reducible exact kb_tuple_bool | with_reducible exact kb_tuple_str | with_reducible exact kb_tuple_list | with_reducible exact kb_tuple_tuple | with_reducible exact kb_tuple_dict | with_reducible exact kb_dict_int | with_reducible exact kb_dict_bool | with_reducible exact kb_dict_str | with_reducible exact kb_dict_list | with_reducible exact kb_dict_tuple | with_reducible exact kb_dict_dict)
local macro_rules | `(tactic| wtm_at "set") => `(tactic| ((try simp only [backE, reown, List.set_cons_zero, List.set_cons_succ, List.getElem?_cons_zero, List.getElem?_cons_succ]); rfl))
local macro_rules | `(tactic| wtm_at "side") => `(tactic| first | assumption | decide | omega)
local macro_rules | `(tactic| wtm_at "ln") => `(tactic| first | omega | exact len_one (by omega) | (refine len_cut ?_; wtm_at "ln") | (refine len_app ?_ ?_ <;> wtm_at "ln") | decide +kernel)
local macro_rules | `(tactic| wtm_at "size") => `(tactic| first | assumption | wtm_at "ln" | (refine Nat.le_trans (Nat.add_le_add (b := 8000000) (d := 8000000) ?_ ?_) (by decide) <;> wtm_at "ln"))
local macro_rules | `(tactic| wtm_at "w") => `(tactic| (first
  | (with_reducible refine w_op ?_)
  | (with_reducible refine w_cons ?_)
  | ((with_reducible refine' w_consV ?e1 ?_); (case e1 => exact trivial);)
  | (with_reducible refine w_c ?_)
  | (with_reducible refine w_nil ?_)
  | ((with_reducible refine' w_kO ?e1 ?_); (case e1 => rfl);)
  | ((with_reducible refine' w_var ?e1 ?_); (case e1 => rfl);)
  | (with_reducible refine w_seq ?_)
  | (with_reducible refine w_asg ?_)
  | ((with_reducible refine' w_name ?e1 ?e2 ?_); (case e1 => exact trivial); (case e2 => wtm_at "set");)
  | (with_reducible refine w_if ?_)
  | (with_reducible refine w_test ?_)
  | (with_reducible refine w_kB ?_)
  | (with_reducible refine w_call ?_)
  | ((with_reducible refine' w_kC ?e1 ?e2 ?_); (case e1 => rfl); (case e2 => rfl);)
  | ((with_reducible refine' w_kBk ?e1 ?_); (case e1 => wtm_at "set");)
  | (with_reducible refine w_ret ?_)
  | (with_reducible refine iteT' ?_)
  | (with_reducible refine iteF' ?_)
  | (with_reducible refine w_and ?_)
  | (with_reducible refine w_or ?_)
  | (with_reducible refine w_not ?_)
  | (with_reducible refine w_next ?_)
  | ((with_reducible refine' v_ixL ?e1 ?_); (case e1 => rfl);)
  | (with_reducible refine v_addI ?_)
  | ((with_reducible refine' v_eq ?e1 ?_); (case e1 => rfl);)
  | (with_reducible refine w_lst ?_)
  | ((with_reducible refine' w_kV2 ?e1 ?e2 ?_); (case e1 => rfl); (case e2 => exact Nat.le_of_ble_eq_true rfl);)
  | (with_reducible refine w_own ?_)
  | (with_reducible refine w_drop ?_)
  | (with_reducible refine w_andV ?_)
  | (with_reducible refine w_orV ?_)
  | (with_reducible refine w_notV ?_)
  | (with_reducible refine w_ifE ?_)
  | (with_reducible refine w_chain ?_)
  | (with_reducible refine w_yes ?_)
  | (with_reducible refine w_tup ?_)
  | (with_reducible refine w_dnew ?_)
  | (with_reducible refine w_disp ?_)
  | (with_reducible refine w_pnil ?_)
  | (with_reducible refine w_pcons ?_)
  | (with_reducible refine w_sl ?_)
  | (with_reducible refine w_noPart ?_)
  | (with_reducible refine w_part ?_)
  | (with_reducible refine w_kI ?_)
  | (with_reducible refine w_m ?_)
  | (with_reducible refine w_kM ?_)
  | (with_reducible refine w_piList ?_)
  | (with_reducible refine w_kL ?_)
  | (with_reducible refine w_piTup ?_)
  | (with_reducible refine w_kTu ?_)
  | (with_reducible refine w_piStr ?_)
  | (with_reducible refine w_kSt ?_)
  | (with_reducible refine w_piRng1 ?_)
  | (with_reducible refine w_piRng2 ?_)
  | (with_reducible refine w_piD ?_)
  | (with_reducible refine w_kD ?_)
  | (with_reducible refine w_for ?_)
  | (with_reducible refine w_lc ?_)
  | (with_reducible refine v_sub ?_)
  | (with_reducible refine v_neg ?_)
  | (with_reducible refine v_le ?_)
  | (with_reducible refine v_gt ?_)
  | (with_reducible refine v_ge ?_)
  | (with_reducible refine v_lt ?_)
  | (with_reducible refine v_ltS ?_)
  | (with_reducible refine v_inS ?_)
  | (with_reducible refine v_notInS ?_)
  | (with_reducible refine v_lenL ?_)
  | (with_reducible refine v_lenT ?_)
  | (with_reducible refine v_lenD ?_)
  | (with_reducible refine v_lenC ?_)
  | (with_reducible refine v_max2 ?_)
  | (with_reducible refine v_min2 ?_)
  | (with_reducible refine v_listD ?_)
  | (with_reducible refine v_listV ?_)
  | (with_reducible refine v_dictD ?_)
  | (with_reducible refine v_tupleL ?_)
  | (with_reducible refine v_tupleT ?_)
  | (with_reducible refine v_int1 ?_)
  | (with_reducible refine v_int2 ?_)
  | (with_reducible refine v_isN ?_)
  | (with_reducible refine v_notN ?_)
  | (with_reducible refine v_slL ?_)
  | (with_reducible refine v_slT ?_)
  | ((with_reducible refine' w_varO ?e1 ?e2 ?_); (case e1 => rfl); (case e2 => wtm_at "set");)
  | ((with_reducible refine' w_kMO ?e1 ?_); (case e1 => rfl);)
  | ((with_reducible refine' w_kOwn ?e1 ?_); (case e1 => exact trivial); (intro p' env' ee'; simp only [List.set_cons_zero, List.set_cons_succ] at ee'; subst ee'))
  | ((with_reducible refine' w_kDs ?e1 ?e2 ?_); (case e1 => rfl); (case e2 => exact Nat.le_of_ble_eq_true rfl);)
  | ((with_reducible refine' w_slV ?e1 ?_); (case e1 => exact trivial);)
  | ((with_reducible refine' w_kSl ?e1 ?_); (case e1 => rfl);)
  | ((with_reducible refine' w_setL ?e1 ?_); (case e1 => exact trivial);)
  | ((with_reducible refine' w_setD ?e1 ?_); (case e1 => exact trivial);)
  | ((with_reducible refine' w_kSetL ?e1 ?e2 ?e3 ?_); (case e1 => rfl); (case e2 => rfl); (case e3 => wtm_at "set");)
  | ((with_reducible refine' w_kSetD ?e1 ?e2 ?e3 ?e4 ?_); (case e1 => rfl); (case e2 => wtm_at "side"); (case e3 => rfl); (case e4 => wtm_at "set");)
  | ((with_reducible refine' w_append ?e1 ?_); (case e1 => rfl);)
  | ((with_reducible refine' w_kApp ?e1 ?e2 ?e3 ?_); (case e1 => rfl); (case e2 => wtm_at "side"); (case e3 => wtm_at "set");)
  | ((with_reducible refine' w_kR1 ?e1 ?_); (case e1 => omega);)
  | ((with_reducible refine' w_kR2 ?e1 ?_); (case e1 => omega);)
  | ((with_reducible refine' iteTrue ?e1 ?_); (case e1 => rfl);)
  | ((with_reducible refine' iteFalse ?e1 ?_); (case e1 => rfl);)
  | ((with_reducible refine' v_mod ?e1 ?_); (case e1 => wtm_at "side");)
  | ((with_reducible refine' v_mulI ?e1 ?_); (case e1 => first | exact s_mul (by omega) (by omega) | (unfold CMulW; decide +kernel));)
  | ((with_reducible refine' v_div ?e1 ?_); (case e1 => omega);)
  | ((with_reducible refine' v_powE ?e1 ?e2 ?_); (case e1 => first | decide | (refine ⟨by decide, by decide, ?_, ?_⟩ <;> omega)); (case e2 => ((try simp only [Int.reduceToNat, Int.reducePow]); rfl)))
  | ((with_reducible refine' v_ne ?e1 ?_); (case e1 => rfl);)
  | ((with_reducible refine' v_ixT ?e1 ?_); (case e1 => rfl);)
  | ((with_reducible refine' v_isi ?e1 ?e2 ?_); (case e1 => rfl); (case e2 => wtm_at "kb");)
  | ((with_reducible refine' v_lenS ?e1 ?_); (case e1 => wtm_at "size");)
  | ((with_reducible refine' v_addS ?e1 ?_); (case e1 => wtm_at "size");)
  | ((with_reducible refine' v_slS ?e1 ?_); (case e1 => wtm_at "size");)
  | ((with_reducible refine' v_ixS ?e1 ?e2 ?e3 ?_); (case e1 => wtm_at "size"); (case e2 => omega); (case e3 => first | omega | (simp only [show _ = _ from by assumption]; omega)); intro c' hc' hc2)
  | (with_reducible refine w_ml ?_)
  | (with_reducible refine w_kML ?_)
  | ((with_reducible refine' w_kMLO ?e1 ?_); (case e1 => rfl);)
  | (with_reducible refine w_callN ?_)
  | (with_reducible refine v_rev ?_)
  | (with_reducible refine v_listEn ?_)
  | (with_reducible refine v_ixAd ?_)
  | (with_reducible refine v_ixAl ?_)
  | (with_reducible refine v_ixAt ?_)
  | ((with_reducible refine' v_inAd ?e1 ?_); (case e1 => rfl);)
  | ((with_reducible refine' w_extend ?e1 ?_); (case e1 => rfl);)
  | ((with_reducible refine' w_kExt ?e1 ?e2 ?e3 ?_); (case e1 => rfl); (case e2 => wtm_at "side"); (case e3 => wtm_at "set");)))
/-- the box: what is left of the cell, its remainder, how often it was asked -/
def BoxT (t : T) (n : Nat) : Prop := ∃ a c m : Int, t = .lst [.int a, .int c, .int m] ∧ 0 ≤ a ∧ 0 ≤ c ∧ c < 2147483647 ∧ 0 ≤ m ∧ m ≤ n
theorem BoxT.mono {t : T} {n m : Nat} (h : BoxT t n) (hn : n ≤ m) : BoxT t m := by
  obtain ⟨a, c, k, e, h1, h2, h3, h4, h5⟩ := h
  exact ⟨a, c, k, e, h1, h2, h3, h4, by omega⟩
def ps_take : PSp := fun sl P => ∃ (b : Addr) (t : T) (m : Int) (n : Nat), sl = [.ref b t, .val (.int m)] ∧ BoxT t n ∧ n ≤ 1000000 ∧ 0 < m ∧ m ≤ 1000000 ∧
  ∀ (r : Int) (t' : T), 0 ≤ r → r < m → BoxT t' (n + 1) → P (.int r) [.ref b t', .val (.int m)]
theorem pure_take : ∀ sl P, ps_take sl P → p__law_take (pdOf false sl P) (sl ++ nones 2) := by
  rintro sl P ⟨b, t, m, n, rfl, ⟨a, c, k, rfl, ha, hc, hc2, hk, hk2⟩, hn, hm, hm2, q⟩
  show p__law_take _ [_, _, .none, .none]
  unfold p__law_take
  repeat wtm_at "w"
  refine iteB (fun c1 => ?_) (fun c1 => ?_)
  · repeat wtm_at "w"
    exact ⟨⟨rfl, trivial⟩, q _ _ (Int.emod_nonneg _ (by omega)) (Int.emod_lt_of_pos _ hm) ⟨a / m, c, k, rfl, Int.ediv_nonneg ha (by omega), hc, hc2, hk, by omega⟩⟩
  · repeat wtm_at "w"
    generalize hz : (c + 7919 * (k + 1) + 17) ^ 5 % 2147483629 = z
    have hz1 : 0 ≤ z := by rw [← hz]; exact Int.emod_nonneg _ (by decide)
    have hz2 : z < 2147483629 := by rw [← hz]; exact Int.emod_lt_of_pos _ (by decide)
    have h1 : z * (16807 + (k + 1)) ≤ 2147483629 * 2000000 := Int.mul_le_mul (by omega) (by omega) (by omega) (by decide)
    have h2 : 0 ≤ z * (16807 + (k + 1)) := Int.mul_nonneg hz1 (by omega)
    refine v_powE ⟨by decide, by decide, by omega, by omega⟩ rfl ?_
    repeat wtm_at "w"
    exact ⟨⟨rfl, trivial⟩, q _ _ (Int.emod_nonneg _ (by omega)) (Int.emod_lt_of_pos _ hm) ⟨a, c, k + 1, rfl, ha, hc, hc2, by omega, by omega⟩⟩
end Pu

namespace Pu
open PySem PySem.Spec PyProof.Rows L2 He Hk
local macro_rules | `(tactic| wtm_at "kb") => `(tactic| first | with_reducible exact kb_NoneType_int | with_reducible exact kb_NoneType_bool | with_reducible exact kb_NoneType_str | with_reducible exact kb_NoneType_list | with_reducible exact kb_NoneType_tuple | with_reducible exact kb_NoneType_dict | with_reducible exact kb_bool_int | with_reducible exact kb_bool_bool | with_reducible exact kb_bool_str | with_reducible exact kb_bool_list | with_reducible exact kb_bool_tuple | with_reducible exact kb_bool_dict | with_reducible exact kb_int_int | with_reducible exact kb_int_bool | with_reducible exact kb_int_str | with_reducible exact kb_int_list | with_reducible exact kb_int_tuple | with_reducible exact kb_int_dict | with_reducible exact kb_str_int | with_reducible exact kb_str_bool | with_reducible exact kb_str_str | with_reducible exact kb_str_list | with_reducible exact kb_str_tuple | with_reducible exact kb_str_dict | with_reducible exact kb_list_int | with_reducible exact kb_list_bool | with_reducible exact kb_list_str | with_reducible exact kb_list_list | with_reducible exact kb_list_tuple | with_reducible exact kb_list_dict | with_reducible exact kb_tuple_int | with_reducible exact kb_tuple_bool | with_reducible exact kb_tuple_str | with_reducible exact kb_tuple_list | with_reducible exact kb_tuple_tuple | with_reducible exact kb_tuple_dict | with_reducible exact kb_dict_int | with_reducible exact kb_dict_bool | with_reducible exact kb_dict_str | with_reducible exact kb_dict_list | with_reducible exact kb_dict_tuple | with_reducible exact kb_dict_dict)
local macro_rules | `(tactic| wtm_at "set") => `(tactic| ((try simp only [backE, reown, List.set_cons_zero, List.set_cons_succ, List.getElem?_cons_zero, List.getElem?_cons_succ]); rfl))
local macro_rules | `(tactic| wtm_at "side") => `(tactic| first | assumption | decide | omega)
local macro_rules | `(tactic| wtm_at "ln") => `(tactic| first | omega | exact len_one (by omega) | (refine len_cut ?_; wtm_at "ln") | (refine len_app ?_ ?_ <;> wtm_at "ln") | decide +kernel)
local macro_rules | `(tactic| wtm_at "size") => `(tactic| first | assumption | wtm_at "ln" | (refine Nat.le_trans (Nat.add_le_add (b := 8000000) (d := 8000000) ?_ ?_) (by decide) <;> wtm_at "ln"))
local macro_rules | `(tactic| wtm_at "w") => `(tactic| (first
  | (with_reducible refine w_op ?_)
  | (with_reducible refine w_cons ?_)
  | ((with_reducible refine' w_consV ?e1 ?_); (case e1 => exact trivial);)
  | (with_reducible refine w_c ?_)
  | (with_reducible refine w_nil ?_)
  | ((with_reducible refine' w_kO ?e1 ?_); (case e1 => rfl);)
  | ((with_reducible refine' w_var ?e1 ?_); (case e1 => rfl);)
  | (with_reducible refine w_seq ?_)
  | (with_reducible refine w_asg ?_)
  | ((with_reducible refine' w_name ?e1 ?e2 ?_); (case e1 => exact trivial); (case e2 => wtm_at "set");)
  | (with_reducible refine w_if ?_)
  | (with_reducible refine w_test ?_)
  | (with_reducible refine w_kB ?_)
  | (with_reducible refine w_call ?_)
  | ((with_reducible refine' w_kC ?e1 ?e2 ?_); (case e1 => rfl); (case e2 => rfl);)
  | ((with_reducible refine' w_kBk ?e1 ?_); (case e1 => wtm_at "set");)
  | (with_reducible refine w_ret ?_)
  | (with_reducible refine iteT' ?_)
  | (with_reducible refine iteF' ?_)
  | (with_reducible refine w_and ?_)
  | (with_reducible refine w_or ?_)
  | (with_reducible refine w_not ?_)
  | (with_reducible refine w_next ?_)
  | ((with_reducible refine' v_ixL ?e1 ?_); (case e1 => rfl);)
  | (with_reducible refine v_addI ?_)
  | ((with_reducible refine' v_eq ?e1 ?_); (case e1 => rfl);)
  | (with_reducible refine w_lst ?_)
  | ((with_reducible refine' w_kV2 ?e1 ?e2 ?_); (case e1 => rfl); (case e2 => exact Nat.le_of_ble_eq_true rfl);)
  | (with_reducible refine w_own ?_)
  | (with_reducible refine w_drop ?_)
  | (with_reducible refine w_andV ?_)
  | (with_reducible refine w_orV ?_)
  | (with_reducible refine w_notV ?_)
  | (with_reducible refine w_ifE ?_)
  | (with_reducible refine w_chain ?_)
  | (with_reducible refine w_yes ?_)
  | (with_reducible refine w_tup ?_)
  | (with_reducible refine w_dnew ?_)
  | (with_reducible refine w_disp ?_)
  | (with_reducible refine w_pnil ?_)
  | (with_reducible refine w_pcons ?_)
  | (with_reducible refine w_sl ?_)
  | (with_reducible refine w_noPart ?_)
  | (with_reducible refine w_part ?_)
  | (with_reducible refine w_kI ?_)
  | (with_reducible refine w_m ?_)
  | (with_reducible refine w_kM ?_)
  | (with_reducible refine w_piList ?_)
  | (with_reducible refine w_kL ?_)
  | (with_reducible refine w_piTup ?_)
  | (with_reducible refine w_kTu ?_)
  | (with_reducible refine w_piStr ?_)
  | (with_reducible refine w_kSt ?_)
  | (with_reducible refine w_piRng1 ?_)
  | (with_reducible refine w_piRng2 ?_)
  | (with_reducible refine w_piD ?_)
  | (with_reducible refine w_kD ?_)
  | (with_reducible refine w_for ?_)
  | (with_reducible refine w_lc ?_)
  | (with_reducible refine v_sub ?_)
  | (with_reducible refine v_neg ?_)
  | (with_reducible refine v_le ?_)
  | (with_reducible refine v_gt ?_)
  | (with_reducible refine v_ge ?_)
  | (with_reducible refine v_lt ?_)
  | (with_reducible refine v_ltS ?_)
  | (with_reducible refine v_inS ?_)
  | (with_reducible refine v_notInS ?_)
  | (with_reducible refine v_lenL ?_)
  | (with_reducible refine v_lenT ?_)
  | (with_reducible refine v_lenD ?_)
  | (with_reducible refine v_lenC ?_)
  | (with_reducible refine v_max2 ?_)
  | (with_reducible refine v_min2 ?_)
  | (with_reducible refine v_listD ?_)
  | (with_reducible refine v_listV ?_)
  | (with_reducible refine v_dictD ?_)
  | (with_reducible refine v_tupleL ?_)
  | (with_reducible refine v_tupleT ?_)
  | (with_reducible refine v_int1 ?_)
  | (with_reducible refine v_int2 ?_)
  | (with_reducible refine v_isN ?_)
  | (with_reducible refine v_notN ?_)
  | (with_reducible refine v_slL ?_)
  | (with_reducible refine v_slT ?_)
  | ((with_reducible refine' w_varO ?e1 ?e2 ?_); (case e1 => rfl); (case e2 => wtm_at "set");)
  | ((with_reducible refine' w_kMO ?e1 ?_); (case e1 => rfl);)
  | ((with_reducible refine' w_kOwn ?e1 ?_); (case e1 => exact trivial); (intro p' env' ee'; simp only [List.set_cons_zero, List.set_cons_succ] at ee'; subst ee'))
  | ((with_reducible refine' w_kDs ?e1 ?e2 ?_); (case e1 => rfl); (case e2 => exact Nat.le_of_ble_eq_true rfl);)
  | ((with_reducible refine' w_slV ?e1 ?_); (case e1 => exact trivial);)
  | ((with_reducible refine' w_kSl ?e1 ?_); (case e1 => rfl);)
  | ((with_reducible refine' w_setL ?e1 ?_); (case e1 => exact trivial);)
  | ((with_reducible refine' w_setD ?e1 ?_); (case e1 => exact trivial);)
  | ((with_reducible refine' w_kSetL ?e1 ?e2 ?e3 ?_); (case e1 => rfl); (case e2 => rfl); (case e3 => wtm_at "set");)
  | ((with_reducible refine' w_kSetD ?e1 ?e2 ?e3 ?e4 ?_); (case e1 => rfl); (case e2 => wtm_at "side"); (case e3 => rfl); (case e4 => wtm_at "set");)
  | ((with_reducible refine' w_append ?e1 ?_); (case e1 => rfl);)
  | ((with_reducible refine' w_kApp ?e1 ?e2 ?e3 ?_); (case e1 => rfl); (case e2 => wtm_at "side"); (case e3 => wtm_at "set");)
  | ((with_reducible refine' w_kR1 ?e1 ?_); (case e1 => omega);)
  | ((with_reducible refine' w_kR2 ?e1 ?_); (case e1 => omega);)
  | ((with_reducible refine' iteTrue ?e1 ?_); (case e1 => rfl);)
  | ((with_reducible refine' iteFalse ?e1 ?_); (case e1 => rfl);)
  | ((with_reducible refine' v_mod ?e1 ?_); (case e1 => wtm_at "side");)
  | ((with_reducible refine' v_mulI ?e1 ?_); (case e1 => first | exact s_mul (by omega) (by omega) | (unfold CMulW; decide +kernel));)
  | ((with_reducible refine' v_div ?e1 ?_); (case e1 => omega);)
  | ((with_reducible refine' v_powE ?e1 ?e2 ?_); (case e1 => first | decide | (refine ⟨by decide, by decide, ?_, ?_⟩ <;> omega)); (case e2 => ((try simp only [Int.reduceToNat, Int.reducePow]); rfl)))
  | ((with_reducible refine' v_ne ?e1 ?_); (case e1 => rfl);)
  | ((with_reducible refine' v_ixT ?e1 ?_); (case e1 => rfl);)
  | ((with_reducible refine' v_isi ?e1 ?e2 ?_); (case e1 => rfl); (case e2 => wtm_at "kb");)
  | ((with_reducible refine' v_lenS ?e1 ?_); (case e1 => wtm_at "size");)
  | ((with_reducible refine' v_addS ?e1 ?_); (case e1 => wtm_at "size");)
  | ((with_reducible refine' v_slS ?e1 ?_); (case e1 => wtm_at "size");)
  | ((with_reducible refine' v_ixS ?e1 ?e2 ?e3 ?_); (case e1 => wtm_at "size"); (case e2 => omega); (case e3 => first | omega | (simp only [show _ = _ from by assumption]; omega)); intro c' hc' hc2)
  | (with_reducible refine w_ml ?_)
  | (with_reducible refine w_kML ?_)
  | ((with_reducible refine' w_kMLO ?e1 ?_); (case e1 => rfl);)
  | (with_reducible refine w_callN ?_)
  | (with_reducible refine v_rev ?_)
  | (with_reducible refine v_listEn ?_)
  | (with_reducible refine v_ixAd ?_)
  | (with_reducible refine v_ixAl ?_)
  | (with_reducible refine v_ixAt ?_)
  | ((with_reducible refine' v_inAd ?e1 ?_); (case e1 => rfl);)
  | ((with_reducible refine' w_extend ?e1 ?_); (case e1 => rfl);)
  | ((with_reducible refine' w_kExt ?e1 ?e2 ?e3 ?_); (case e1 => rfl); (case e2 => wtm_at "side"); (case e3 => wtm_at "set");)))
/-- of a thing another one is told -/
def psF (D : T → Prop) (f : T → T) : PSp := fun sl P => ∃ t, sl = [.val t] ∧ D t ∧ P (f t) [.val t]
theorem u_F {D : T → Prop} {f : T → T} {t : T} {P : T → List Slot → Prop} (h : D t) (q : P (f t) [.val t]) : psF D f [.val t] P := ⟨t, rfl, h, q⟩
abbrev letters : Str := "abcdefghijklmnopqrstuvwxyz"
abbrev signs : Str := " !\"#$&'()*+,-./0123456789:;<=>?@ABCDEFGHIJKLMNOPQRSTUVWXYZ[\\]^_`abcdefghijklmnopqrstuvwxyz{|}~"
def allIn (z w : Str) : Bool := z.cps.toList.all fun c => decide (c ∈ w.cps.toList)
def wholeT : T → Bool
  | .int _ => true
  | _ => false
def okInt (i : Int) : Bool := decide (-1000000000000000000 < i) && decide (i < 1000000000000000000)
def okText (z : Str) : Bool := decide ((z.length : Int) ≤ 40) && allIn z signs
def okWord (z : Str) : Bool := decide (1 ≤ (z.length : Int)) && (decide ((z.length : Int) ≤ 8) && allIn z letters)
def okName : Key → Bool
  | .inl _ => false
  | .inr z => okWord z
def numberT : T → Bool
  | .int i => okInt i
  | _ => false
def nameT : T → Bool
  | .str z => okWord z
  | _ => false
def textT : T → Bool
  | .str z => okText z
  | _ => false
theorem nameT_k (k : Key) : nameT (kT k) = okName k := by cases k <;> rfl
theorem pure_whole : ∀ sl P, psF T.Fine (fun t => .bl (wholeT t)) sl P → p_is_whole (pdOf false sl P) (sl ++ nones 0) := by
  rintro sl P ⟨t, rfl, f, q⟩
  show p_is_whole _ [_]
  unfold p_is_whole
  cases t
  all_goals first | exact f.elim | (repeat wtm_at "w"); exact ⟨trivial, q⟩
theorem pure_number : ∀ sl P, psF T.Fine (fun t => .bl (numberT t)) sl P → p_is_number (psF T.Fine (fun t => .bl (wholeT t))) (pdOf false sl P) (sl ++ nones 0) := by
  rintro sl P ⟨t, rfl, f, q⟩
  show p_is_number _ _ [_]
  unfold p_is_number
  repeat wtm_at "w"
  refine u_F f ?_
  cases t
  case int i =>
    repeat wtm_at "w"
    refine iteB (fun c => ?_) (fun c => ?_)
    · repeat wtm_at "w"
      exact ⟨trivial, by show P (.bl (decide (i < 1000000000000000000))) _; have : okInt i = decide (i < 1000000000000000000) := by unfold okInt; rw [show decide (-1000000000000000000 < i) = true from c]; rfl
                         rw [← this]; exact q⟩
    · repeat wtm_at "w"
      exact ⟨trivial, by have : okInt i = false := by unfold okInt; rw [show decide (-1000000000000000000 < i) = false from c]; rfl
                         show P (.bl false) _; rw [← this]; exact q⟩
  all_goals first | exact f.elim | (repeat wtm_at "w"); exact ⟨trivial, q⟩
def sgT : T → Nat
  | .str z => z.cps.getD 0 0
  | _ => 0
theorem chT_len (z : Str) : (chT z).length = z.length := by unfold chT; rw [List.length_map, Array.length_toList]; rfl
theorem mem_chT {z : Str} {x : T} (h : x ∈ chT z) : ∃ c, c ∈ z.cps.toList ∧ x = .str ⟨#[c]⟩ := by
  unfold chT at h
  obtain ⟨c, hc, rfl⟩ := List.mem_map.mp h
  exact ⟨c, hc, rfl⟩
theorem all_map_id (z w : Str) : (z.cps.toList.map fun c => decide (c ∈ w.cps.toList)).all id = allIn z w := by unfold allIn; rw [List.all_map]; rfl
theorem ch_bools (z w : Str) : ((chT z).filter (fun _ => true)).map (fun x => T.bl (decide (sgT x ∈ w.cps.toList))) = (z.cps.toList.map fun c => decide (c ∈ w.cps.toList)).map T.bl := by
  unfold chT
  rw [List.filter_eq_self.mpr (fun _ _ => rfl), List.map_map, List.map_map]
  rfl
/-- all([sign in w for sign in z]) -/
theorem lc_signs {z w : Str} {env env0 : Env} {j : Nat} {vs : List Nat} {P : T → Env → Prop} (hz : z.length ≤ 1000) (e0 : wipeE env vs = env0) (hn : noRef env0 j) (hw : ∀ x, wipeE (env0.set j (.val x)) vs = env0) (hj : ∀ x, (env0.set j (.val x))[j]? = some (.val x))
    (h : P (.lst ((z.cps.toList.map fun c => decide (c ∈ w.cps.toList)).map T.bl)) env0) : LcK (pgName j) pYes (pOp oIn (pConsV j (pCons (pC (.str w)) pNil))) vs (chT z) env P := by
  refine lc_fun e0 (by rw [chT_len]; omega) (fun _ => true) (fun x => .bl (decide (sgT x ∈ w.cps.toList))) hn hw (fun x _ Q h => h) (fun x hx _ Q h => ?_) (by rw [ch_bools]; exact h)
  obtain ⟨c, hc, rfl⟩ := mem_chT hx
  have hh : has (env0.set j (.val (.str ⟨#[c]⟩))) j := by unfold has; rw [hj]; trivial
  have ht : tsOf (env0.set j (.val (.str ⟨#[c]⟩))) [.var j, .val (.str w)] = some [.str ⟨#[c]⟩, .str w] := by unfold tsOf; rw [hj]; rfl
  exact w_op (w_consV hh (w_cons (w_c (w_nil (w_kO ht (v_inS h))))))
theorem pure_name : ∀ sl P, psF T.Fine (fun t => .bl (nameT t)) sl P → p_is_name (pdOf false sl P) (sl ++ nones 1) := by
  rintro sl P ⟨t, rfl, f, q⟩
  show p_is_name _ [_, .none]
  unfold p_is_name
  cases t
  case str z =>
    have hz := f.1
    dsimp only at q
    have nm : ∀ a b : Bool, decide (1 ≤ (z.length : Int)) = a → decide ((z.length : Int) ≤ 8) = b → nameT (.str z) = (a && (b && allIn z letters)) := fun a b ha hb => by
      show okWord z = _; unfold okWord; rw [ha, hb]
    repeat wtm_at "w"
    refine iteB (fun c => ?_) (fun c => ?_)
    · repeat wtm_at "w"
      generalize hb : decide ((z.length : Int) ≤ 8) = b
      cases b
      · repeat wtm_at "w"
        exact ⟨trivial, by rw [nm _ _ c hb] at q; exact q⟩
      · repeat wtm_at "w"
        refine lc_signs (w := letters) (env0 := [_, _]) hz rfl trivial (fun _ => rfl) (fun _ => rfl) ?_
        repeat wtm_at "w"
        refine v_all ?_
        rw [all_map_id]
        exact ⟨trivial, by rw [nm _ _ c hb] at q; exact q⟩
    · repeat wtm_at "w"
      exact ⟨trivial, by rw [nm _ _ c rfl] at q; exact q⟩
  all_goals first | exact f.elim | (repeat wtm_at "w"); exact ⟨trivial, q⟩
theorem pure_text : ∀ sl P, psF T.Fine (fun t => .bl (textT t)) sl P → p_is_text (pdOf false sl P) (sl ++ nones 1) := by
  rintro sl P ⟨t, rfl, f, q⟩
  show p_is_text _ [_, .none]
  unfold p_is_text
  cases t
  case str z =>
    have hz := f.1
    dsimp only at q
    have nm : ∀ b : Bool, decide ((40 : Int) < z.length) = b → textT (.str z) = (!b && allIn z signs) := fun b hb => by
      show okText z = _
      unfold okText
      rw [← hb]
      congr 1
      by_cases c : (z.length : Int) ≤ 40
      · rw [decide_eq_true c, decide_eq_false (by omega)]; rfl
      · rw [decide_eq_false c, decide_eq_true (by omega)]; rfl
    repeat wtm_at "w"
    generalize hb : decide ((40 : Int) < z.length) = b
    cases b
    · repeat wtm_at "w"
      refine lc_signs (w := signs) (env0 := [_, _]) hz rfl trivial (fun _ => rfl) (fun _ => rfl) ?_
      repeat wtm_at "w"
      refine v_all ?_
      rw [all_map_id]
      exact ⟨trivial, by rw [nm _ hb] at q; exact q⟩
    · repeat wtm_at "w"
      exact ⟨trivial, by rw [nm _ hb] at q; exact q⟩
  all_goals first | exact f.elim | (repeat wtm_at "w"); exact ⟨trivial, q⟩
end Pu

namespace Pu
open PySem PySem.Spec PyProof.Rows L2 He Hk
/-! ### the plain law: how deep a thing is, by the program and by the law -/
def listMax (ns : List Int) : Int := ns.foldr max 0
/-- the depths of what is held -> the depth -/
def ofHeld (ds : List Int) : Int := if 0 ∈ ds ∨ 4 ∈ ds then 0 else 1 + listMax ds
mutual
def T.dp : T → Int
  | .non => 1
  | .bl _ => 1
  | .int i => if okInt i then 1 else 0
  | .str z => if okText z then 1 else 0
  | .lst xs => if xs.length ≤ 6 then ofHeld (T.dps xs) else 0
  | .tup _ => 0
  | .dct kvs => if (kvs.length ≤ 8 ∧ (kvs.map fun kv => okName kv.1).all id = true) then ofHeld (T.dpk kvs) else 0
  | _ => 0
def T.dps : List T → List Int
  | [] => []
  | t :: r => t.dp :: T.dps r
def T.dpk : List (Key × T) → List Int
  | [] => []
  | (_, t) :: r => t.dp :: T.dpk r
end
def lawHeld (ds : List Int) : Int := if 1 + listMax ds < 9 then 1 + listMax ds else 9
mutual
def T.ld : T → Int
  | .non => 1
  | .bl _ => 1
  | .int i => if okInt i then 1 else 9
  | .str z => if okText z then 1 else 9
  | .lst xs => if xs.length ≤ 6 then lawHeld (T.lds xs) else 9
  | .tup _ => 9
  | .dct kvs => if (kvs.length ≤ 8 ∧ (kvs.map fun kv => okName kv.1).all id = true) then lawHeld (T.ldk kvs) else 9
  | _ => 9
def T.lds : List T → List Int
  | [] => []
  | t :: r => t.ld :: T.lds r
def T.ldk : List (Key × T) → List Int
  | [] => []
  | (_, t) :: r => t.ld :: T.ldk r
end
/-- the two depths agree: either both tell 1..4, or none and at least five -/
def Agree (d l : Int) : Prop := (d = l ∧ 1 ≤ d ∧ d ≤ 4) ∨ (d = 0 ∧ 5 ≤ l ∧ l ≤ 9)
def Agrees : List Int → List Int → Prop
  | [], [] => True
  | d :: ds, l :: ls => Agree d l ∧ Agrees ds ls
  | _, _ => False
theorem max_nonneg : ∀ ds : List Int, 0 ≤ listMax ds
  | [] => Int.le_refl 0
  | d :: r => by
    have := max_nonneg r
    show 0 ≤ max d (listMax r)
    omega
theorem agrees_sum : ∀ {ds ls : List Int}, Agrees ds ls → ((0 ∈ ds ∨ 4 ∈ ds) ∧ 4 ≤ listMax ls) ∨ ((¬ (0 ∈ ds ∨ 4 ∈ ds)) ∧ listMax ds = listMax ls ∧ listMax ls ≤ 3)
  | [], [], _ => .inr ⟨by simp, rfl, by decide⟩
  | [], _ :: _, h => h.elim
  | _ :: _, [], h => h.elim
  | d :: ds, l :: ls, h => by
    obtain ⟨h1, h2⟩ := h
    have ih := agrees_sum h2
    have n1 := max_nonneg ds
    have n2 := max_nonneg ls
    have e1 : listMax (d :: ds) = max d (listMax ds) := rfl
    have e2 : listMax (l :: ls) = max l (listMax ls) := rfl
    rw [e1, e2]
    simp only [List.mem_cons]
    rcases ih with ⟨a, b⟩ | ⟨a, b, c⟩
    · left
      refine ⟨?_, by omega⟩
      rcases a with a | a
      · exact .inl (.inr a)
      · exact .inr (.inr a)
    · rcases h1 with ⟨f1, f2, f3⟩ | ⟨f1, f2, f3⟩
      · by_cases q : d = 4
        · left
          exact ⟨.inr (.inl q.symm), by omega⟩
        · right
          refine ⟨?_, by omega, by omega⟩
          rintro ((z | z) | (z | z))
          · omega
          · exact a (.inl z)
          · exact q z.symm
          · exact a (.inr z)
      · left
        exact ⟨.inl (.inl f1.symm), by omega⟩
theorem agree_held {ds ls : List Int} (h : Agrees ds ls) : Agree (ofHeld ds) (lawHeld ls) := by
  have n2 := max_nonneg ls
  unfold ofHeld lawHeld Agree
  rcases agrees_sum h with ⟨a, b⟩ | ⟨a, b, c⟩
  · rw [if_pos a]
    right
    split <;> omega
  · rw [if_neg a]
    left
    split <;> omega
mutual
theorem T.agree : ∀ t : T, Agree t.dp t.ld
  | .non => .inl ⟨rfl, by decide, by decide⟩
  | .bl _ => .inl ⟨rfl, by show (1 : Int) ≤ 1; decide, by show (1 : Int) ≤ 4; decide⟩
  | .int i => by
    show Agree (if okInt i then 1 else 0) (if okInt i then 1 else 9)
    cases okInt i
    · exact .inr ⟨rfl, by decide, by decide⟩
    · exact .inl ⟨rfl, by decide, by decide⟩
  | .str z => by
    show Agree (if okText z then 1 else 0) (if okText z then 1 else 9)
    cases okText z
    · exact .inr ⟨rfl, by decide, by decide⟩
    · exact .inl ⟨rfl, by decide, by decide⟩
  | .lst xs => by
    have q := T.agrees xs
    show Agree (if xs.length ≤ 6 then ofHeld (T.dps xs) else 0) (if xs.length ≤ 6 then lawHeld (T.lds xs) else 9)
    split
    · exact agree_held q
    · exact .inr ⟨rfl, by decide, by decide⟩
  | .tup _ => .inr ⟨rfl, by show (5 : Int) ≤ 9; decide, by show (9 : Int) ≤ 9; decide⟩
  | .dct kvs => by
    have q := T.agreek kvs
    show Agree (if (kvs.length ≤ 8 ∧ (kvs.map fun kv => okName kv.1).all id = true) then ofHeld (T.dpk kvs) else 0) (if (kvs.length ≤ 8 ∧ (kvs.map fun kv => okName kv.1).all id = true) then lawHeld (T.ldk kvs) else 9)
    split
    · exact agree_held q
    · exact .inr ⟨rfl, by decide, by decide⟩
  | .ty _ => .inr ⟨rfl, by show (5 : Int) ≤ 9; decide, by show (9 : Int) ≤ 9; decide⟩
  | .glo _ => .inr ⟨rfl, by show (5 : Int) ≤ 9; decide, by show (9 : Int) ≤ 9; decide⟩
  | .ins _ _ => .inr ⟨rfl, by show (5 : Int) ≤ 9; decide, by show (9 : Int) ≤ 9; decide⟩
  | .scr _ => .inr ⟨rfl, by show (5 : Int) ≤ 9; decide, by show (9 : Int) ≤ 9; decide⟩
theorem T.agrees : ∀ ts : List T, Agrees (T.dps ts) (T.lds ts)
  | [] => trivial
  | t :: r => ⟨T.agree t, T.agrees r⟩
theorem T.agreek : ∀ ts : List (Key × T), Agrees (T.dpk ts) (T.ldk ts)
  | [] => trivial
  | (_, t) :: r => ⟨T.agree t, T.agreek r⟩
end
theorem T.worth_eq (t : T) : decide (t.dp > 0) = decide (t.ld < 5) := by
  have h := T.agree t
  unfold Agree at h
  by_cases q : t.dp > 0
  · rw [decide_eq_true q, decide_eq_true (by omega)]
  · rw [decide_eq_false q, decide_eq_false (by omega)]
theorem maxL_app (ns : List Int) : maxL (ns ++ [0]) = listMax ns := by
  induction ns with
  | nil => rfl
  | cons n r ih =>
    have e : listMax (n :: r) = max n (listMax r) := rfl
    rw [e, ← ih]
    cases r with
    | nil => rfl
    | cons a r => rfl
theorem maxL_zero (ns : List Int) : maxL ([0] ++ ns) = listMax ns := by
  cases ns with
  | nil => rfl
  | cons n r =>
    have key : ∀ (l : List Int), l ≠ [] → max 0 (maxL l) = listMax l := by
      intro l
      induction l with
      | nil => intro h; exact absurd rfl h
      | cons a l ih =>
        intro _
        cases l with
        | nil => show max 0 a = max a 0; omega
        | cons b l =>
          have h1 := ih (by simp)
          have e : listMax (a :: b :: l) = max a (listMax (b :: l)) := rfl
          have e2 : maxL (a :: b :: l) = max a (maxL (b :: l)) := rfl
          rw [e, e2, ← h1]; omega
    show max 0 (maxL (n :: r)) = _
    exact key _ (by simp)
def heldT : T → Option (List T)
  | .lst xs => if xs.length ≤ 6 then some xs else none
  | .dct kvs => if (kvs.length ≤ 8 ∧ (kvs.map fun kv => okName kv.1).all id = true) then some (kvs.map (·.2)) else none
  | _ => none
theorem dps_map : ∀ ts : List T, T.dps ts = ts.map T.dp
  | [] => rfl
  | t :: r => by show t.dp :: T.dps r = t.dp :: r.map T.dp; rw [dps_map r]
theorem dpk_map : ∀ ts : List (Key × T), T.dpk ts = (ts.map (·.2)).map T.dp
  | [] => rfl
  | (_, t) :: r => by show t.dp :: T.dpk r = t.dp :: (r.map (·.2)).map T.dp; rw [dpk_map r]
theorem lds_map : ∀ ts : List T, T.lds ts = ts.map T.ld
  | [] => rfl
  | t :: r => by show t.ld :: T.lds r = t.ld :: r.map T.ld; rw [lds_map r]
theorem ldk_map : ∀ ts : List (Key × T), T.ldk ts = (ts.map (·.2)).map T.ld
  | [] => rfl
  | (_, t) :: r => by show t.ld :: T.ldk r = t.ld :: (r.map (·.2)).map T.ld; rw [ldk_map r]
/-- what is held, and both depths by it -/
theorem held_some {t : T} {ts : List T} (h : heldT t = some ts) : T.deepL ts + 1 = t.deep ∧ (t.Fine → T.FineL ts) ∧ t.dp = ofHeld (ts.map T.dp) ∧ t.ld = lawHeld (ts.map T.ld) ∧ ts.length ≤ 8 := by
  cases t with
  | lst xs =>
    have h' : (if xs.length ≤ 6 then some xs else none) = some ts := h
    by_cases c : xs.length ≤ 6
    · rw [if_pos c] at h'
      have e := Option.some.inj h'
      subst e
      refine ⟨Nat.add_comm _ _, fun f => f, ?_, ?_, by omega⟩
      · show (if xs.length ≤ 6 then ofHeld (T.dps xs) else 0) = _
        rw [if_pos c, dps_map]
      · show (if xs.length ≤ 6 then lawHeld (T.lds xs) else 9) = _
        rw [if_pos c, lds_map]
    · rw [if_neg c] at h'; cases h'
  | dct kvs =>
    have h' : (if (kvs.length ≤ 8 ∧ (kvs.map fun kv => okName kv.1).all id = true) then some (kvs.map (·.2)) else none) = some ts := h
    by_cases c : kvs.length ≤ 8 ∧ (kvs.map fun kv => okName kv.1).all id = true
    · rw [if_pos c] at h'
      cases h'
      refine ⟨?_, fun f => fineK_vals f, ?_, ?_, by rw [List.length_map]; exact c.1⟩
      · rw [deepK_vals]; exact Nat.add_comm _ _
      · show (if (kvs.length ≤ 8 ∧ (kvs.map fun kv => okName kv.1).all id = true) then ofHeld (T.dpk kvs) else 0) = _
        rw [if_pos c, dpk_map]
      · show (if (kvs.length ≤ 8 ∧ (kvs.map fun kv => okName kv.1).all id = true) then lawHeld (T.ldk kvs) else 9) = _
        rw [if_pos c, ldk_map]
    · rw [if_neg c] at h'; cases h'
  | _ => cases h
theorem held_none {t : T} (h : heldT t = none) (hc : t.deep ≠ 0) : t.dp = 0 ∧ t.ld = 9 := by
  cases t with
  | lst xs =>
    have h' : (if xs.length ≤ 6 then some xs else none) = none := h
    by_cases c : xs.length ≤ 6
    · rw [if_pos c] at h'; cases h'
    · exact ⟨if_neg c, if_neg c⟩
  | tup xs => exact ⟨rfl, rfl⟩
  | dct kvs =>
    have h' : (if (kvs.length ≤ 8 ∧ (kvs.map fun kv => okName kv.1).all id = true) then some (kvs.map (·.2)) else none) = none := h
    by_cases c : kvs.length ≤ 8 ∧ (kvs.map fun kv => okName kv.1).all id = true
    · rw [if_pos c] at h'; cases h'
    · exact ⟨if_neg c, if_neg c⟩
  | _ => exact absurd rfl hc
end Pu

namespace Pu
open PySem PySem.Spec PyProof.Rows L2 He Hk
local macro_rules | `(tactic| wtm_at "kb") => `(tactic| first | with_reducible exact kb_NoneType_int | with_reducible exact kb_NoneType_bool | with_reducible exact kb_NoneType_str | with_reducible exact kb_NoneType_list | with_reducible exact kb_NoneType_tuple | with_reducible exact kb_NoneType_dict | with_reducible exact kb_bool_int | with_reducible exact kb_bool_bool | with_reducible exact kb_bool_str | with_reducible exact kb_bool_list | with_reducible exact kb_bool_tuple | with_reducible exact kb_bool_dict | with_reducible exact kb_int_int | with_reducible exact kb_int_bool | with_reducible exact kb_int_str | with_reducible exact kb_int_list | with_reducible exact kb_int_tuple | with_reducible exact kb_int_dict | with_reducible exact kb_str_int | with_reducible exact kb_str_bool | with_reducible exact kb_str_str | with_reducible exact kb_str_list | with_reducible exact kb_str_tuple | with_reducible exact kb_str_dict | with_reducible exact kb_list_int | with_reducible exact kb_list_bool | with_reducible exact kb_list_str | with_reducible exact kb_list_list | with_reducible exact kb_list_tuple | with_reducible exact kb_list_dict | with_reducible exact kb_tuple_int | with_reducible exact kb_tuple_bool | with_reducible exact kb_tuple_str | with_reducible exact kb_tuple_list | with_reducible exact kb_tuple_tuple | with_reducible exact kb_tuple_dict | with_reducible exact kb_dict_int | with_reducible exact kb_dict_bool | with_reducible exact kb_dict_str | with_reducible exact kb_dict_list | with_reducible exact kb_dict_tuple | with_reducible exact kb_dict_dict)
local macro_rules | `(tactic| wtm_at "set") => `(tactic| ((try simp only [backE, reown, List.set_cons_zero, List.set_cons_succ, List.getElem?_cons_zero, List.getElem?_cons_succ]); rfl))
local macro_rules | `(tactic| wtm_at "side") => `(tactic| first | assumption | decide | omega)
local macro_rules | `(tactic| wtm_at "ln") => `(tactic| first | omega | exact len_one (by omega) | (refine len_cut ?_; wtm_at "ln") | (refine len_app ?_ ?_ <;> wtm_at "ln") | decide +kernel)
local macro_rules | `(tactic| wtm_at "size") => `(tactic| first | assumption | wtm_at "ln" | (refine Nat.le_trans (Nat.add_le_add (b := 8000000) (d := 8000000) ?_ ?_) (by decide) <;> wtm_at "ln"))
local macro_rules | `(tactic| wtm_at "w") => `(tactic| (first
  | (with_reducible refine w_op ?_)
  | (with_reducible refine w_cons ?_)
  | ((with_reducible refine' w_consV ?e1 ?_); (case e1 => exact trivial);)
  | (with_reducible refine w_c ?_)
  | (with_reducible refine w_nil ?_)
  | ((with_reducible refine' w_kO ?e1 ?_); (case e1 => rfl);)
  | ((with_reducible refine' w_var ?e1 ?_); (case e1 => rfl);)
  | (with_reducible refine w_seq ?_)
  | (with_reducible refine w_asg ?_)
  | ((with_reducible refine' w_name ?e1 ?e2 ?_); (case e1 => exact trivial); (case e2 => wtm_at "set");)
  | (with_reducible refine w_if ?_)
  | (with_reducible refine w_test ?_)
  | (with_reducible refine w_kB ?_)
  | (with_reducible refine w_call ?_)
  | ((with_reducible refine' w_kC ?e1 ?e2 ?_); (case e1 => rfl); (case e2 => rfl);)
  | ((with_reducible refine' w_kBk ?e1 ?_); (case e1 => wtm_at "set");)
  | (with_reducible refine w_ret ?_)
  | (with_reducible refine iteT' ?_)
  | (with_reducible refine iteF' ?_)
  | (with_reducible refine w_and ?_)
  | (with_reducible refine w_or ?_)
  | (with_reducible refine w_not ?_)
  | (with_reducible refine w_next ?_)
  | ((with_reducible refine' v_ixL ?e1 ?_); (case e1 => rfl);)
  | (with_reducible refine v_addI ?_)
  | ((with_reducible refine' v_eq ?e1 ?_); (case e1 => rfl);)
  | (with_reducible refine w_lst ?_)
  | ((with_reducible refine' w_kV2 ?e1 ?e2 ?_); (case e1 => rfl); (case e2 => exact Nat.le_of_ble_eq_true rfl);)
  | (with_reducible refine w_own ?_)
  | (with_reducible refine w_drop ?_)
  | (with_reducible refine w_andV ?_)
  | (with_reducible refine w_orV ?_)
  | (with_reducible refine w_notV ?_)
  | (with_reducible refine w_ifE ?_)
  | (with_reducible refine w_chain ?_)
  | (with_reducible refine w_yes ?_)
  | (with_reducible refine w_tup ?_)
  | (with_reducible refine w_dnew ?_)
  | (with_reducible refine w_disp ?_)
  | (with_reducible refine w_pnil ?_)
  | (with_reducible refine w_pcons ?_)
  | (with_reducible refine w_sl ?_)
  | (with_reducible refine w_noPart ?_)
  | (with_reducible refine w_part ?_)
  | (with_reducible refine w_kI ?_)
  | (with_reducible refine w_m ?_)
  | (with_reducible refine w_kM ?_)
  | (with_reducible refine w_piList ?_)
  | (with_reducible refine w_kL ?_)
  | (with_reducible refine w_piTup ?_)
  | (with_reducible refine w_kTu ?_)
  | (with_reducible refine w_piStr ?_)
  | (with_reducible refine w_kSt ?_)
  | (with_reducible refine w_piRng1 ?_)
  | (with_reducible refine w_piRng2 ?_)
  | (with_reducible refine w_piD ?_)
  | (with_reducible refine w_kD ?_)
  | (with_reducible refine w_for ?_)
  | (with_reducible refine w_lc ?_)
  | (with_reducible refine v_sub ?_)
  | (with_reducible refine v_neg ?_)
  | (with_reducible refine v_le ?_)
  | (with_reducible refine v_gt ?_)
  | (with_reducible refine v_ge ?_)
  | (with_reducible refine v_lt ?_)
  | (with_reducible refine v_ltS ?_)
  | (with_reducible refine v_inS ?_)
  | (with_reducible refine v_notInS ?_)
  | (with_reducible refine v_lenL ?_)
  | (with_reducible refine v_lenT ?_)
  | (with_reducible refine v_lenD ?_)
  | (with_reducible refine v_lenC ?_)
  | (with_reducible refine v_max2 ?_)
  | (with_reducible refine v_min2 ?_)
  | (with_reducible refine v_listD ?_)
  | (with_reducible refine v_listV ?_)
  | (with_reducible refine v_dictD ?_)
  | (with_reducible refine v_tupleL ?_)
  | (with_reducible refine v_tupleT ?_)
  | (with_reducible refine v_int1 ?_)
  | (with_reducible refine v_int2 ?_)
  | (with_reducible refine v_isN ?_)
  | (with_reducible refine v_notN ?_)
  | (with_reducible refine v_slL ?_)
  | (with_reducible refine v_slT ?_)
  | ((with_reducible refine' w_varO ?e1 ?e2 ?_); (case e1 => rfl); (case e2 => wtm_at "set");)
  | ((with_reducible refine' w_kMO ?e1 ?_); (case e1 => rfl);)
  | ((with_reducible refine' w_kOwn ?e1 ?_); (case e1 => exact trivial); (intro p' env' ee'; simp only [List.set_cons_zero, List.set_cons_succ] at ee'; subst ee'))
  | ((with_reducible refine' w_kDs ?e1 ?e2 ?_); (case e1 => rfl); (case e2 => exact Nat.le_of_ble_eq_true rfl);)
  | ((with_reducible refine' w_slV ?e1 ?_); (case e1 => exact trivial);)
  | ((with_reducible refine' w_kSl ?e1 ?_); (case e1 => rfl);)
  | ((with_reducible refine' w_setL ?e1 ?_); (case e1 => exact trivial);)
  | ((with_reducible refine' w_setD ?e1 ?_); (case e1 => exact trivial);)
  | ((with_reducible refine' w_kSetL ?e1 ?e2 ?e3 ?_); (case e1 => rfl); (case e2 => rfl); (case e3 => wtm_at "set");)
  | ((with_reducible refine' w_kSetD ?e1 ?e2 ?e3 ?e4 ?_); (case e1 => rfl); (case e2 => wtm_at "side"); (case e3 => rfl); (case e4 => wtm_at "set");)
  | ((with_reducible refine' w_append ?e1 ?_); (case e1 => rfl);)
  | ((with_reducible refine' w_kApp ?e1 ?e2 ?e3 ?_); (case e1 => rfl); (case e2 => wtm_at "side"); (case e3 => wtm_at "set");)
  | ((with_reducible refine' w_kR1 ?e1 ?_); (case e1 => omega);)
  | ((with_reducible refine' w_kR2 ?e1 ?_); (case e1 => omega);)
  | ((with_reducible refine' iteTrue ?e1 ?_); (case e1 => rfl);)
  | ((with_reducible refine' iteFalse ?e1 ?_); (case e1 => rfl);)
  | ((with_reducible refine' v_mod ?e1 ?_); (case e1 => wtm_at "side");)
  | ((with_reducible refine' v_mulI ?e1 ?_); (case e1 => first | exact s_mul (by omega) (by omega) | (unfold CMulW; decide +kernel));)
  | ((with_reducible refine' v_div ?e1 ?_); (case e1 => omega);)
  | ((with_reducible refine' v_powE ?e1 ?e2 ?_); (case e1 => first | decide | (refine ⟨by decide, by decide, ?_, ?_⟩ <;> omega)); (case e2 => ((try simp only [Int.reduceToNat, Int.reducePow]); rfl)))
  | ((with_reducible refine' v_ne ?e1 ?_); (case e1 => rfl);)
  | ((with_reducible refine' v_ixT ?e1 ?_); (case e1 => rfl);)
  | ((with_reducible refine' v_isi ?e1 ?e2 ?_); (case e1 => rfl); (case e2 => wtm_at "kb");)
  | ((with_reducible refine' v_lenS ?e1 ?_); (case e1 => wtm_at "size");)
  | ((with_reducible refine' v_addS ?e1 ?_); (case e1 => wtm_at "size");)
  | ((with_reducible refine' v_slS ?e1 ?_); (case e1 => wtm_at "size");)
  | ((with_reducible refine' v_ixS ?e1 ?e2 ?e3 ?_); (case e1 => wtm_at "size"); (case e2 => omega); (case e3 => first | omega | (simp only [show _ = _ from by assumption]; omega)); intro c' hc' hc2)
  | (with_reducible refine w_ml ?_)
  | (with_reducible refine w_kML ?_)
  | ((with_reducible refine' w_kMLO ?e1 ?_); (case e1 => rfl);)
  | (with_reducible refine w_callN ?_)
  | (with_reducible refine v_rev ?_)
  | (with_reducible refine v_listEn ?_)
  | (with_reducible refine v_ixAd ?_)
  | (with_reducible refine v_ixAl ?_)
  | (with_reducible refine v_ixAt ?_)
  | ((with_reducible refine' v_inAd ?e1 ?_); (case e1 => rfl);)
  | ((with_reducible refine' w_extend ?e1 ?_); (case e1 => rfl);)
  | ((with_reducible refine' w_kExt ?e1 ?e2 ?e3 ?_); (case e1 => rfl); (case e2 => wtm_at "side"); (case e3 => wtm_at "set");)))
def heldO (t : T) : T := match heldT t with | some ts => .lst ts | none => .non
theorem kT_fine {k : Key} (h : kFine k) : (kT k).Fine := by cases k <;> exact h
theorem keys_bools {kvs : List (Key × T)} : ((DW.of .keys kvs).filter (fun _ => true)).map (fun x => T.bl (nameT x)) = (kvs.map fun kv => okName kv.1).map T.bl := by
  show ((kvs.map fun kv => kT kv.1).filter (fun _ => true)).map _ = _
  rw [List.filter_eq_self.mpr (fun _ _ => rfl), List.map_map, List.map_map]
  exact List.map_congr_left fun kv _ => by show T.bl (nameT (kT kv.1)) = T.bl (okName kv.1); rw [nameT_k]
theorem pure_held : ∀ sl P, psF T.Fine heldO sl P → p_held_in (psF T.Fine (fun t => .bl (nameT t))) (pdOf false sl P) (sl ++ nones 1) := by
  rintro sl P ⟨t, rfl, f, q⟩
  show p_held_in _ _ [_, .none]
  unfold p_held_in
  cases t
  case lst ts =>
    have e : heldO (.lst ts) = if ts.length ≤ 6 then .lst ts else .non := by unfold heldO heldT; dsimp only; split <;> rename_i h <;> split at h <;> rename_i h2 <;> first | (rw [if_neg h2]; done) | (cases h; rw [if_pos h2]; done) | (cases h; done)
    rw [e] at q
    repeat wtm_at "w"
    refine iteB (fun c => ?_) (fun c => ?_)
    · repeat wtm_at "w"
      rw [if_pos (by have := of_decide_eq_true c; omega)] at q
      exact ⟨trivial, q⟩
    · repeat wtm_at "w"
      rw [if_neg (by have := of_decide_eq_false c; omega)] at q
      exact ⟨trivial, q⟩
  case dct kvs =>
    have e : heldO (.dct kvs) = if (kvs.length ≤ 8 ∧ (kvs.map fun kv => okName kv.1).all id = true) then .lst (kvs.map (·.2)) else .non := by unfold heldO heldT; dsimp only; split <;> rename_i h <;> split at h <;> rename_i h2 <;> first | (rw [if_neg h2]; done) | (cases h; rw [if_pos h2]; done) | (cases h; done)
    rw [e] at q
    repeat wtm_at "w"
    refine iteB (fun c => ?_) (fun c => ?_)
    · have c' := of_decide_eq_true c
      repeat wtm_at "w"
      refine lc_fun (env0 := [_, _]) rfl (by show (kvs.map _).length ≤ _; rw [List.length_map]; omega) (fun _ => true) (fun x => .bl (nameT x)) trivial (fun _ => rfl) (fun x _ Q h => h) (fun x hx _ Q h => ?_) ?_
      · obtain ⟨kv, hkv, rfl⟩ := List.mem_map.mp hx
        repeat wtm_at "w"
        refine u_F (kT_fine (fineK_keys f (List.mem_map_of_mem hkv))) ?_
        repeat wtm_at "w"
        exact h
      · rw [keys_bools]
        repeat wtm_at "w"
        refine v_all ?_
        repeat wtm_at "w"
        refine iteB (fun c2 => ?_) (fun c2 => ?_)
        · repeat wtm_at "w"
          rw [if_pos ⟨by omega, c2⟩] at q
          exact ⟨trivial, q⟩
        · repeat wtm_at "w"
          rw [if_neg (fun z => by rw [z.2] at c2; cases c2)] at q
          exact ⟨trivial, q⟩
    · repeat wtm_at "w"
      have c' := of_decide_eq_false c
      rw [if_neg (fun z => by have := z.1; omega)] at q
      exact ⟨trivial, q⟩
  all_goals first | exact f.elim | (repeat wtm_at "w"); exact ⟨trivial, q⟩
def psN (m : Nat) (g : T → Int) : PSp := psF (fun t => t.Fine ∧ t.deep < m) fun t => .int (g t)
theorem in_ints {i : Int} {ns : List Int} : inT (.int i) (ns.map T.int) = decide (i ∈ ns) := by
  induction ns with
  | nil => rfl
  | cons n r ih =>
    rw [List.map_cons]
    unfold inT at ih ⊢
    rw [List.any_cons, ih, show eqF (.int n) (.int i) = decide (n = i) from rfl]
    by_cases c : n = i
    · subst c; simp
    · simp [c, Ne.symm c]
theorem flat_ints {ns : List Int} : (ns.map T.int).all flatT = true := by rw [List.all_map]; exact List.all_eq_true.mpr fun _ _ => rfl
/-- [f(x) for x in xs], f telling a number of each -/
theorem lc_nums {m : Nat} {g : T → Int} {ts : List T} {env env0 : Env} {j : Nat} {vs : List Nat} {P : T → Env → Prop} (hz : ts.length ≤ 1000) (hf : T.FineL ts) (hd : T.deepL ts < m) (e0 : wipeE env vs = env0) (hn : noRef env0 j) (hw : ∀ x, wipeE (env0.set j (.val x)) vs = env0) (hj : ∀ x, (env0.set j (.val x))[j]? = some (.val x))
    (h : P (.lst ((ts.map g).map T.int)) env0) : LcK (pgName j) pYes (pCall (psN m g) (pCons (pVar j) pNil)) vs ts env P := by
  refine lc_fun e0 (by omega) (fun _ => true) (fun x => .int (g x)) hn hw (fun x _ Q h => h) (fun x hx _ Q h => ?_) ?_
  · refine w_call (w_cons (w_var (hj x) (w_nil (w_kC rfl rfl ?_))))
    exact u_F ⟨fineL_mem hf hx, Nat.lt_of_le_of_lt (deepL_mem hx) hd⟩ (w_kBk rfl h)
  · rw [List.filter_eq_self.mpr (fun _ _ => rfl), show (fun x => T.int (g x)) = T.int ∘ g from rfl, ← List.map_map]
    exact h
theorem pure_deepness {m : Nat} : ∀ sl P, psN (m + 1) T.dp sl P → p_deepness (psF T.Fine (fun t => .bl (numberT t))) (psF T.Fine (fun t => .bl (textT t))) (psF T.Fine heldO) (psN m T.dp) (pdOf false sl P) (sl ++ nones 3) := by
  rintro sl P ⟨t, rfl, ⟨f, hd⟩, q⟩
  dsimp only at q
  show p_deepness _ _ _ _ _ [_, .none, .none, .none]
  unfold p_deepness
  have main : t.deep ≠ 0 → (isNon t = false) → (numberT t = false) → (textT t = false) → (∀ Q, Q (.bl false) → oIsi [t, .ty "bool"] Q) → p_deepness (psF T.Fine (fun t => .bl (numberT t))) (psF T.Fine (fun t => .bl (textT t))) (psF T.Fine heldO) (psN m T.dp) (pdOf false [.val t] P) [.val t, .none, .none, .none] := by
    intro h0 h1 h2 h3 h4
    unfold p_deepness
    repeat wtm_at "w"
    rw [h1]
    repeat wtm_at "w"
    refine h4 _ ?_
    repeat wtm_at "w"
    refine u_F f ?_
    rw [h2]
    repeat wtm_at "w"
    refine u_F f ?_
    rw [h3]
    repeat wtm_at "w"
    refine u_F f ?_
    cases hh : heldT t with
    | none =>
      have e := (held_none hh h0).1
      have eo : heldO t = .non := by unfold heldO; rw [hh]
      rw [eo]
      repeat wtm_at "w"
      rw [e] at q
      exact ⟨trivial, q⟩
    | some us =>
      obtain ⟨e1, e2, e3, _, e5⟩ := held_some hh
      have eo : heldO t = .lst us := by unfold heldO; rw [hh]
      rw [eo]
      repeat wtm_at "w"
      refine lc_nums (env0 := [_, _, _, _]) (by omega) (e2 f) (by omega) rfl trivial (fun _ => rfl) (fun _ => rfl) ?_
      repeat wtm_at "w"
      refine v_inL rfl flat_ints ?_
      rw [in_ints]
      repeat wtm_at "w"
      rw [e3] at q
      unfold ofHeld at q
      refine iteB (fun c => ?_) (fun c => ?_)
      · repeat wtm_at "w"
        rw [if_pos (.inl (of_decide_eq_true c))] at q
        exact ⟨trivial, q⟩
      · repeat wtm_at "w"
        refine v_inL rfl flat_ints ?_
        rw [in_ints]
        repeat wtm_at "w"
        refine iteB (fun c2 => ?_) (fun c2 => ?_)
        · repeat wtm_at "w"
          rw [if_pos (.inr (of_decide_eq_true c2))] at q
          exact ⟨trivial, q⟩
        · repeat wtm_at "w"
          refine v_addL (by simp; omega) ?_
          repeat wtm_at "w"
          rw [show ((us.map T.dp).map T.int ++ [T.int 0]) = (us.map T.dp ++ [0]).map T.int from by rw [List.map_append]; rfl]
          refine v_max (by simp) ?_
          rw [maxL_app]
          repeat wtm_at "w"
          rw [if_neg (fun z => by rcases z with z | z; exact of_decide_eq_false c z; exact of_decide_eq_false c2 z)] at q
          exact ⟨trivial, q⟩
  cases t
  case non => repeat wtm_at "w"
              exact ⟨trivial, q⟩
  case bl b => repeat wtm_at "w"
               exact ⟨trivial, q⟩
  case int i =>
    repeat wtm_at "w"
    refine u_F f ?_
    repeat wtm_at "w"
    have e : T.dp (.int i) = if okInt i then 1 else 0 := rfl
    rw [e] at q
    refine iteB (fun c => ?_) (fun c => ?_)
    · repeat wtm_at "w"
      rw [show okInt i = true from c] at q
      exact ⟨trivial, q⟩
    · repeat wtm_at "w"
      refine u_F f ?_
      repeat wtm_at "w"
      refine u_F f ?_
      repeat wtm_at "w"
      rw [show okInt i = false from c] at q
      exact ⟨trivial, q⟩
  case str z =>
    repeat wtm_at "w"
    refine u_F f ?_
    repeat wtm_at "w"
    refine u_F f ?_
    repeat wtm_at "w"
    have e : T.dp (.str z) = if okText z then 1 else 0 := rfl
    rw [e] at q
    refine iteB (fun c => ?_) (fun c => ?_)
    · repeat wtm_at "w"
      rw [show okText z = true from c] at q
      exact ⟨trivial, q⟩
    · repeat wtm_at "w"
      refine u_F f ?_
      repeat wtm_at "w"
      rw [show okText z = false from c] at q
      exact ⟨trivial, q⟩
  case lst ts => exact main (by unfold T.deep; omega) rfl rfl rfl fun Q h => v_isi rfl kb_list_bool h
  case tup ts => exact main (by unfold T.deep; omega) rfl rfl rfl fun Q h => v_isi rfl kb_tuple_bool h
  case dct ts => exact main (by unfold T.deep; omega) rfl rfl rfl fun Q h => v_isi rfl kb_dict_bool h
  all_goals exact f.elim
theorem pure_worth {m : Nat} : ∀ sl P, psF (fun t => t.Fine ∧ t.deep < m) (fun t => .bl (decide (t.dp > 0))) sl P → p_is_worth (psN m T.dp) (pdOf false sl P) (sl ++ nones 0) := by
  rintro sl P ⟨t, rfl, f, q⟩
  show p_is_worth _ _ [_]
  unfold p_is_worth
  repeat wtm_at "w"
  refine u_F f ?_
  repeat wtm_at "w"
  exact ⟨trivial, q⟩
end Pu

namespace Pu
open PySem PySem.Spec PyProof.Rows L2 He Hk
local macro_rules | `(tactic| wtm_at "kb") => `(tactic| first | with_reducible exact kb_NoneType_int | with_reducible exact kb_NoneType_bool | with_reducible exact kb_NoneType_str | with_reducible exact kb_NoneType_list | with_reducible exact kb_NoneType_tuple | with_reducible exact kb_NoneType_dict | with_reducible exact kb_bool_int | with_reducible exact kb_bool_bool | with_reducible exact kb_bool_str | with_reducible exact kb_bool_list | with_reducible exact kb_bool_tuple | with_reducible exact kb_bool_dict | with_reducible exact kb_int_int | with_reducible exact kb_int_bool | with_reducible exact kb_int_str | with_reducible exact kb_int_list | with_reducible exact kb_int_tuple | with_reducible exact kb_int_dict | with_reducible exact kb_str_int | with_reducible exact kb_str_bool | with_reducible exact kb_str_str | with_reducible exact kb_str_list | with_reducible exact kb_str_tuple | with_reducible exact kb_str_dict | with_reducible exact kb_list_int | with_reducible exact kb_list_bool | with_reducible exact kb_list_str | with_reducible exact kb_list_list | with_reducible exact kb_list_tuple | with_reducible exact kb_list_dict | with_reducible exact kb_tuple_int | with_reducible exact kb_tuple_bool | with_reducible exact kb_tuple_str | with_reducible exact kb_tuple_list | with_reducible exact kb_tuple_tuple | with_reducible exact kb_tuple_dict | with_reducible exact kb_dict_int | with_reducible exact kb_dict_bool | with_reducible exact kb_dict_str | with_reducible exact kb_dict_list | with_reducible exact kb_dict_tuple | with_reducible exact kb_dict_dict)
local macro_rules | `(tactic| wtm_at "set") => `(tactic| ((try simp only [backE, reown, List.set_cons_zero, List.set_cons_succ, List.getElem?_cons_zero, List.getElem?_cons_succ]); rfl))
local macro_rules | `(tactic| wtm_at "side") => `(tactic| first | assumption | decide | omega)
local macro_rules | `(tactic| wtm_at "ln") => `(tactic| first | omega | exact len_one (by omega) | (refine len_cut ?_; wtm_at "ln") | (refine len_app ?_ ?_ <;> wtm_at "ln") | decide +kernel)
local macro_rules | `(tactic| wtm_at "size") => `(tactic| first | assumption | wtm_at "ln" | (refine Nat.le_trans (Nat.add_le_add (b := 8000000) (d := 8000000) ?_ ?_) (by decide) <;> wtm_at "ln"))
local macro_rules | `(tactic| wtm_at "w") => `(tactic| (first
  | (with_reducible refine w_op ?_)
  | (with_reducible refine w_cons ?_)
  | ((with_reducible refine' w_consV ?e1 ?_); (case e1 => exact trivial);)
  | (with_reducible refine w_c ?_)
  | (with_reducible refine w_nil ?_)
  | ((with_reducible refine' w_kO ?e1 ?_); (case e1 => rfl);)
  | ((with_reducible refine' w_var ?e1 ?_); (case e1 => rfl);)
  | (with_reducible refine w_seq ?_)
  | (with_reducible refine w_asg ?_)
  | ((with_reducible refine' w_name ?e1 ?e2 ?_); (case e1 => exact trivial); (case e2 => wtm_at "set");)
  | (with_reducible refine w_if ?_)
  | (with_reducible refine w_test ?_)
  | (with_reducible refine w_kB ?_)
  | (with_reducible refine w_call ?_)
  | ((with_reducible refine' w_kC ?e1 ?e2 ?_); (case e1 => rfl); (case e2 => rfl);)
  | ((with_reducible refine' w_kBk ?e1 ?_); (case e1 => wtm_at "set");)
  | (with_reducible refine w_ret ?_)
  | (with_reducible refine iteT' ?_)
  | (with_reducible refine iteF' ?_)
  | (with_reducible refine w_and ?_)
  | (with_reducible refine w_or ?_)
  | (with_reducible refine w_not ?_)
  | (with_reducible refine w_next ?_)
  | ((with_reducible refine' v_ixL ?e1 ?_); (case e1 => rfl);)
  | (with_reducible refine v_addI ?_)
  | ((with_reducible refine' v_eq ?e1 ?_); (case e1 => rfl);)
  | (with_reducible refine w_lst ?_)
  | ((with_reducible refine' w_kV2 ?e1 ?e2 ?_); (case e1 => rfl); (case e2 => exact Nat.le_of_ble_eq_true rfl);)
  | (with_reducible refine w_own ?_)
  | (with_reducible refine w_drop ?_)
  | (with_reducible refine w_andV ?_)
  | (with_reducible refine w_orV ?_)
  | (with_reducible refine w_notV ?_)
  | (with_reducible refine w_ifE ?_)
  | (with_reducible refine w_chain ?_)
  | (with_reducible refine w_yes ?_)
  | (with_reducible refine w_tup ?_)
  | (with_reducible refine w_dnew ?_)
  | (with_reducible refine w_disp ?_)
  | (with_reducible refine w_pnil ?_)
  | (with_reducible refine w_pcons ?_)
  | (with_reducible refine w_sl ?_)
  | (with_reducible refine w_noPart ?_)
  | (with_reducible refine w_part ?_)
  | (with_reducible refine w_kI ?_)
  | (with_reducible refine w_m ?_)
  | (with_reducible refine w_kM ?_)
  | (with_reducible refine w_piList ?_)
  | (with_reducible refine w_kL ?_)
  | (with_reducible refine w_piTup ?_)
  | (with_reducible refine w_kTu ?_)
  | (with_reducible refine w_piStr ?_)
  | (with_reducible refine w_kSt ?_)
  | (with_reducible refine w_piRng1 ?_)
  | (with_reducible refine w_piRng2 ?_)
  | (with_reducible refine w_piD ?_)
  | (with_reducible refine w_kD ?_)
  | (with_reducible refine w_for ?_)
  | (with_reducible refine w_lc ?_)
  | (with_reducible refine v_sub ?_)
  | (with_reducible refine v_neg ?_)
  | (with_reducible refine v_le ?_)
  | (with_reducible refine v_gt ?_)
  | (with_reducible refine v_ge ?_)
  | (with_reducible refine v_lt ?_)
  | (with_reducible refine v_ltS ?_)
  | (with_reducible refine v_inS ?_)
  | (with_reducible refine v_notInS ?_)
  | (with_reducible refine v_lenL ?_)
  | (with_reducible refine v_lenT ?_)
  | (with_reducible refine v_lenD ?_)
  | (with_reducible refine v_lenC ?_)
  | (with_reducible refine v_max2 ?_)
  | (with_reducible refine v_min2 ?_)
  | (with_reducible refine v_listD ?_)
  | (with_reducible refine v_listV ?_)
  | (with_reducible refine v_dictD ?_)
  | (with_reducible refine v_tupleL ?_)
  | (with_reducible refine v_tupleT ?_)
  | (with_reducible refine v_int1 ?_)
  | (with_reducible refine v_int2 ?_)
  | (with_reducible refine v_isN ?_)
  | (with_reducible refine v_notN ?_)
  | (with_reducible refine v_slL ?_)
  | (with_reducible refine v_slT ?_)
  | ((with_reducible refine' w_varO ?e1 ?e2 ?_); (case e1 => rfl); (case e2 => wtm_at "set");)
  | ((with_reducible refine' w_kMO ?e1 ?_); (case e1 => rfl);)
  | ((with_reducible refine' w_kOwn ?e1 ?_); (case e1 => exact trivial); (intro p' env' ee'; simp only [List.set_cons_zero, List.set_cons_succ] at ee'; subst ee'))
  | ((with_reducible refine' w_kDs ?e1 ?e2 ?_); (case e1 => rfl); (case e2 => exact Nat.le_of_ble_eq_true rfl);)
  | ((with_reducible refine' w_slV ?e1 ?_); (case e1 => exact trivial);)
  | ((with_reducible refine' w_kSl ?e1 ?_); (case e1 => rfl);)
  | ((with_reducible refine' w_setL ?e1 ?_); (case e1 => exact trivial);)
  | ((with_reducible refine' w_setD ?e1 ?_); (case e1 => exact trivial);)
  | ((with_reducible refine' w_kSetL ?e1 ?e2 ?e3 ?_); (case e1 => rfl); (case e2 => rfl); (case e3 => wtm_at "set");)
  | ((with_reducible refine' w_kSetD ?e1 ?e2 ?e3 ?e4 ?_); (case e1 => rfl); (case e2 => wtm_at "side"); (case e3 => rfl); (case e4 => wtm_at "set");)
  | ((with_reducible refine' w_append ?e1 ?_); (case e1 => rfl);)
  | ((with_reducible refine' w_kApp ?e1 ?e2 ?e3 ?_); (case e1 => rfl); (case e2 => wtm_at "side"); (case e3 => wtm_at "set");)
  | ((with_reducible refine' w_kR1 ?e1 ?_); (case e1 => omega);)
  | ((with_reducible refine' w_kR2 ?e1 ?_); (case e1 => omega);)
  | ((with_reducible refine' iteTrue ?e1 ?_); (case e1 => rfl);)
  | ((with_reducible refine' iteFalse ?e1 ?_); (case e1 => rfl);)
  | ((with_reducible refine' v_mod ?e1 ?_); (case e1 => wtm_at "side");)
  | ((with_reducible refine' v_mulI ?e1 ?_); (case e1 => first | exact s_mul (by omega) (by omega) | (unfold CMulW; decide +kernel));)
  | ((with_reducible refine' v_div ?e1 ?_); (case e1 => omega);)
  | ((with_reducible refine' v_powE ?e1 ?e2 ?_); (case e1 => first | decide | (refine ⟨by decide, by decide, ?_, ?_⟩ <;> omega)); (case e2 => ((try simp only [Int.reduceToNat, Int.reducePow]); rfl)))
  | ((with_reducible refine' v_ne ?e1 ?_); (case e1 => rfl);)
  | ((with_reducible refine' v_ixT ?e1 ?_); (case e1 => rfl);)
  | ((with_reducible refine' v_isi ?e1 ?e2 ?_); (case e1 => rfl); (case e2 => wtm_at "kb");)
  | ((with_reducible refine' v_lenS ?e1 ?_); (case e1 => wtm_at "size");)
  | ((with_reducible refine' v_addS ?e1 ?_); (case e1 => wtm_at "size");)
  | ((with_reducible refine' v_slS ?e1 ?_); (case e1 => wtm_at "size");)
  | ((with_reducible refine' v_ixS ?e1 ?e2 ?e3 ?_); (case e1 => wtm_at "size"); (case e2 => omega); (case e3 => first | omega | (simp only [show _ = _ from by assumption]; omega)); intro c' hc' hc2)
  | (with_reducible refine w_ml ?_)
  | (with_reducible refine w_kML ?_)
  | ((with_reducible refine' w_kMLO ?e1 ?_); (case e1 => rfl);)
  | (with_reducible refine w_callN ?_)
  | (with_reducible refine v_rev ?_)
  | (with_reducible refine v_listEn ?_)
  | (with_reducible refine v_ixAd ?_)
  | (with_reducible refine v_ixAl ?_)
  | (with_reducible refine v_ixAt ?_)
  | ((with_reducible refine' v_inAd ?e1 ?_); (case e1 => rfl);)
  | ((with_reducible refine' w_extend ?e1 ?_); (case e1 => rfl);)
  | ((with_reducible refine' w_kExt ?e1 ?e2 ?e3 ?_); (case e1 => rfl); (case e2 => wtm_at "side"); (case e3 => wtm_at "set");)))
def ps_signs : PSp := fun sl P => sl = [] ∧ P (.str signs) []
theorem u_signs {P : T → List Slot → Prop} (h : P (.str signs) []) : ps_signs [] P := ⟨rfl, h⟩
theorem pure_signs : ∀ sl P, ps_signs sl P → p__law_signs (pdOf false sl P) (sl ++ nones 0) := by
  rintro sl P ⟨rfl, q⟩
  exact ⟨trivial, q⟩
end Pu

namespace Pu
open PySem PySem.Spec PyProof.Rows L2 He Hk
local macro_rules | `(tactic| wtm_at "kb") => `(tactic| first | with_reducible exact kb_NoneType_int | with_reducible exact kb_NoneType_bool | with_reducible exact kb_NoneType_str | with_reducible exact kb_NoneType_list | with_reducible exact kb_NoneType_tuple | with_reducible exact kb_NoneType_dict | with_reducible exact kb_bool_int | with_reducible exact kb_bool_bool | with_reducible exact kb_bool_str | with_reducible exact kb_bool_list | with_reducible exact kb_bool_tuple | with_reducible exact kb_bool_dict | with_reducible exact kb_int_int | with_reducible exact kb_int_bool | with_reducible exact kb_int_str | with_reducible exact kb_int_list | with_reducible exact kb_int_tuple | with_reducible exact kb_int_dict | with_reducible exact kb_str_int | with_reducible exact kb_str_bool | with_reducible exact kb_str_str | with_reducible exact kb_str_list | with_reducible exact kb_str_tuple | with_reducible exact kb_str_dict | with_reducible exact kb_list_int | with_reducible exact kb_list_bool | with_reducible exact kb_list_str | with_reducible exact kb_list_list | with_reducible exact kb_list_tuple | with_reducible exact kb_list_dict | with_reducible exact kb_tuple_int | with_reducible exact kb_tuple_bool | with_reducible exact kb_tuple_str | with_reducible exact kb_tuple_list | with_reducible exact kb_tuple_tuple | with_reducible exact kb_tuple_dict | with_reducible exact kb_dict_int | with_reducible exact kb_dict_bool | with_reducible exact kb_dict_str | with_reducible exact kb_dict_list | with_reducible exact kb_dict_tuple | with_reducible exact kb_dict_dict)
local macro_rules | `(tactic| wtm_at "set") => `(tactic| ((try simp only [backE, reown, List.set_cons_zero, List.set_cons_succ, List.getElem?_cons_zero, List.getElem?_cons_succ]); rfl))
local macro_rules | `(tactic| wtm_at "side") => `(tactic| first | assumption | decide | omega)
local macro_rules | `(tactic| wtm_at "ln") => `(tactic| first | omega | exact len_one (by omega) | (refine len_cut ?_; wtm_at "ln") | (refine len_app ?_ ?_ <;> wtm_at "ln") | decide +kernel)
local macro_rules | `(tactic| wtm_at "size") => `(tactic| first | assumption | wtm_at "ln" | (refine Nat.le_trans (Nat.add_le_add (b := 8000000) (d := 8000000) ?_ ?_) (by decide) <;> wtm_at "ln"))
local macro_rules | `(tactic| wtm_at "w") => `(tactic| (first
  | (with_reducible refine w_op ?_)
  | (with_reducible refine w_cons ?_)
  | ((with_reducible refine' w_consV ?e1 ?_); (case e1 => exact trivial);)
  | (with_reducible refine w_c ?_)
  | (with_reducible refine w_nil ?_)
  | ((with_reducible refine' w_kO ?e1 ?_); (case e1 => rfl);)
  | ((with_reducible refine' w_var ?e1 ?_); (case e1 => rfl);)
  | (with_reducible refine w_seq ?_)
  | (with_reducible refine w_asg ?_)
  | ((with_reducible refine' w_name ?e1 ?e2 ?_); (case e1 => exact trivial); (case e2 => wtm_at "set");)
  | (with_reducible refine w_if ?_)
  | (with_reducible refine w_test ?_)
  | (with_reducible refine w_kB ?_)
  | (with_reducible refine w_call ?_)
  | ((with_reducible refine' w_kC ?e1 ?e2 ?_); (case e1 => rfl); (case e2 => rfl);)
  | ((with_reducible refine' w_kBk ?e1 ?_); (case e1 => wtm_at "set");)
  | (with_reducible refine w_ret ?_)
  | (with_reducible refine iteT' ?_)
  | (with_reducible refine iteF' ?_)
  | (with_reducible refine w_and ?_)
  | (with_reducible refine w_or ?_)
  | (with_reducible refine w_not ?_)
  | (with_reducible refine w_next ?_)
  | ((with_reducible refine' v_ixL ?e1 ?_); (case e1 => rfl);)
  | (with_reducible refine v_addI ?_)
  | ((with_reducible refine' v_eq ?e1 ?_); (case e1 => rfl);)
  | (with_reducible refine w_lst ?_)
  | ((with_reducible refine' w_kV2 ?e1 ?e2 ?_); (case e1 => rfl); (case e2 => exact Nat.le_of_ble_eq_true rfl);)
  | (with_reducible refine w_own ?_)
  | (with_reducible refine w_drop ?_)
  | (with_reducible refine w_andV ?_)
  | (with_reducible refine w_orV ?_)
  | (with_reducible refine w_notV ?_)
  | (with_reducible refine w_ifE ?_)
  | (with_reducible refine w_chain ?_)
  | (with_reducible refine w_yes ?_)
  | (with_reducible refine w_tup ?_)
  | (with_reducible refine w_dnew ?_)
  | (with_reducible refine w_disp ?_)
  | (with_reducible refine w_pnil ?_)
  | (with_reducible refine w_pcons ?_)
  | (with_reducible refine w_sl ?_)
  | (with_reducible refine w_noPart ?_)
  | (with_reducible refine w_part ?_)
  | (with_reducible refine w_kI ?_)
  | (with_reducible refine w_m ?_)
  | (with_reducible refine w_kM ?_)
  | (with_reducible refine w_piList ?_)
  | (with_reducible refine w_kL ?_)
  | (with_reducible refine w_piTup ?_)
  | (with_reducible refine w_kTu ?_)
  | (with_reducible refine w_piStr ?_)
  | (with_reducible refine w_kSt ?_)
  | (with_reducible refine w_piRng1 ?_)
  | (with_reducible refine w_piRng2 ?_)
  | (with_reducible refine w_piD ?_)
  | (with_reducible refine w_kD ?_)
  | (with_reducible refine w_for ?_)
  | (with_reducible refine w_lc ?_)
  | (with_reducible refine v_sub ?_)
  | (with_reducible refine v_neg ?_)
  | (with_reducible refine v_le ?_)
  | (with_reducible refine v_gt ?_)
  | (with_reducible refine v_ge ?_)
  | (with_reducible refine v_lt ?_)
  | (with_reducible refine v_ltS ?_)
  | (with_reducible refine v_inS ?_)
  | (with_reducible refine v_notInS ?_)
  | (with_reducible refine v_lenL ?_)
  | (with_reducible refine v_lenT ?_)
  | (with_reducible refine v_lenD ?_)
  | (with_reducible refine v_lenC ?_)
  | (with_reducible refine v_max2 ?_)
  | (with_reducible refine v_min2 ?_)
  | (with_reducible refine v_listD ?_)
  | (with_reducible refine v_listV ?_)
  | (with_reducible refine v_dictD ?_)
  | (with_reducible refine v_tupleL ?_)
  | (with_reducible refine v_tupleT ?_)
  | (with_reducible refine v_int1 ?_)
  | (with_reducible refine v_int2 ?_)
  | (with_reducible refine v_isN ?_)
  | (with_reducible refine v_notN ?_)
  | (with_reducible refine v_slL ?_)
  | (with_reducible refine v_slT ?_)
  | ((with_reducible refine' w_varO ?e1 ?e2 ?_); (case e1 => rfl); (case e2 => wtm_at "set");)
  | ((with_reducible refine' w_kMO ?e1 ?_); (case e1 => rfl);)
  | ((with_reducible refine' w_kOwn ?e1 ?_); (case e1 => exact trivial); (intro p' env' ee'; simp only [List.set_cons_zero, List.set_cons_succ] at ee'; subst ee'))
  | ((with_reducible refine' w_kDs ?e1 ?e2 ?_); (case e1 => rfl); (case e2 => exact Nat.le_of_ble_eq_true rfl);)
  | ((with_reducible refine' w_slV ?e1 ?_); (case e1 => exact trivial);)
  | ((with_reducible refine' w_kSl ?e1 ?_); (case e1 => rfl);)
  | ((with_reducible refine' w_setL ?e1 ?_); (case e1 => exact trivial);)
  | ((with_reducible refine' w_setD ?e1 ?_); (case e1 => exact trivial);)
  | ((with_reducible refine' w_kSetL ?e1 ?e2 ?e3 ?_); (case e1 => rfl); (case e2 => rfl); (case e3 => wtm_at "set");)
  | ((with_reducible refine' w_kSetD ?e1 ?e2 ?e3 ?e4 ?_); (case e1 => rfl); (case e2 => wtm_at "side"); (case e3 => rfl); (case e4 => wtm_at "set");)
  | ((with_reducible refine' w_append ?e1 ?_); (case e1 => rfl);)
  | ((with_reducible refine' w_kApp ?e1 ?e2 ?e3 ?_); (case e1 => rfl); (case e2 => wtm_at "side"); (case e3 => wtm_at "set");)
  | ((with_reducible refine' w_kR1 ?e1 ?_); (case e1 => omega);)
  | ((with_reducible refine' w_kR2 ?e1 ?_); (case e1 => omega);)
  | ((with_reducible refine' iteTrue ?e1 ?_); (case e1 => rfl);)
  | ((with_reducible refine' iteFalse ?e1 ?_); (case e1 => rfl);)
  | ((with_reducible refine' v_mod ?e1 ?_); (case e1 => wtm_at "side");)
  | ((with_reducible refine' v_mulI ?e1 ?_); (case e1 => first | exact s_mul (by omega) (by omega) | (unfold CMulW; decide +kernel));)
  | ((with_reducible refine' v_div ?e1 ?_); (case e1 => omega);)
  | ((with_reducible refine' v_powE ?e1 ?e2 ?_); (case e1 => first | decide | (refine ⟨by decide, by decide, ?_, ?_⟩ <;> omega)); (case e2 => ((try simp only [Int.reduceToNat, Int.reducePow]); rfl)))
  | ((with_reducible refine' v_ne ?e1 ?_); (case e1 => rfl);)
  | ((with_reducible refine' v_ixT ?e1 ?_); (case e1 => rfl);)
  | ((with_reducible refine' v_isi ?e1 ?e2 ?_); (case e1 => rfl); (case e2 => wtm_at "kb");)
  | ((with_reducible refine' v_lenS ?e1 ?_); (case e1 => wtm_at "size");)
  | ((with_reducible refine' v_addS ?e1 ?_); (case e1 => wtm_at "size");)
  | ((with_reducible refine' v_slS ?e1 ?_); (case e1 => wtm_at "size");)
  | ((with_reducible refine' v_ixS ?e1 ?e2 ?e3 ?_); (case e1 => wtm_at "size"); (case e2 => omega); (case e3 => first | omega | (simp only [show _ = _ from by assumption]; omega)); intro c' hc' hc2)
  | (with_reducible refine w_ml ?_)
  | (with_reducible refine w_kML ?_)
  | ((with_reducible refine' w_kMLO ?e1 ?_); (case e1 => rfl);)
  | (with_reducible refine w_callN ?_)
  | (with_reducible refine v_rev ?_)
  | (with_reducible refine v_listEn ?_)
  | (with_reducible refine v_ixAd ?_)
  | (with_reducible refine v_ixAl ?_)
  | (with_reducible refine v_ixAt ?_)
  | ((with_reducible refine' v_inAd ?e1 ?_); (case e1 => rfl);)
  | ((with_reducible refine' w_extend ?e1 ?_); (case e1 => rfl);)
  | ((with_reducible refine' w_kExt ?e1 ?e2 ?e3 ?_); (case e1 => rfl); (case e2 => wtm_at "side"); (case e3 => wtm_at "set");)))
theorem u_take {b : Addr} {t : T} {m : Int} {n : Nat} {P : T → List Slot → Prop} (hb : BoxT t n) (hn : n ≤ 1000000) (h0 : 0 < m) (h1 : m ≤ 1000000) (h : ∀ (r : Int) (t' : T), 0 ≤ r → r < m → BoxT t' (n + 1) → P (.int r) [.ref b t', .val (.int m)]) : ps_take [.ref b t, .val (.int m)] P := ⟨b, t, m, n, rfl, hb, hn, h0, h1, h⟩
local macro_rules | `(tactic| wtm_at "u") => `(tactic| first
  | ((with_reducible refine' u_take ?s1 ?s2 ?s3 ?s4 ?_); (case s1 => assumption); (case s2 => omega); (case s3 => omega); (case s4 => omega); intro r' t' hr0 hr1 bx)
  | (with_reducible refine u_signs ?_))
def ps_cell : PSp := fun sl P => ∃ (ns : List Int) (k : Int), sl = [.val (.scr ns), .val (.int k)] ∧ 0 ≤ k ∧ k ≤ 1000000 ∧ ∀ c, P (.int c) [.val (.scr ns), .val (.int k)]
theorem u_cell {ns : List Int} {k : Int} {P : T → List Slot → Prop} (h0 : 0 ≤ k) (h1 : k ≤ 1000000) (h : ∀ c, P (.int c) [.val (.scr ns), .val (.int k)]) : ps_cell [.val (.scr ns), .val (.int k)] P := ⟨ns, k, rfl, h0, h1, h⟩
theorem pure_cell : ∀ sl P, ps_cell sl P → p__law_cell (pdOf false sl P) (sl ++ nones 0) := by
  rintro sl P ⟨ns, k, rfl, h0, h1, q⟩
  show p__law_cell _ [_, _]
  unfold p__law_cell
  repeat wtm_at "w"
  refine iteB (fun c => ?_) (fun c => ?_)
  · repeat wtm_at "w"
    exact v_ixScr h0 (of_decide_eq_true c) fun n => ⟨trivial, q n⟩
  · repeat wtm_at "w"
    exact ⟨trivial, q _⟩
def ps_box : PSp := fun sl P => ∃ c : Int, sl = [.val (.int c)] ∧ ∀ t, BoxT t 0 → P t [.val (.int c)]
theorem u_box {c : Int} {P : T → List Slot → Prop} (h : ∀ t, BoxT t 0 → P t [.val (.int c)]) : ps_box [.val (.int c)] P := ⟨c, rfl, h⟩
theorem pure_box : ∀ sl P, ps_box sl P → p__law_box (pdOf true sl P) (sl ++ nones 0) := by
  rintro sl P ⟨c, rfl, q⟩
  show p__law_box _ [_]
  unfold p__law_box
  repeat wtm_at "w"
  refine ⟨trivial, q _ ⟨_, _, _, rfl, ?_, Int.emod_nonneg _ (by decide), Int.emod_lt_of_pos _ (by decide), Int.le_refl 0, Int.le_refl 0⟩⟩
  split <;> omega
theorem okInt_of {i : Int} (h1 : -1000000000000000000 < i) (h2 : i < 1000000000000000000) : okInt i = true := by unfold okInt; rw [decide_eq_true h1, decide_eq_true h2]; rfl
def ps_number : PSp := fun sl P => ∃ (b : Addr) (t : T) (n : Nat), sl = [.ref b t] ∧ BoxT t n ∧ n ≤ 900000 ∧ ∀ (i : Int) (t' : T), okInt i = true → BoxT t' (n + 6) → P (.int i) [.ref b t']
def ps_text : PSp := fun sl P => ∃ (b : Addr) (t : T) (n : Nat), sl = [.ref b t] ∧ BoxT t n ∧ n ≤ 900000 ∧ ∀ (z : Str) (t' : T), z.length ≤ 40 → allIn z signs = true → BoxT t' (n + 6) → P (.str z) [.ref b t']
theorem rng_get {lo : Int} {n i : Nat} {x : T} (h : (rngT lo n)[i]? = some x) : i < n ∧ x = .int (lo + (i : Int)) := by
  unfold rngT at h
  rw [List.getElem?_map] at h
  by_cases c : i < n
  · rw [List.getElem?_range c] at h; exact ⟨c, (Option.some.inj h).symm⟩
  · rw [List.getElem?_eq_none_iff.mpr (by simp; omega)] at h; cases h
theorem rng_len {lo : Int} {n : Nat} : (rngT lo n).length = n := by unfold rngT; simp
theorem pure_lnumber : ∀ sl P, ps_number sl P → p__law_number ps_take (pdOf false sl P) (sl ++ nones 3) := by
  rintro sl P ⟨b, t, n, rfl, hb, hn, q⟩
  show p__law_number _ _ [_, .none, .none, .none]
  unfold p__law_number
  repeat (first | wtm_at "w" | wtm_at "u")
  refine iteB (fun c1 => ?_) (fun c1 => ?_)
  · repeat (first | wtm_at "w" | wtm_at "u")
    exact ⟨⟨rfl, trivial⟩, q _ _ (okInt_of (by omega) (by omega)) (BoxT.mono (by assumption) (by omega))⟩
  · repeat (first | wtm_at "w" | wtm_at "u")
    refine iteB (fun c2 => ?_) (fun c2 => ?_)
    · repeat (first | wtm_at "w" | wtm_at "u")
      rename_i r0 t0 hr00 hr01 bx0 r1 t1 hr10 hr11 bx1
      refine v_ixLo hr10 (by show r1 < 2; omega) fun y hy _ => ?_
      simp only [List.mem_cons, List.mem_nil_iff, or_false] at hy
      rcases hy with rfl | rfl
      all_goals
        repeat (first | wtm_at "w" | wtm_at "u")
        exact ⟨⟨rfl, trivial⟩, q _ _ (okInt_of (by omega) (by omega)) (BoxT.mono (by assumption) (by omega))⟩
    · repeat (first | wtm_at "w" | wtm_at "u")
      rename_i r0 t0 hr00 hr01 bx0 r1 t1 hr10 hr11 bx1
      refine for_inv (fun i env => ∃ (v : Int) (k : Slot) (t' : T), env = [.ref b t', .val (.int r0), .val (.int v), k] ∧ noRef env 3 ∧ 0 ≤ v ∧ v < ((1000000 ^ i : Nat) : Int) ∧ BoxT t' (n + 2 + i)) ⟨0, _, _, rfl, trivial, Int.le_refl 0, by decide, bx1⟩ ?_ ?_
      · rintro env ⟨v, k, t', rfl, _, hv0, hv1, bx⟩
        rw [rng_len] at hv1 bx
        have hp : 1000000 ^ (1 + r1).toNat ≤ 1000000 ^ 3 := Nat.pow_le_pow_right (by decide) (by omega)
        generalize 1000000 ^ (1 + r1).toNat = u at hv1 hp
        rw [show (1000000 : Nat) ^ 3 = 1000000000000000000 from rfl] at hp
        repeat (first | wtm_at "w" | wtm_at "u")
        rename_i r2 t2 hr20 hr21 bx2
        refine v_ixLo hr20 (by show r2 < 2; omega) fun y hy _ => ?_
        simp only [List.mem_cons, List.mem_nil_iff, or_false] at hy
        rcases hy with rfl | rfl
        all_goals
          repeat (first | wtm_at "w" | wtm_at "u")
          exact ⟨⟨rfl, trivial⟩, q _ _ (okInt_of (by omega) (by omega)) (bx2.mono (by omega))⟩
      · rintro i x env N hx ⟨v, k, t', rfl, nr, hv0, hv1, bx⟩ hN
        obtain ⟨hi, rfl⟩ := rng_get hx
        have hp : 1000000 ^ i ≤ 1000000 ^ 3 := Nat.pow_le_pow_right (by decide) (by omega)
        have hps : 1000000 ^ (i + 1) = 1000000 ^ i * 1000000 := Nat.pow_succ ..
        generalize 1000000 ^ i = u at hv1 hp hps
        rw [show (1000000 : Nat) ^ 3 = 1000000000000000000 from rfl] at hp
        refine w_name nr rfl ?_
        repeat (first | wtm_at "w" | wtm_at "u")
        refine hN _ ⟨_, _, _, rfl, trivial, ?_, ?_, by assumption⟩
        · omega
        · rw [hps]; omega
theorem chars_sum {ys : List Str} (h : ∀ y, y ∈ ys → y.length = 1) : (ys.map (·.length)).sum = ys.length := by
  induction ys with
  | nil => rfl
  | cons y r ih =>
    rw [List.map_cons, List.sum_cons, ih fun z hz => h z (by simp [hz]), h y (by simp), List.length_cons]
    omega
/-- one-sign texts -/
def Ch (l : Str) (t : T) : Prop := ∃ c, c ∈ l.cps.toList ∧ t = .str ⟨#[c]⟩
theorem chars_of {l : Str} : ∀ {ts : List T}, (∀ t, t ∈ ts → Ch l t) → ∃ ys : List Str, ts = ys.map T.str ∧ ys.length = ts.length ∧ (∀ y, y ∈ ys → y.length = 1) ∧ (Txt.join "" ys).length = ts.length ∧ Cs (· ∈ l.cps.toList) (Txt.join "" ys) := by
  intro ts h
  have e : ∃ ys : List Str, ts = ys.map T.str ∧ ∀ y, y ∈ ys → ∃ c, c ∈ l.cps.toList ∧ y = ⟨#[c]⟩ := by
    induction ts with
    | nil => exact ⟨[], rfl, fun y hy => nomatch hy⟩
    | cons t r ih =>
      obtain ⟨ys, e, hy⟩ := ih fun z hz => h z (by simp [hz])
      obtain ⟨c, hc, rfl⟩ := h t (by simp)
      refine ⟨⟨#[c]⟩ :: ys, by rw [e]; rfl, fun y hy2 => ?_⟩
      rcases List.mem_cons.mp hy2 with rfl | hy2
      · exact ⟨c, hc, rfl⟩
      · exact hy y hy2
  obtain ⟨ys, rfl, hy⟩ := e
  have h1 : ∀ y, y ∈ ys → y.length = 1 := fun y hy2 => by obtain ⟨c, _, rfl⟩ := hy y hy2; rfl
  refine ⟨ys, rfl, by simp, h1, ?_, ?_⟩
  · rw [TL.join_eq, join0_len, chars_sum h1]; simp
  · rw [TL.join_eq]
    refine cs_join (fun c hc => nomatch hc) ys fun y hy2 => ?_
    obtain ⟨c, hc, rfl⟩ := hy y hy2
    exact Cs.one hc
theorem allIn_of {z w : Str} (h : Cs (· ∈ w.cps.toList) z) : allIn z w = true := by
  unfold allIn
  exact List.all_eq_true.mpr fun c hc => decide_eq_true (h c hc)
theorem of_allIn {z w : Str} (h : allIn z w = true) : Cs (· ∈ w.cps.toList) z := by
  unfold allIn at h
  exact fun c hc => of_decide_eq_true (List.all_eq_true.mp h c hc)
theorem signs_len : signs.length = 94 := by decide +kernel
theorem letters_len : letters.length = 26 := by decide +kernel
theorem pure_ltext : ∀ sl P, ps_text sl P → p__law_text ps_signs ps_take (pdOf false sl P) (sl ++ nones 5) := by
  rintro sl P ⟨b, t, n, rfl, hb, hn, q⟩
  show p__law_text _ _ _ [_, .none, .none, .none, .none, .none]
  unfold p__law_text
  have eS := signs_len
  repeat (first | wtm_at "w" | wtm_at "u")
  rename_i r0 t0 hr00 hr01 bx0 r1 t1 hr10 hr11 bx1 r2 t2 hr20 hr21 bx2
  refine v_ixLo hr20 (by show r2 < 3; omega) fun y hy _ => ?_
  have hy2 : ∃ k : Int, y = .int k ∧ 0 ≤ k ∧ k ≤ 40 := by
    simp only [List.mem_cons, List.mem_nil_iff, or_false] at hy
    rcases hy with rfl | rfl | rfl
    · exact ⟨_, rfl, by omega, by omega⟩
    · exact ⟨_, rfl, by omega, by omega⟩
    · exact ⟨_, rfl, by omega, by omega⟩
  obtain ⟨k, rfl, hk0, hk1⟩ := hy2
  repeat (first | wtm_at "w" | wtm_at "u")
  rename_i r3 t3 hr30 hr31 bx3 r4 t4 hr40 hr41 bx4
  refine lc_all (env0 := [.ref b t4, .val (.str signs), .val (.int k), .val (.int r3), .val (.int r4), .none]) rfl (by rw [rng_len]; omega) (fun _ env => env = [.ref b t4, .val (.str signs), .val (.int k), .val (.int r3), .val (.int r4), .none]) (Ch signs) rfl (fun i x env N hi hx hw hN => ?_) fun ys env hl hys hw => ?_
  · subst hw
    obtain ⟨hi, rfl⟩ := rng_get hx
    repeat wtm_at "w"
    exact hN _ _ ⟨_, by assumption, rfl⟩ rfl
  · subst hw
    obtain ⟨zs, rfl, h1, h2, h3, h4⟩ := chars_of hys
    rw [rng_len] at hl
    repeat wtm_at "w"
    refine v_join (by rw [chars_sum h2]; show _ + _ * 0 ≤ _; simp at hl; omega) ?_
    exact ⟨⟨rfl, trivial⟩, q _ _ (by rw [h3]; omega) (allIn_of h4) (bx4.mono (by omega))⟩
end Pu

namespace Pu
open PySem PySem.Spec PyProof.Rows L2 He Hk
local macro_rules | `(tactic| wtm_at "kb") => `(tactic| first | with_reducible exact kb_NoneType_int | with_reducible exact kb_NoneType_bool | with_reducible exact kb_NoneType_str | with_reducible exact kb_NoneType_list | with_reducible exact kb_NoneType_tuple | with_reducible exact kb_NoneType_dict | with_reducible exact kb_bool_int | with_reducible exact kb_bool_bool | with_reducible exact kb_bool_str | with_reducible exact kb_bool_list | with_reducible exact kb_bool_tuple | with_reducible exact kb_bool_dict | with_reducible exact kb_int_int | with_reducible exact kb_int_bool | with_reducible exact kb_int_str | with_reducible exact kb_int_list | with_reducible exact kb_int_tuple | with_reducible exact kb_int_dict | with_reducible exact kb_str_int | with_reducible exact kb_str_bool | with_reducible exact kb_str_str | with_reducible exact kb_str_list | with_reducible exact kb_str_tuple | with_reducible exact kb_str_dict | with_reducible exact kb_list_int | with_reducible exact kb_list_bool | with_reducible exact kb_list_str | with_reducible exact kb_list_list | with_reducible exact kb_list_tuple | with_reducible exact kb_list_dict | with_reducible exact kb_tuple_int | with_reducible exact kb_tuple_bool | with_reducible exact kb_tuple_str | with_reducible exact kb_tuple_list | with_reducible exact kb_tuple_tuple | with_reducible exact kb_tuple_dict | with_reducible exact kb_dict_int | with_reducible exact kb_dict_bool | with_reducible exact kb_dict_str | with_reducible exact kb_dict_list | with_reducible exact kb_dict_tuple | with_reducible exact kb_dict_dict)
local macro_rules | `(tactic| wtm_at "set") => `(tactic| ((try simp only [backE, reown, List.set_cons_zero, List.set_cons_succ, List.getElem?_cons_zero, List.getElem?_cons_succ]); rfl))
local macro_rules | `(tactic| wtm_at "side") => `(tactic| first | assumption | decide | omega)
local macro_rules | `(tactic| wtm_at "ln") => `(tactic| first | omega | exact len_one (by omega) | (refine len_cut ?_; wtm_at "ln") | (refine len_app ?_ ?_ <;> wtm_at "ln") | decide +kernel)
local macro_rules | `(tactic| wtm_at "size") => `(tactic| first | assumption | wtm_at "ln" | (refine Nat.le_trans (Nat.add_le_add (b := 8000000) (d := 8000000) ?_ ?_) (by decide) <;> wtm_at "ln"))
local macro_rules | `(tactic| wtm_at "w") => `(tactic| (first
  | (with_reducible refine w_op ?_)
  | (with_reducible refine w_cons ?_)
  | ((with_reducible refine' w_consV ?e1 ?_); (case e1 => exact trivial);)
  | (with_reducible refine w_c ?_)
  | (with_reducible refine w_nil ?_)
  | ((with_reducible refine' w_kO ?e1 ?_); (case e1 => rfl);)
  | ((with_reducible refine' w_var ?e1 ?_); (case e1 => rfl);)
  | (with_reducible refine w_seq ?_)
  | (with_reducible refine w_asg ?_)
  | ((with_reducible refine' w_name ?e1 ?e2 ?_); (case e1 => exact trivial); (case e2 => wtm_at "set");)
  | (with_reducible refine w_if ?_)
  | (with_reducible refine w_test ?_)
  | (with_reducible refine w_kB ?_)
  | (with_reducible refine w_call ?_)
  | ((with_reducible refine' w_kC ?e1 ?e2 ?_); (case e1 => rfl); (case e2 => rfl);)
  | ((with_reducible refine' w_kBk ?e1 ?_); (case e1 => wtm_at "set");)
  | (with_reducible refine w_ret ?_)
  | (with_reducible refine iteT' ?_)
  | (with_reducible refine iteF' ?_)
  | (with_reducible refine w_and ?_)
  | (with_reducible refine w_or ?_)
  | (with_reducible refine w_not ?_)
  | (with_reducible refine w_next ?_)
  | ((with_reducible refine' v_ixL ?e1 ?_); (case e1 => rfl);)
  | (with_reducible refine v_addI ?_)
  | ((with_reducible refine' v_eq ?e1 ?_); (case e1 => rfl);)
  | (with_reducible refine w_lst ?_)
  | ((with_reducible refine' w_kV2 ?e1 ?e2 ?_); (case e1 => rfl); (case e2 => exact Nat.le_of_ble_eq_true rfl);)
  | (with_reducible refine w_own ?_)
  | (with_reducible refine w_drop ?_)
  | (with_reducible refine w_andV ?_)
  | (with_reducible refine w_orV ?_)
  | (with_reducible refine w_notV ?_)
  | (with_reducible refine w_ifE ?_)
  | (with_reducible refine w_chain ?_)
  | (with_reducible refine w_yes ?_)
  | (with_reducible refine w_tup ?_)
  | (with_reducible refine w_dnew ?_)
  | (with_reducible refine w_disp ?_)
  | (with_reducible refine w_pnil ?_)
  | (with_reducible refine w_pcons ?_)
  | (with_reducible refine w_sl ?_)
  | (with_reducible refine w_noPart ?_)
  | (with_reducible refine w_part ?_)
  | (with_reducible refine w_kI ?_)
  | (with_reducible refine w_m ?_)
  | (with_reducible refine w_kM ?_)
  | (with_reducible refine w_piList ?_)
  | (with_reducible refine w_kL ?_)
  | (with_reducible refine w_piTup ?_)
  | (with_reducible refine w_kTu ?_)
  | (with_reducible refine w_piStr ?_)
  | (with_reducible refine w_kSt ?_)
  | (with_reducible refine w_piRng1 ?_)
  | (with_reducible refine w_piRng2 ?_)
  | (with_reducible refine w_piD ?_)
  | (with_reducible refine w_kD ?_)
  | (with_reducible refine w_for ?_)
  | (with_reducible refine w_lc ?_)
  | (with_reducible refine v_sub ?_)
  | (with_reducible refine v_neg ?_)
  | (with_reducible refine v_le ?_)
  | (with_reducible refine v_gt ?_)
  | (with_reducible refine v_ge ?_)
  | (with_reducible refine v_lt ?_)
  | (with_reducible refine v_ltS ?_)
  | (with_reducible refine v_inS ?_)
  | (with_reducible refine v_notInS ?_)
  | (with_reducible refine v_lenL ?_)
  | (with_reducible refine v_lenT ?_)
  | (with_reducible refine v_lenD ?_)
  | (with_reducible refine v_lenC ?_)
  | (with_reducible refine v_max2 ?_)
  | (with_reducible refine v_min2 ?_)
  | (with_reducible refine v_listD ?_)
  | (with_reducible refine v_listV ?_)
  | (with_reducible refine v_dictD ?_)
  | (with_reducible refine v_tupleL ?_)
  | (with_reducible refine v_tupleT ?_)
  | (with_reducible refine v_int1 ?_)
  | (with_reducible refine v_int2 ?_)
  | (with_reducible refine v_isN ?_)
  | (with_reducible refine v_notN ?_)
  | (with_reducible refine v_slL ?_)
  | (with_reducible refine v_slT ?_)
  | ((with_reducible refine' w_varO ?e1 ?e2 ?_); (case e1 => rfl); (case e2 => wtm_at "set");)
  | ((with_reducible refine' w_kMO ?e1 ?_); (case e1 => rfl);)
  | ((with_reducible refine' w_kOwn ?e1 ?_); (case e1 => exact trivial); (intro p' env' ee'; simp only [List.set_cons_zero, List.set_cons_succ] at ee'; subst ee'))
  | ((with_reducible refine' w_kDs ?e1 ?e2 ?_); (case e1 => rfl); (case e2 => exact Nat.le_of_ble_eq_true rfl);)
  | ((with_reducible refine' w_slV ?e1 ?_); (case e1 => exact trivial);)
  | ((with_reducible refine' w_kSl ?e1 ?_); (case e1 => rfl);)
  | ((with_reducible refine' w_setL ?e1 ?_); (case e1 => exact trivial);)
  | ((with_reducible refine' w_setD ?e1 ?_); (case e1 => exact trivial);)
  | ((with_reducible refine' w_kSetL ?e1 ?e2 ?e3 ?_); (case e1 => rfl); (case e2 => rfl); (case e3 => wtm_at "set");)
  | ((with_reducible refine' w_kSetD ?e1 ?e2 ?e3 ?e4 ?_); (case e1 => rfl); (case e2 => wtm_at "side"); (case e3 => rfl); (case e4 => wtm_at "set");)
  | ((with_reducible refine' w_append ?e1 ?_); (case e1 => rfl);)
  | ((with_reducible refine' w_kApp ?e1 ?e2 ?e3 ?_); (case e1 => rfl); (case e2 => wtm_at "side"); (case e3 => wtm_at "set");)
  | ((with_reducible refine' w_kR1 ?e1 ?_); (case e1 => omega);)
  | ((with_reducible refine' w_kR2 ?e1 ?_); (case e1 => omega);)
  | ((with_reducible refine' iteTrue ?e1 ?_); (case e1 => rfl);)
  | ((with_reducible refine' iteFalse ?e1 ?_); (case e1 => rfl);)
  | ((with_reducible refine' v_mod ?e1 ?_); (case e1 => wtm_at "side");)
  | ((with_reducible refine' v_mulI ?e1 ?_); (case e1 => first | exact s_mul (by omega) (by omega) | (unfold CMulW; decide +kernel));)
  | ((with_reducible refine' v_div ?e1 ?_); (case e1 => omega);)
  | ((with_reducible refine' v_powE ?e1 ?e2 ?_); (case e1 => first | decide | (refine ⟨by decide, by decide, ?_, ?_⟩ <;> omega)); (case e2 => ((try simp only [Int.reduceToNat, Int.reducePow]); rfl)))
  | ((with_reducible refine' v_ne ?e1 ?_); (case e1 => rfl);)
  | ((with_reducible refine' v_ixT ?e1 ?_); (case e1 => rfl);)
  | ((with_reducible refine' v_isi ?e1 ?e2 ?_); (case e1 => rfl); (case e2 => wtm_at "kb");)
  | ((with_reducible refine' v_lenS ?e1 ?_); (case e1 => wtm_at "size");)
  | ((with_reducible refine' v_addS ?e1 ?_); (case e1 => wtm_at "size");)
  | ((with_reducible refine' v_slS ?e1 ?_); (case e1 => wtm_at "size");)
  | ((with_reducible refine' v_ixS ?e1 ?e2 ?e3 ?_); (case e1 => wtm_at "size"); (case e2 => omega); (case e3 => first | omega | (simp only [show _ = _ from by assumption]; omega)); intro c' hc' hc2)
  | (with_reducible refine w_ml ?_)
  | (with_reducible refine w_kML ?_)
  | ((with_reducible refine' w_kMLO ?e1 ?_); (case e1 => rfl);)
  | (with_reducible refine w_callN ?_)
  | (with_reducible refine v_rev ?_)
  | (with_reducible refine v_listEn ?_)
  | (with_reducible refine v_ixAd ?_)
  | (with_reducible refine v_ixAl ?_)
  | (with_reducible refine v_ixAt ?_)
  | ((with_reducible refine' v_inAd ?e1 ?_); (case e1 => rfl);)
  | ((with_reducible refine' w_extend ?e1 ?_); (case e1 => rfl);)
  | ((with_reducible refine' w_kExt ?e1 ?e2 ?e3 ?_); (case e1 => rfl); (case e2 => wtm_at "side"); (case e3 => wtm_at "set");)))
local macro_rules | `(tactic| wtm_at "u") => `(tactic| first
  | ((with_reducible refine' u_take ?s1 ?s2 ?s3 ?s4 ?_); (case s1 => assumption); (case s2 => omega); (case s3 => omega); (case s4 => omega); intro r' t' hr0 hr1 bx)
  | (with_reducible refine u_signs ?_))
theorem cut_from {xs : List T} {i : Int} (h0 : 0 ≤ i) (h1 : i ≤ (xs.length : Int)) : cutT xs (some i) none = xs.drop i.toNat := by
  unfold cutT
  have e : HT.sIx xs.length 0 (some i) = i.toNat := by
    show (if i < 0 then _ else min i.toNat xs.length) = _
    rw [if_neg (by omega)]; omega
  rw [e, HT.sIx_none]
  exact List.take_of_length_le (by rw [List.length_drop]; exact Nat.le_refl _)
theorem cut_to {xs : List T} {i : Int} (h0 : 0 ≤ i) (h1 : i ≤ (xs.length : Int)) : cutT xs none (some i) = xs.take i.toNat := by
  unfold cutT
  have e : HT.sIx xs.length xs.length (some i) = i.toNat := by
    show (if i < 0 then _ else min i.toNat xs.length) = _
    rw [if_neg (by omega)]; omega
  rw [e, HT.sIx_none]
  simp
theorem cutS_from {z : Str} {i : Int} (h0 : 0 ≤ i) (h1 : i ≤ (z.length : Int)) : (cutS z (some i) none).length = z.length - i.toNat := by
  have e : HT.sIx z.length 0 (some i) = i.toNat := by
    show (if i < 0 then _ else min i.toNat z.length) = _
    rw [if_neg (by omega)]; omega
  show (List.toArray _).size = _
  rw [List.size_toArray, List.length_take, List.length_drop, Array.length_toList, e, HT.sIx_none]
  show min (z.length - i.toNat) (z.cps.size - i.toNat) = _
  have : z.length = z.cps.size := rfl
  omega
theorem cutS_to {z : Str} {i : Int} (h0 : 0 ≤ i) (h1 : i ≤ (z.length : Int)) : (cutS z none (some i)).length = i.toNat := by
  have e : HT.sIx z.length z.length (some i) = i.toNat := by
    show (if i < 0 then _ else min i.toNat z.length) = _
    rw [if_neg (by omega)]; omega
  show (List.toArray _).size = _
  rw [List.size_toArray, List.length_take, List.length_drop, Array.length_toList, e, HT.sIx_none]
  have : z.length = z.cps.size := rfl
  omega
/-! a text repeated -/
theorem fold_rep (a : Array Nat) : ∀ (k : Nat) (acc : Array Nat), ((List.replicate k a).foldl (· ++ ·) acc).size = acc.size + k * a.size ∧ ∀ c, c ∈ ((List.replicate k a).foldl (· ++ ·) acc).toList → c ∈ acc.toList ∨ c ∈ a.toList
  | 0, acc => ⟨by simp, fun c h => .inl h⟩
  | k + 1, acc => by
    obtain ⟨h1, h2⟩ := fold_rep a k (acc ++ a)
    rw [List.replicate_succ, List.foldl_cons]
    refine ⟨?_, fun c hc => ?_⟩
    · rw [h1, Array.size_append, Nat.add_mul]; omega
    · rcases h2 c hc with z | z
      · rw [Array.toList_append] at z
        exact List.mem_append.mp z
      · exact .inr z
theorem mul_len {z : Str} {k : Int} (h0 : 0 ≤ k) : (Txt.mul z k).length = z.length * k.toNat := by
  unfold Txt.mul
  by_cases h1 : k < 1
  · rw [if_pos h1, show k.toNat = 0 from by omega]; rfl
  · rw [if_neg h1]
    by_cases h2 : (k == 1 || z.length == 0) = true
    · rw [if_pos h2]
      rcases (Bool.or_eq_true_iff.mp h2) with h | h
      · have : k = 1 := by simpa using h
        rw [this]; simp
      · have : z.length = 0 := by simpa using h
        rw [this]; simp
    · rw [if_neg h2]
      show ((List.replicate k.toNat z.cps).foldl (· ++ ·) #[]).size = _
      rw [(fold_rep z.cps k.toNat #[]).1, Nat.mul_comm]
      show 0 + _ = _
      rw [Nat.zero_add]; rfl
theorem mul_cs {P : Nat → Prop} {z : Str} {k : Int} (h : Cs P z) : Cs P (Txt.mul z k) := by
  unfold Txt.mul
  by_cases h1 : k < 1
  · rw [if_pos h1]; exact fun c hc => nomatch hc
  · rw [if_neg h1]
    by_cases h2 : (k == 1 || z.length == 0) = true
    · rw [if_pos h2]; exact h
    · rw [if_neg h2]
      intro c hc
      rcases (fold_rep z.cps k.toNat #[]).2 c hc with q | q
      · exact nomatch q
      · exact h c q
def isName (z : Str) : Prop := 1 ≤ z.length ∧ z.length ≤ 8 ∧ Cs (· ∈ letters.cps.toList) z
theorem isName.ok {z : Str} (h : isName z) : okName (.inr z) = true := by
  show (decide (1 ≤ (z.length : Int)) && (decide ((z.length : Int) ≤ 8) && allIn z letters)) = true
  rw [allIn_of h.2.2, decide_eq_true (by have := h.1; omega), decide_eq_true (by have := h.2.1; omega)]
  rfl
theorem cut_sum (z : Str) {i : Int} (h0 : 0 ≤ i) : (cutS z none (some i)).length + (cutS z (some i) none).length = z.length := by
  have e1 : HT.sIx z.length z.length (some i) = min i.toNat z.length := by
    show (if i < 0 then _ else min i.toNat z.length) = _
    rw [if_neg (by omega)]
  have e2 : HT.sIx z.length 0 (some i) = min i.toNat z.length := by
    show (if i < 0 then _ else min i.toNat z.length) = _
    rw [if_neg (by omega)]
  show (List.toArray _).size + (List.toArray _).size = _
  rw [List.size_toArray, List.size_toArray, List.length_take, List.length_drop, List.length_take, List.length_drop, Array.length_toList, e1, e2, HT.sIx_none, HT.sIx_none]
  have : z.length = z.cps.size := rfl
  omega
theorem name1 {c : Nat} (h : c ∈ letters.cps.toList) : isName ⟨#[c]⟩ := ⟨Nat.le_refl 1, by show 1 ≤ 8; decide, Cs.one h⟩

/-- a name as a thing -/
def Nm (t : T) : Prop := ∃ z, t = .str z ∧ isName z
def ps_names : PSp := fun sl P => ∃ (b : Addr) (t : T) (m : Int) (n : Nat), sl = [.ref b t, .val (.int m)] ∧ BoxT t n ∧ n ≤ 900000 ∧ 0 ≤ m ∧ m ≤ 8 ∧
  ∀ (ys : List T) (t' : T), (∀ y, y ∈ ys → Nm y) → ys.length = m.toNat → BoxT t' (n + 20) → P (.lst ys) [.ref b t', .val (.int m)]
theorem u_names {b : Addr} {t : T} {m : Int} {n : Nat} {P : T → List Slot → Prop} (hb : BoxT t n) (hn : n ≤ 900000) (h0 : 0 ≤ m) (h1 : m ≤ 8)
    (h : ∀ (ys : List T) (t' : T), (∀ y, y ∈ ys → Nm y) → ys.length = m.toNat → BoxT t' (n + 20) → P (.lst ys) [.ref b t', .val (.int m)]) : ps_names [.ref b t, .val (.int m)] P := ⟨b, t, m, n, rfl, hb, hn, h0, h1, h⟩
/-- the end of the names: they are turned about -/
theorem names_tail {b : Addr} {t : T} {m : Int} {n : Nat} {ys : List T} {w3 w4 w6 w7 w8 w9 w10 : Slot} {t0 : T} {P : T → List Slot → Prop} (hb : BoxT t n) (hn : n ≤ 1000000) (h0 : 0 ≤ m) (h1 : m ≤ 8) (hy : ∀ y, y ∈ ys → Nm y) (hl : ys.length = m.toNat) (h8 : noRef [.ref b t, .val (.int m), .val (.str letters), w3, w4, .val (.lst ys), w6, w7, w8, w9, w10] 8)
    (q : ∀ (ys : List T) (t' : T), (∀ y, y ∈ ys → Nm y) → ys.length = m.toNat → BoxT t' (n + 1) → P (.lst ys) [.ref b t', .val (.int m)]) :
    (pSeq (pAsg (pCall ps_take (pConsV 0 (pCons (pOp Pu.oAdd (pConsV 1 (pCons (pC (.int 1)) pNil))) pNil))) (pgName 8))
    (pRet (pOp Pu.oAdd (pCons (pSlV 5 (pPart (pVar 8)) pNoPart) (pCons (pSlV 5 pNoPart (pPart (pVar 8))) pNil))))) (pdOf false [.ref b t0, .val (.int m)] P) [.ref b t, .val (.int m), .val (.str letters), w3, w4, .val (.lst ys), w6, w7, w8, w9, w10] := by
  repeat (first | wtm_at "w" | wtm_at "u")
  rename_i r t1 hr0 hr1 bx
  refine w_name h8 rfl ?_
  repeat (first | wtm_at "w" | wtm_at "u")
  rw [cut_from hr0 (by omega), cut_to hr0 (by omega)]
  refine v_addL (by rw [List.length_drop, List.length_take]; omega) ?_
  refine ⟨⟨rfl, trivial⟩, q _ _ (fun y h => ?_) ?_ bx⟩
  · rcases List.mem_append.mp h with h | h
    · exact hy y (List.mem_of_mem_drop h)
    · exact hy y (List.mem_of_mem_take h)
  · rw [List.length_append, List.length_drop, List.length_take, hl]; omega
theorem pure_names : ∀ sl P, ps_names sl P → p__law_names ps_take (pdOf false sl P) (sl ++ nones 9) := by
  rintro sl P ⟨b, t, m, n, rfl, hb, hn, h0, h1, q⟩
  show p__law_names _ _ [_, _, .none, .none, .none, .none, .none, .none, .none, .none, .none]
  have eL := letters_len
  unfold p__law_names
  generalize hT : (pSeq (pAsg (pCall ps_take (pConsV 0 (pCons (pOp Pu.oAdd (pConsV 1 (pCons (pC (.int 1)) pNil))) pNil))) (pgName 8))
    (pRet (pOp Pu.oAdd (pCons (pSlV 5 (pPart (pVar 8)) pNoPart) (pCons (pSlV 5 pNoPart (pPart (pVar 8))) pNil))))) = tl
  repeat (first | wtm_at "w" | wtm_at "u")
  rename_i r0 t0 hr00 hr01 bx0 r1 t1 hr10 hr11 bx1
  refine lc_all (env0 := [.ref b t1, .val (.int m), .val (.str letters), .val (.int r0), .val (.int r1), .none, .none, .none, .none, .none, .none]) rfl (by rw [rng_len]; omega)
    (fun _ env => env = [.ref b t1, .val (.int m), .val (.str letters), .val (.int r0), .val (.int r1), .none, .none, .none, .none, .none, .none]) (fun y => Nm y ∧ ∃ z, y = .str z ∧ z.length = 1) rfl (fun i x env N hi hx hw hN => ?_) fun ys env hl hys hw => ?_
  · subst hw
    obtain ⟨hi, rfl⟩ := rng_get hx
    repeat wtm_at "w"
    exact hN _ _ ⟨⟨_, rfl, name1 (by assumption)⟩, _, rfl, rfl⟩ rfl
  · subst hw
    rw [rng_len] at hl
    repeat (first | wtm_at "w" | wtm_at "u")
    refine iteB (fun c => ?_) (fun c => ?_)
    · have c' : r0 = 1 := of_decide_eq_true c
      repeat (first | wtm_at "w" | wtm_at "u")
      rename_i r3 t3 hr30 hr31 bx3 r4 t4 hr40 hr41 bx4
      refine lc_all (env0 := [.ref b t4, .val (.int m), .val (.str letters), .val (.int r0), .val (.int r1), .val (.lst ys), .none, .val (.int r3), .val (.int r4), .none, .none]) rfl (by rw [rng_len]; omega)
        (fun i env => ∃ t', BoxT t' (n + 4 + i) ∧ env = [.ref b t', .val (.int m), .val (.str letters), .val (.int r0), .val (.int r1), .val (.lst ys), .none, .val (.int r3), .val (.int r4), .none, .none]) (Ch letters) ⟨t4, bx4, rfl⟩ (fun i x env N hi hx hw hN => ?_) fun zs env hzl hzs hw => ?_
      · obtain ⟨t', bx', rfl⟩ := hw
        obtain ⟨hi, rfl⟩ := rng_get hx
        repeat (first | wtm_at "w" | wtm_at "u")
        exact hN _ _ ⟨_, by assumption, rfl⟩ ⟨_, by assumption, rfl⟩
      · obtain ⟨t5, bx5, rfl⟩ := hw
        rw [rng_len] at hzl bx5
        obtain ⟨us, rfl, g1, g2, g3, g4⟩ := chars_of hzs
        have gl : us.length ≤ 7 := by rw [List.length_map] at hzl; omega
        repeat (first | wtm_at "w" | wtm_at "u")
        refine v_join (by rw [chars_sum g2]; show _ + _ * 0 ≤ _; omega) ?_
        rw [List.length_map] at g3
        generalize Txt.join "" us = base at g3 g4
        have jl : base.length ≤ 7 := by omega
        repeat (first | wtm_at "w" | wtm_at "u")
        refine lc_all (env0 := [.ref b t5, .val (.int m), .val (.str letters), .val (.int r0), .val (.int r1), .val (.lst ys), .none, .val (.int r3), .val (.int r4), .val (.str base), .none]) rfl (by omega)
          (fun i env => env = [.ref b t5, .val (.int m), .val (.str letters), .val (.int r0), .val (.int r1), .val (.lst ys), .none, .val (.int r3), .val (.int r4), .val (.str base), .none]) Nm rfl (fun i x env N hi hx hw hN => ?_) fun vs env hvl hvs hw => ?_
        · subst hw
          obtain ⟨⟨z, e1, hz⟩, z', e2, hz2⟩ := hys x (List.mem_of_getElem? hx)
          cases e1
          cases e2
          have c1 := cut_sum base hr40
          have k1 := cutS_le base none (some r4)
          have k2 := cutS_le base (some r4) none
          repeat (first | wtm_at "w" | wtm_at "u")
          refine hN _ _ ⟨_, rfl, ?_, ?_, ?_⟩ ?_
          · rw [str_app, str_app]; omega
          · rw [str_app, str_app]; omega
          · exact ((g4.cut _ _).app hz.2.2).app (g4.cut _ _)
          · rfl
        · subst hw
          repeat (first | wtm_at "w" | wtm_at "u")
          refine iteB (fun c2 => ?_) (fun c2 => ?_)
          · have := of_decide_eq_true c2; omega
          · repeat (first | wtm_at "w" | wtm_at "u")
            subst hT
            exact names_tail bx5 (by omega) h0 h1 hvs (by omega) trivial fun ys t' k1 k2 k3 => q ys t' k1 k2 (k3.mono (by omega))
    · repeat (first | wtm_at "w" | wtm_at "u")
      refine iteB (fun c2 => ?_) (fun c2 => ?_)
      · repeat (first | wtm_at "w" | wtm_at "u")
        refine lc_all (env0 := [.ref b t1, .val (.int m), .val (.str letters), .val (.int r0), .val (.int r1), .val (.lst ys), .none, .none, .none, .none, .none]) rfl (by rw [rng_len]; omega)
          (fun i env => env = [.ref b t1, .val (.int m), .val (.str letters), .val (.int r0), .val (.int r1), .val (.lst ys), .none, .none, .none, .none, .none]) Nm rfl (fun i x env N hi hx hw hN => ?_) fun vs env hvl hvs hw => ?_
        · subst hw
          obtain ⟨hi, rfl⟩ := rng_get hx
          repeat (first | wtm_at "w" | wtm_at "u")
          rename_i c3 hc3 _
          refine v_mulS ⟨by omega, by omega, by show 1 ≤ 1000; decide⟩ ?_
          refine hN _ _ ⟨_, rfl, ?_, ?_, mul_cs (Cs.one hc3)⟩ rfl
          · rw [mul_len (by omega), one_len]; omega
          · rw [mul_len (by omega), one_len]; omega
        · subst hw
          rw [rng_len] at hvl
          repeat (first | wtm_at "w" | wtm_at "u")
          subst hT
          exact names_tail bx1 (by omega) h0 h1 hvs hvl trivial fun ys t' k1 k2 k3 => q ys t' k1 k2 (k3.mono (by omega))
      · repeat (first | wtm_at "w" | wtm_at "u")
        subst hT
        exact names_tail bx1 (by omega) h0 h1 (fun y hy => (hys y hy).1) hl trivial fun ys t' k1 k2 k3 => q ys t' k1 k2 (k3.mono (by omega))
end Pu

namespace Pu
open PySem PySem.Spec PyProof.Rows L2 He Hk
local macro_rules | `(tactic| wtm_at "kb") => `(tactic| first | with_reducible exact kb_NoneType_int | with_reducible exact kb_NoneType_bool | with_reducible exact kb_NoneType_str | with_reducible exact kb_NoneType_list | with_reducible exact kb_NoneType_tuple | with_reducible exact kb_NoneType_dict | with_reducible exact kb_bool_int | with_reducible exact kb_bool_bool | with_reducible exact kb_bool_str | with_reducible exact kb_bool_list | with_reducible exact kb_bool_tuple | with_reducible exact kb_bool_dict | with_reducible exact kb_int_int | with_reducible exact kb_int_bool | with_reducible exact kb_int_str | with_reducible exact kb_int_list | with_reducible exact kb_int_tuple | with_reducible exact kb_int_dict | with_reducible exact kb_str_int | with_reducible exact kb_str_bool | with_reducible exact kb_str_str | with_reducible exact kb_str_list | with_reducible exact kb_str_tuple | with_reducible exact kb_str_dict | with_reducible exact kb_list_int | with_reducible exact kb_list_bool | with_reducible exact kb_list_str | with_reducible exact kb_list_list | with_reducible exact kb_list_tuple | with_reducible exact kb_list_dict | with_reducible exact kb_tuple_int | with_reducible exact kb_tuple_bool | with_reducible exact kb_tuple_str | with_reducible exact kb_tuple_list | with_reducible exact kb_tuple_tuple | with_reducible exact kb_tuple_dict | with_reducible exact kb_dict_int | with_reducible exact kb_dict_bool | with_reducible exact kb_dict_str | with_reducible exact kb_dict_list | with_reducible exact kb_dict_tuple | with_reducible exact kb_dict_dict)
local macro_rules | `(tactic| wtm_at "set") => `(tactic| ((try simp only [backE, reown, List.set_cons_zero, List.set_cons_succ, List.getElem?_cons_zero, List.getElem?_cons_succ]); rfl))
local macro_rules | `(tactic| wtm_at "side") => `(tactic| first | assumption | decide | omega)
local macro_rules | `(tactic| wtm_at "ln") => `(tactic| first | omega | exact len_one (by omega) | (refine len_cut ?_; wtm_at "ln") | (refine len_app ?_ ?_ <;> wtm_at "ln") | decide +kernel)
local macro_rules | `(tactic| wtm_at "size") => `(tactic| first | assumption | wtm_at "ln" | (refine Nat.le_trans (Nat.add_le_add (b := 8000000) (d := 8000000) ?_ ?_) (by decide) <;> wtm_at "ln"))
local macro_rules | `(tactic| wtm_at "w") => `(tactic| (first
  | (with_reducible refine w_op ?_)
  | (with_reducible refine w_cons ?_)
  | ((with_reducible refine' w_consV ?e1 ?_); (case e1 => exact trivial);)
  | (with_reducible refine w_c ?_)
  | (with_reducible refine w_nil ?_)
  | ((with_reducible refine' w_kO ?e1 ?_); (case e1 => rfl);)
  | ((with_reducible refine' w_var ?e1 ?_); (case e1 => rfl);)
  | (with_reducible refine w_seq ?_)
  | (with_reducible refine w_asg ?_)
  | ((with_reducible refine' w_name ?e1 ?e2 ?_); (case e1 => exact trivial); (case e2 => wtm_at "set");)
  | (with_reducible refine w_if ?_)
  | (with_reducible refine w_test ?_)
  | (with_reducible refine w_kB ?_)
  | (with_reducible refine w_call ?_)
  | ((with_reducible refine' w_kC ?e1 ?e2 ?_); (case e1 => rfl); (case e2 => rfl);)
  | ((with_reducible refine' w_kBk ?e1 ?_); (case e1 => wtm_at "set");)
  | (with_reducible refine w_ret ?_)
  | (with_reducible refine iteT' ?_)
  | (with_reducible refine iteF' ?_)
  | (with_reducible refine w_and ?_)
  | (with_reducible refine w_or ?_)
  | (with_reducible refine w_not ?_)
  | (with_reducible refine w_next ?_)
  | ((with_reducible refine' v_ixL ?e1 ?_); (case e1 => rfl);)
  | (with_reducible refine v_addI ?_)
  | ((with_reducible refine' v_eq ?e1 ?_); (case e1 => rfl);)
  | (with_reducible refine w_lst ?_)
  | ((with_reducible refine' w_kV2 ?e1 ?e2 ?_); (case e1 => rfl); (case e2 => exact Nat.le_of_ble_eq_true rfl);)
  | (with_reducible refine w_own ?_)
  | (with_reducible refine w_drop ?_)
  | (with_reducible refine w_andV ?_)
  | (with_reducible refine w_orV ?_)
  | (with_reducible refine w_notV ?_)
  | (with_reducible refine w_ifE ?_)
  | (with_reducible refine w_chain ?_)
  | (with_reducible refine w_yes ?_)
  | (with_reducible refine w_tup ?_)
  | (with_reducible refine w_dnew ?_)
  | (with_reducible refine w_disp ?_)
  | (with_reducible refine w_pnil ?_)
  | (with_reducible refine w_pcons ?_)
  | (with_reducible refine w_sl ?_)
  | (with_reducible refine w_noPart ?_)
  | (with_reducible refine w_part ?_)
  | (with_reducible refine w_kI ?_)
  | (with_reducible refine w_m ?_)
  | (with_reducible refine w_kM ?_)
  | (with_reducible refine w_piList ?_)
  | (with_reducible refine w_kL ?_)
  | (with_reducible refine w_piTup ?_)
  | (with_reducible refine w_kTu ?_)
  | (with_reducible refine w_piStr ?_)
  | (with_reducible refine w_kSt ?_)
  | (with_reducible refine w_piRng1 ?_)
  | (with_reducible refine w_piRng2 ?_)
  | (with_reducible refine w_piD ?_)
  | (with_reducible refine w_kD ?_)
  | (with_reducible refine w_for ?_)
  | (with_reducible refine w_lc ?_)
  | (with_reducible refine v_sub ?_)
  | (with_reducible refine v_neg ?_)
  | (with_reducible refine v_le ?_)
  | (with_reducible refine v_gt ?_)
  | (with_reducible refine v_ge ?_)
  | (with_reducible refine v_lt ?_)
  | (with_reducible refine v_ltS ?_)
  | (with_reducible refine v_inS ?_)
  | (with_reducible refine v_notInS ?_)
  | (with_reducible refine v_lenL ?_)
  | (with_reducible refine v_lenT ?_)
  | (with_reducible refine v_lenD ?_)
  | (with_reducible refine v_lenC ?_)
  | (with_reducible refine v_max2 ?_)
  | (with_reducible refine v_min2 ?_)
  | (with_reducible refine v_listD ?_)
  | (with_reducible refine v_listV ?_)
  | (with_reducible refine v_dictD ?_)
  | (with_reducible refine v_tupleL ?_)
  | (with_reducible refine v_tupleT ?_)
  | (with_reducible refine v_int1 ?_)
  | (with_reducible refine v_int2 ?_)
  | (with_reducible refine v_isN ?_)
  | (with_reducible refine v_notN ?_)
  | (with_reducible refine v_slL ?_)
  | (with_reducible refine v_slT ?_)
  | ((with_reducible refine' w_varO ?e1 ?e2 ?_); (case e1 => rfl); (case e2 => wtm_at "set");)
  | ((with_reducible refine' w_kMO ?e1 ?_); (case e1 => rfl);)
  | ((with_reducible refine' w_kOwn ?e1 ?_); (case e1 => exact trivial); (intro p' env' ee'; simp only [List.set_cons_zero, List.set_cons_succ] at ee'; subst ee'))
  | ((with_reducible refine' w_kDs ?e1 ?e2 ?_); (case e1 => rfl); (case e2 => exact Nat.le_of_ble_eq_true rfl);)
  | ((with_reducible refine' w_slV ?e1 ?_); (case e1 => exact trivial);)
  | ((with_reducible refine' w_kSl ?e1 ?_); (case e1 => rfl);)
  | ((with_reducible refine' w_setL ?e1 ?_); (case e1 => exact trivial);)
  | ((with_reducible refine' w_setD ?e1 ?_); (case e1 => exact trivial);)
  | ((with_reducible refine' w_kSetL ?e1 ?e2 ?e3 ?_); (case e1 => rfl); (case e2 => rfl); (case e3 => wtm_at "set");)
  | ((with_reducible refine' w_kSetD ?e1 ?e2 ?e3 ?e4 ?_); (case e1 => rfl); (case e2 => wtm_at "side"); (case e3 => rfl); (case e4 => wtm_at "set");)
  | ((with_reducible refine' w_append ?e1 ?_); (case e1 => rfl);)
  | ((with_reducible refine' w_kApp ?e1 ?e2 ?e3 ?_); (case e1 => rfl); (case e2 => wtm_at "side"); (case e3 => wtm_at "set");)
  | ((with_reducible refine' w_kR1 ?e1 ?_); (case e1 => omega);)
  | ((with_reducible refine' w_kR2 ?e1 ?_); (case e1 => omega);)
  | ((with_reducible refine' iteTrue ?e1 ?_); (case e1 => rfl);)
  | ((with_reducible refine' iteFalse ?e1 ?_); (case e1 => rfl);)
  | ((with_reducible refine' v_mod ?e1 ?_); (case e1 => wtm_at "side");)
  | ((with_reducible refine' v_mulI ?e1 ?_); (case e1 => first | exact s_mul (by omega) (by omega) | (unfold CMulW; decide +kernel));)
  | ((with_reducible refine' v_div ?e1 ?_); (case e1 => omega);)
  | ((with_reducible refine' v_powE ?e1 ?e2 ?_); (case e1 => first | decide | (refine ⟨by decide, by decide, ?_, ?_⟩ <;> omega)); (case e2 => ((try simp only [Int.reduceToNat, Int.reducePow]); rfl)))
  | ((with_reducible refine' v_ne ?e1 ?_); (case e1 => rfl);)
  | ((with_reducible refine' v_ixT ?e1 ?_); (case e1 => rfl);)
  | ((with_reducible refine' v_isi ?e1 ?e2 ?_); (case e1 => rfl); (case e2 => wtm_at "kb");)
  | ((with_reducible refine' v_lenS ?e1 ?_); (case e1 => wtm_at "size");)
  | ((with_reducible refine' v_addS ?e1 ?_); (case e1 => wtm_at "size");)
  | ((with_reducible refine' v_slS ?e1 ?_); (case e1 => wtm_at "size");)
  | ((with_reducible refine' v_ixS ?e1 ?e2 ?e3 ?_); (case e1 => wtm_at "size"); (case e2 => omega); (case e3 => first | omega | (simp only [show _ = _ from by assumption]; omega)); intro c' hc' hc2)
  | (with_reducible refine w_ml ?_)
  | (with_reducible refine w_kML ?_)
  | ((with_reducible refine' w_kMLO ?e1 ?_); (case e1 => rfl);)
  | (with_reducible refine w_callN ?_)
  | (with_reducible refine v_rev ?_)
  | (with_reducible refine v_listEn ?_)
  | (with_reducible refine v_ixAd ?_)
  | (with_reducible refine v_ixAl ?_)
  | (with_reducible refine v_ixAt ?_)
  | ((with_reducible refine' v_inAd ?e1 ?_); (case e1 => rfl);)
  | ((with_reducible refine' w_extend ?e1 ?_); (case e1 => rfl);)
  | ((with_reducible refine' w_kExt ?e1 ?e2 ?e3 ?_); (case e1 => rfl); (case e2 => wtm_at "side"); (case e3 => wtm_at "set");)))
theorem u_number {b : Addr} {t : T} {n : Nat} {P : T → List Slot → Prop} (hb : BoxT t n) (hn : n ≤ 900000) (h : ∀ (i : Int) (t' : T), okInt i = true → BoxT t' (n + 6) → P (.int i) [.ref b t']) : ps_number [.ref b t] P := ⟨b, t, n, rfl, hb, hn, h⟩
theorem u_text {b : Addr} {t : T} {n : Nat} {P : T → List Slot → Prop} (hb : BoxT t n) (hn : n ≤ 900000) (h : ∀ (z : Str) (t' : T), z.length ≤ 40 → allIn z signs = true → BoxT t' (n + 6) → P (.str z) [.ref b t']) : ps_text [.ref b t] P := ⟨b, t, n, rfl, hb, hn, h⟩
local macro_rules | `(tactic| wtm_at "u") => `(tactic| first
  | ((with_reducible refine' u_take ?s1 ?s2 ?s3 ?s4 ?_); (case s1 => assumption); (case s2 => omega); (case s3 => omega); (case s4 => omega); intro r' t' hr0 hr1 bx)
  | (with_reducible refine u_signs ?_)
  | ((with_reducible refine' u_number ?s1 ?s2 ?_); (case s1 => assumption); (case s2 => omega); intro i' t' hi' bx)
  | ((with_reducible refine' u_text ?s1 ?s2 ?_); (case s1 => assumption); (case s2 => omega); intro z' t' hz' hz2 bx))
/-- a worth, at most so deep, its text at most so long -/
structure Wth (d : Int) (c : Nat) (t : T) : Prop where
  fine : t.Fine
  lo : 1 ≤ t.dp
  hi : t.dp ≤ d
  cost : t.cost ≤ c
  deep : (t.deep : Int) ≤ d
  uq : t.Uq
theorem Wth.mono {d d' : Int} {c c' : Nat} {t : T} (h : Wth d c t) (h1 : d ≤ d') (h2 : c ≤ c') : Wth d' c' t := ⟨h.fine, h.lo, Int.le_trans h.hi h1, Nat.le_trans h.cost h2, Int.le_trans h.deep h1, h.uq⟩
theorem listMax_le : ∀ {ds : List Int} {k : Int}, (∀ y, y ∈ ds → y ≤ k) → 0 ≤ k → listMax ds ≤ k
  | [], k, _, h => h
  | d :: r, k, h, h0 => by
    have h1 := h d (by simp)
    have h2 := listMax_le (ds := r) (fun y hy => h y (by simp [hy])) h0
    show max d (listMax r) ≤ k
    omega
theorem ofHeld_ok {ds : List Int} {k : Int} (h : ∀ y, y ∈ ds → 1 ≤ y ∧ y ≤ k) (h0 : 0 ≤ k) (h3 : k ≤ 3) : 1 ≤ ofHeld ds ∧ ofHeld ds ≤ 1 + k := by
  have h1 := listMax_le (fun y hy => (h y hy).2) h0
  have h2 := max_nonneg ds
  unfold ofHeld
  rw [if_neg (fun z => by rcases z with z | z; have := h 0 z; omega; have := h 4 z; omega)]
  omega
theorem Wth.list {k : Int} {c : Nat} {ys : List T} (h : ∀ y, y ∈ ys → Wth k c y) (hl : ys.length ≤ 6) (h0 : 0 ≤ k) (h3 : k ≤ 3) : Wth (1 + k) (4 + 8 * (c + 86)) (.lst ys) := by
  have e : T.dp (.lst ys) = ofHeld (ys.map T.dp) := by
    show (if ys.length ≤ 6 then ofHeld (T.dps ys) else 0) = _
    rw [if_pos hl, dps_map]
  obtain ⟨h1, h2⟩ := ofHeld_ok (ds := ys.map T.dp) (k := k) (fun y hy => by obtain ⟨t, ht, rfl⟩ := List.mem_map.mp hy; exact ⟨(h t ht).lo, (h t ht).hi⟩) h0 h3
  refine ⟨fineL_of fun t ht => (h t ht).fine, by rw [e]; exact h1, by rw [e]; exact h2, ?_, ?_, uqL_of fun t ht => (h t ht).uq⟩
  · have q := costL_le (ts := ys) (c := c) fun t ht => (h t ht).cost
    have q2 : ys.length * (c + 2) ≤ 6 * (c + 2) := Nat.mul_le_mul_right _ hl
    show 4 + T.costL ys ≤ _
    omega
  · have q := deepL_le (ts := ys) (n := k.toNat) fun t ht => by have := (h t ht).deep; omega
    show ((1 + T.deepL ys : Nat) : Int) ≤ 1 + k
    omega
/-- what a dict of names holds -/
def Ent (S : T → Prop) (kvs : List (Key × T)) : Prop := ∀ kv, kv ∈ kvs → (∃ z, kv.1 = .inr z ∧ isName z) ∧ S kv.2
theorem Ent.put {S : T → Prop} {kvs : List (Key × T)} {z : Str} {t : T} (h : Ent S kvs) (hz : isName z) (ht : S t) : Ent S (putT kvs (.inr z) t) := by
  unfold putT
  intro kv hkv
  split at hkv
  · obtain ⟨kv0, h0, rfl⟩ := List.mem_map.mp hkv
    by_cases c : kv0.1 = .inr z
    · rw [if_pos c]; exact ⟨(h kv0 h0).1, ht⟩
    · rw [if_neg c]; exact h kv0 h0
  · rcases List.mem_append.mp hkv with q | q
    · exact h kv q
    · rw [show kv = (.inr z, t) from by simpa using q]; exact ⟨⟨z, rfl, hz⟩, ht⟩
theorem letters_lt : Cs (· < 0x110000) letters := cs_ofString _
theorem signs_lt : Cs (· < 0x110000) signs := cs_ofString _
theorem isName.fine {z : Str} (h : isName z) : kFine (.inr z) := ⟨Nat.le_trans h.2.1 (by decide), fun c hc => letters_lt c (h.2.2 c hc)⟩
theorem Wth.dict {k : Int} {c : Nat} {kvs : List (Key × T)} (h : Ent (Wth k c) kvs) (hnd : (kvs.map (·.1)).Nodup) (hl : kvs.length ≤ 8) (h0 : 0 ≤ k) (h3 : k ≤ 3) : Wth (1 + k) (4 + 8 * (c + 86)) (.dct kvs) := by
  have hn : (kvs.map fun kv => okName kv.1).all id = true := by
    rw [List.all_map]
    refine List.all_eq_true.mpr fun kv hkv => ?_
    obtain ⟨⟨z, e, hz⟩, _⟩ := h kv hkv
    show okName kv.1 = true
    rw [e]; exact hz.ok
  have e : T.dp (.dct kvs) = ofHeld ((kvs.map (·.2)).map T.dp) := by
    show (if (kvs.length ≤ 8 ∧ (kvs.map fun kv => okName kv.1).all id = true) then ofHeld (T.dpk kvs) else 0) = _
    rw [if_pos ⟨hl, hn⟩, dpk_map]
  obtain ⟨h1, h2⟩ := ofHeld_ok (ds := (kvs.map (·.2)).map T.dp) (k := k) (fun y hy => by
    obtain ⟨t, ht, rfl⟩ := List.mem_map.mp hy
    obtain ⟨kv, hkv, rfl⟩ := List.mem_map.mp ht
    exact ⟨(h kv hkv).2.lo, (h kv hkv).2.hi⟩) h0 h3
  refine ⟨fineK_of fun kv hkv => ?_, by rw [e]; exact h1, by rw [e]; exact h2, ?_, ?_, hnd, uqK_of fun kv hkv => (h kv hkv).2.uq⟩
  · obtain ⟨⟨z, e, hz⟩, w⟩ := h kv hkv
    exact ⟨by rw [e]; exact hz.fine, w.fine⟩
  · have q := costK_le (ts := kvs) (c := c) (k := 82) fun kv hkv => by
      obtain ⟨⟨z, e, hz⟩, w⟩ := h kv hkv
      refine ⟨w.cost, ?_⟩
      rw [e]
      show 10 * z.length + 2 ≤ 82
      have := hz.2.1
      omega
    have q2 : kvs.length * (c + 82 + 4) ≤ 8 * (c + 82 + 4) := Nat.mul_le_mul_right _ hl
    show 4 + T.costK kvs ≤ _
    omega
  · have q := deepL_le (ts := kvs.map (·.2)) (n := k.toNat) fun t ht => by
      obtain ⟨kv, hkv, rfl⟩ := List.mem_map.mp ht
      have := (h kv hkv).2.deep
      omega
    rw [deepK_vals] at q
    show ((1 + T.deepK kvs : Nat) : Int) ≤ 1 + k
    omega
def wcost : Nat → Nat
  | 0 => 0
  | 1 => 402
  | m + 2 => 4 + 8 * (wcost (m + 1) + 86)
def ps_worth (m : Nat) : PSp := fun sl P => ∃ (b : Addr) (t : T) (most n : Nat), sl = [.ref b t, .val (.int most)] ∧ BoxT t n ∧ 1 ≤ most ∧ most ≤ m ∧ most ≤ 4 ∧ n + 20 ^ most ≤ 800000 ∧
  ∀ (w t' : T), Wth most (wcost most) w → BoxT t' (n + 20 ^ most) → P w [.ref b t', .val (.int most)]
theorem u_worth {m : Nat} {b : Addr} {t : T} {most n : Nat} {P : T → List Slot → Prop} (hb : BoxT t n) (h1 : 1 ≤ most) (h2 : most ≤ m) (h3 : most ≤ 4) (hn : n + 20 ^ most ≤ 800000)
    (h : ∀ (w t' : T), Wth most (wcost most) w → BoxT t' (n + 20 ^ most) → P w [.ref b t', .val (.int most)]) : ps_worth m [.ref b t, .val (.int most)] P := ⟨b, t, most, n, rfl, hb, h1, h2, h3, hn, h⟩
theorem wcost_ge {m : Nat} (h : 1 ≤ m) : 402 ≤ wcost m := by
  match m, h with
  | 1, _ => exact Nat.le_refl _
  | m + 2, _ => show 402 ≤ 4 + 8 * (wcost (m + 1) + 86); omega
theorem Wth.flat {d : Int} {m : Nat} {t : T} (hd : 1 ≤ d) (hm : 1 ≤ m) (f : t.Fine) (e : t.dp = 1) (hc : t.cost ≤ 402) (hdp : t.deep = 0) (hu : t.Uq) : Wth d (wcost m) t := ⟨f, by rw [e]; exact Int.le_refl _, by rw [e]; exact hd, Nat.le_trans hc (wcost_ge hm), by rw [hdp]; omega, hu⟩
theorem wth_int {d : Int} {m : Nat} {i : Int} (hd : 1 ≤ d) (hm : 1 ≤ m) (h : okInt i = true) : Wth d (wcost m) (.int i) := by
  have h' := h
  unfold okInt at h'
  obtain ⟨a, b⟩ := Bool.and_eq_true_iff.mp h'
  have a' := of_decide_eq_true a
  have b' := of_decide_eq_true b
  refine .flat hd hm ?_ ?_ (by show 125 ≤ 402; decide) rfl trivial
  · show i.natAbs < 10 ^ 120
    exact Nat.lt_trans (by omega : i.natAbs < 1000000000000000000) (by decide +kernel)
  · show (if okInt i then (1 : Int) else 0) = 1
    rw [h]; rfl
theorem wth_str {d : Int} {m : Nat} {z : Str} (hd : 1 ≤ d) (hm : 1 ≤ m) (hz : z.length ≤ 40) (h : allIn z signs = true) : Wth d (wcost m) (.str z) := by
  refine .flat hd hm ⟨by omega, fun c hc => signs_lt c (of_allIn h c hc)⟩ ?_ (by show 10 * z.length + 2 ≤ 402; omega) rfl trivial
  have e : okText z = true := by unfold okText; rw [h, decide_eq_true (by omega)]; rfl
  show (if okText z then (1 : Int) else 0) = 1
  rw [e]; rfl
theorem pow20 {m : Nat} (h : 1 ≤ m) : 20 ≤ 20 ^ m := by
  calc 20 = 20 ^ 1 := rfl
    _ ≤ 20 ^ m := Nat.pow_le_pow_right (by decide) h
theorem pure_lworth {m : Nat} : ∀ sl P, ps_worth (m + 1) sl P → p__law_worth ps_take ps_number ps_text (ps_worth m) ps_names (pdOf false sl P) (sl ++ nones 5) := by
  rintro sl P ⟨b, t, most, n, rfl, hb, h1, h2, h3, hn, q⟩
  show p__law_worth _ _ _ _ _ _ [_, _, .none, .none, .none, .none, .none]
  have hp := pow20 h1
  unfold p__law_worth
  repeat (first | wtm_at "w" | wtm_at "u")
  refine iteB (fun c1 => ?_) (fun c1 => ?_)
  · repeat (first | wtm_at "w" | wtm_at "u")
    exact ⟨⟨rfl, trivial⟩, q _ _ (.flat (by omega) h1 trivial rfl (by decide) rfl trivial) (BoxT.mono (by assumption) (by omega))⟩
  repeat (first | wtm_at "w" | wtm_at "u")
  refine iteB (fun c2 => ?_) (fun c2 => ?_)
  · repeat (first | wtm_at "w" | wtm_at "u")
    exact ⟨⟨rfl, trivial⟩, q _ _ (.flat (by omega) h1 trivial rfl (by show 5 ≤ 402; decide) rfl trivial) (BoxT.mono (by assumption) (by omega))⟩
  repeat (first | wtm_at "w" | wtm_at "u")
  rename_i r0 t0 hr00 hr01 bx0
  refine iteB (fun c3 => ?_) (fun c3 => ?_)
  · repeat (first | wtm_at "w" | wtm_at "u")
    exact ⟨⟨rfl, trivial⟩, q _ _ (wth_int (by omega) h1 (by assumption)) (BoxT.mono (by assumption) (by omega))⟩
  repeat (first | wtm_at "w" | wtm_at "u")
  by_cases hm : most = 1
  · subst hm
    repeat (first | wtm_at "w" | wtm_at "u")
    refine iteB (fun c4 => ?_) (fun c4 => ?_)
    · repeat (first | wtm_at "w" | wtm_at "u")
      exact ⟨⟨rfl, trivial⟩, q _ _ (wth_int (by omega) h1 (by assumption)) (BoxT.mono (by assumption) (by omega))⟩
    · repeat (first | wtm_at "w" | wtm_at "u")
      refine iteB (fun c5 => ?_) (fun c5 => ?_)
      · repeat (first | wtm_at "w" | wtm_at "u")
        exact ⟨⟨rfl, trivial⟩, q _ _ (wth_str (by omega) h1 (by assumption) (by assumption)) (BoxT.mono (by assumption) (by omega))⟩
      · repeat (first | wtm_at "w" | wtm_at "u")
        exact ⟨⟨rfl, trivial⟩, q _ _ (wth_str (by omega) h1 (by assumption) (by assumption)) (BoxT.mono (by assumption) (by omega))⟩
  · have nm : decide (((most : Nat) : Int) = 1) = false := decide_eq_false (by omega)
    obtain ⟨k, rfl⟩ : ∃ k, most = k + 2 := ⟨most - 2, by omega⟩
    have hpk := pow20 (m := k + 1) (by omega)
    have hps : 20 ^ (k + 2) = 20 * 20 ^ (k + 1) := by rw [Nat.pow_succ, Nat.mul_comm]
    have ek : (((k + 2 : Nat) : Int) - 1) = ((k + 1 : Nat) : Int) := by omega
    have ewc : wcost (k + 2) = 4 + 8 * (wcost (k + 1) + 86) := rfl
    have ed : ((k + 2 : Nat) : Int) = 1 + ((k + 1 : Nat) : Int) := by omega
    refine iteFalse nm ?_
    repeat (first | wtm_at "w" | wtm_at "u")
    refine iteB (fun c5 => ?_) (fun c5 => ?_)
    · repeat (first | wtm_at "w" | wtm_at "u")
      exact ⟨⟨rfl, trivial⟩, q _ _ (wth_str (by omega) h1 (by assumption) (by assumption)) (BoxT.mono (by assumption) (by omega))⟩
    repeat (first | wtm_at "w" | wtm_at "u")
    rename_i r1 t1 hr10 hr11 bx1
    refine v_ixLo (by omega) (by show ((k + 2 : Nat) : Int) - 1 < 4; omega) fun y hy _ => ?_
    have hy2 : ∃ j : Int, y = .int j ∧ 1 ≤ j ∧ j ≤ 9 := by
      simp only [List.mem_cons, List.mem_nil_iff, or_false] at hy
      rcases hy with rfl | rfl | rfl | rfl
      · exact ⟨_, rfl, by omega, by omega⟩
      · exact ⟨_, rfl, by omega, by omega⟩
      · exact ⟨_, rfl, by omega, by omega⟩
      · exact ⟨_, rfl, by omega, by omega⟩
    obtain ⟨j, rfl, hj0, hj1⟩ := hy2
    repeat (first | wtm_at "w" | wtm_at "u")
    rename_i r2 t2 hr20 hr21 bx2 r3 t3 hr30 hr31 bx3
    refine v_ixLo hr30 (by show r3 < 2; omega) fun y hy _ => ?_
    have hy2 : ∃ j : Int, y = .int j ∧ 0 ≤ j ∧ j ≤ 8 := by
      simp only [List.mem_cons, List.mem_nil_iff, or_false] at hy
      rcases hy with rfl | rfl
      · exact ⟨_, rfl, by omega, by omega⟩
      · exact ⟨_, rfl, by omega, by omega⟩
    obtain ⟨many, rfl, hm0, hm1⟩ := hy2
    repeat (first | wtm_at "w" | wtm_at "u")
    generalize hc : 20 ^ (k + 1) = c at hpk hps
    refine iteB (fun c6 => ?_) (fun c6 => ?_)
    · repeat (first | wtm_at "w" | wtm_at "u")
      have hmin : (if many < 6 then many else 6).toNat ≤ 6 := by split <;> omega
      generalize (if many < 6 then many else 6).toNat = cnt at hmin
      refine lc_all (env0 := [.ref b t3, .val (.int ((k + 2 : Nat) : Int)), .val (.int r0), .val (.int many), .none, .none, .none]) rfl (by rw [rng_len]; omega)
        (fun i env => ∃ t', BoxT t' (n + 4 + c * i) ∧ env = [.ref b t', .val (.int ((k + 2 : Nat) : Int)), .val (.int r0), .val (.int many), .none, .none, .none]) (Wth ((k + 1 : Nat) : Int) (wcost (k + 1))) ⟨t3, by rw [Nat.mul_zero]; exact bx3, rfl⟩ (fun i x env N hi hx hw hN => ?_) fun ys env hl hys hw => ?_
      · obtain ⟨t', bx', rfl⟩ := hw
        obtain ⟨hi, rfl⟩ := rng_get hx
        have hci : c * i ≤ c * 6 := Nat.mul_le_mul_left _ (by omega)
        repeat (first | wtm_at "w" | wtm_at "u")
        rw [ek]
        refine u_worth bx' (by omega) (by omega) (by omega) (by rw [hc]; omega) fun w t'' hw bx'' => ?_
        rw [hc] at bx''
        repeat (first | wtm_at "w" | wtm_at "u")
        exact hN _ _ hw ⟨t'', by rw [Nat.mul_succ]; exact bx''.mono (by omega), rfl⟩
      · obtain ⟨t', bx', rfl⟩ := hw
        rw [rng_len] at hl bx'
        have hci : c * cnt ≤ c * 6 := Nat.mul_le_mul_left _ hmin
        refine ⟨⟨rfl, trivial⟩, q _ _ ?_ (bx'.mono (by omega))⟩
        rw [ed, ewc]
        exact .list hys (by omega) (by omega) (by omega)
    · repeat (first | wtm_at "w" | wtm_at "u")
      refine u_names bx3 (by omega) hm0 hm1 fun ys t4 hys hyl bx4 => ?_
      repeat (first | wtm_at "w" | wtm_at "u")
      rename_i p
      refine for_inv (fun i env => ∃ t' kvs s6, env = [.ref b t', .val (.int ((k + 2 : Nat) : Int)), .val (.int r0), .val (.int many), .none, .own p (.dct kvs), s6] ∧ noRef env 6 ∧ BoxT t' (n + 24 + c * i) ∧ kvs.length ≤ i ∧ Ent (Wth ((k + 1 : Nat) : Int) (wcost (k + 1))) kvs ∧ (kvs.map (·.1)).Nodup)
        ⟨t4, [], _, rfl, trivial, by rw [Nat.mul_zero]; exact bx4.mono (by omega), Nat.le_refl _, (fun kv h => nomatch h), .nil⟩ ?_ ?_
      · rintro env ⟨t', kvs, s6, rfl, _, bx', hkl, hent, hnd⟩
        have hci : c * ys.length ≤ c * 8 := Nat.mul_le_mul_left _ (by omega)
        repeat (first | wtm_at "w" | wtm_at "u")
        refine ⟨⟨rfl, trivial⟩, q _ _ ?_ (bx'.mono (by omega))⟩
        rw [ed, ewc]
        exact .dict hent hnd (by omega) (by omega) (by omega)
      · rintro i x env N hx ⟨t', kvs, s6, rfl, nr, bx', hkl, hent, hnd⟩ hN
        have hi := (List.getElem?_eq_some_iff.mp hx).1
        obtain ⟨z, rfl, hz⟩ := hys x (List.mem_of_getElem? hx)
        have hci : c * i ≤ c * 8 := Nat.mul_le_mul_left _ (by omega)
        refine w_name nr rfl ?_
        repeat (first | wtm_at "w" | wtm_at "u")
        rw [ek]
        refine u_worth bx' (by omega) (by omega) (by omega) (by rw [hc]; omega) fun w t'' hw bx'' => ?_
        rw [hc] at bx''
        repeat (first | wtm_at "w" | wtm_at "u")
        exact hN _ ⟨t'', _, _, rfl, trivial, by rw [Nat.mul_succ]; exact bx''.mono (by omega), Nat.le_trans putT_len (by omega), hent.put hz hw, putT_nodup hnd⟩
end Pu

namespace Pu
open PySem PySem.Spec PyProof.Rows L2 He Hk
/-! ### k04's plain law: what a worth holds, by its steps -/
def namesOf (kvs : List (Key × T)) : List Str := match strKeys kvs with | some ks => sortS ks | none => []
def enP : Nat → List T → List (T × T)
  | _, [] => []
  | i, t :: r => (.int (i : Nat), t) :: enP (i + 1) r
def stepsL : T → List (T × T)
  | .lst ts => enP 0 ts
  | .dct kvs => (namesOf kvs).map fun k => (.str k, (valT kvs (.inr k)).getD .non)
  | _ => []
def pairT (s : T × T) : T := .tup [s.1, s.2]
theorem enT_is : ∀ (i : Nat) (ts : List T), enT i ts = (enP i ts).map pairT
  | _, [] => rfl
  | i, t :: r => by show _ :: enT (i + 1) r = _; rw [enT_is (i + 1) r]; rfl
/-- one step -/
def step1 : T → T → Option T
  | .lst ts, .int i => if 0 ≤ i then ts[i.toNat]? else none
  | .dct kvs, .str k => valT kvs (.inr k)
  | _, _ => none
def follow : T → List T → Option T
  | t, [] => some t
  | t, s :: r => match step1 t s with | some u => follow u r | none => none
theorem follow_app : ∀ (p : List T) {t u : T} (s : T), follow t p = some u → follow t (p ++ [s]) = step1 u s
  | [], t, u, s, h => by cases h; show (match step1 t s with | some u => follow u [] | none => none) = _; cases step1 t s <;> rfl
  | x :: p, t, u, s, h => by
    show (match step1 t x with | some u => follow u (p ++ [s]) | none => none) = _
    have h' : (match step1 t x with | some u => follow u p | none => none) = some u := h
    cases e : step1 t x with
    | none => rw [e] at h'; cases h'
    | some v => rw [e] at h'; exact follow_app p s h'
theorem enP_mem : ∀ {i : Nat} {ts : List T} {s : T × T}, s ∈ enP i ts → ∃ j : Nat, s.1 = .int ((i + j : Nat) : Int) ∧ ts[j]? = some s.2
  | i, t :: r, s, h => by
    rcases List.mem_cons.mp h with rfl | h
    · exact ⟨0, rfl, rfl⟩
    · obtain ⟨j, h1, h2⟩ := enP_mem h
      exact ⟨j + 1, by rw [h1, show i + 1 + j = i + (j + 1) from by omega], by simpa using h2⟩
theorem enP_length : ∀ (i : Nat) (ts : List T), (enP i ts).length = ts.length
  | _, [] => rfl
  | i, t :: r => by show (enP (i + 1) r).length + 1 = _; rw [enP_length (i + 1) r]; rfl
theorem enP_get : ∀ (i : Nat) (ts : List T) (j : Nat), (enP i ts)[j]? = (ts[j]?).map fun x => (T.int ((i + j : Nat) : Int), x)
  | _, [], j => by simp [enP]
  | i, x :: xs, 0 => by simp [enP]
  | i, x :: xs, j + 1 => by
    show (enP (i + 1) xs)[j]? = _
    rw [enP_get (i + 1) xs j]
    simp [Nat.add_assoc, Nat.add_comm 1 j]
theorem strKeys_mem : ∀ {kvs : List (Key × T)} {ks : List Str}, strKeys kvs = some ks → ∀ k, k ∈ ks → Sum.inr k ∈ kvs.map (·.1) := fun h k hk => by
  rw [strKeys_is h]; exact List.mem_map_of_mem hk
/-- a worth -/
structure Wo (t : T) : Prop where
  fine : t.Fine
  lo : 1 ≤ t.dp
  uq : t.Uq
theorem Wth.wo {d : Int} {c : Nat} {t : T} (h : Wth d c t) : Wo t := ⟨h.fine, h.lo, h.uq⟩
theorem held_lst {xs ts : List T} (h : heldT (.lst xs) = some ts) : ts = xs ∧ xs.length ≤ 6 := by
  have h' : (if xs.length ≤ 6 then some xs else none) = some ts := h
  by_cases c : xs.length ≤ 6
  · rw [if_pos c] at h'; cases h'; exact ⟨rfl, c⟩
  · rw [if_neg c] at h'; cases h'
theorem held_dct {kvs : List (Key × T)} {ts : List T} (h : heldT (.dct kvs) = some ts) : ts = kvs.map (·.2) ∧ kvs.length ≤ 8 ∧ (kvs.map fun kv => okName kv.1).all id = true := by
  have h' : (if (kvs.length ≤ 8 ∧ (kvs.map fun kv => okName kv.1).all id = true) then some (kvs.map (·.2)) else none) = some ts := h
  by_cases c : kvs.length ≤ 8 ∧ (kvs.map fun kv => okName kv.1).all id = true
  · rw [if_pos c] at h'; cases h'; exact ⟨rfl, c⟩
  · rw [if_neg c] at h'; cases h'
theorem held_wo {t : T} {ts : List T} (w : Wo t) (h : heldT t = some ts) {x : T} (hx : x ∈ ts) : Wo x ∧ x.deep < t.deep := by
  obtain ⟨h1, h2, h3, _, _⟩ := held_some h
  have f := w.lo
  rw [h3] at f
  have n0 : ¬ (0 ∈ ts.map T.dp) := fun z => by
    unfold ofHeld at f; rw [if_pos (.inl z)] at f; omega
  have hdx : x.dp ≠ 0 := fun z => n0 (z ▸ List.mem_map_of_mem hx)
  have ag := T.agree x
  refine ⟨⟨fineL_mem (h2 w.fine) hx, ?_, ?_⟩, ?_⟩
  · rcases ag with ⟨_, a, _⟩ | ⟨a, _, _⟩
    · exact a
    · exact absurd a hdx
  · have u := w.uq
    cases t with
    | lst xs => obtain ⟨rfl, _⟩ := held_lst h; exact uqL_mem u hx
    | dct kvs =>
      obtain ⟨rfl, _⟩ := held_dct h
      obtain ⟨kv, hk, rfl⟩ := List.mem_map.mp hx
      exact uqK_mem u.2 hk
    | _ => cases h
  · have := deepL_mem hx; omega
theorem wo_held {t : T} (w : Wo t) : (t.deep = 0 ∧ stepsL t = []) ∨ ∃ ts, heldT t = some ts := by
  cases h : heldT t with
  | some ts => exact .inr ⟨ts, rfl⟩
  | none =>
    refine .inl ?_
    have z : t.deep = 0 := by
      rcases Nat.eq_zero_or_pos t.deep with z | z
      · exact z
      · have := (held_none h (by omega)).1; have := w.lo; omega
    refine ⟨z, ?_⟩
    cases t with
    | lst xs => exact absurd z (by unfold T.deep; omega)
    | dct kvs => exact absurd z (by unfold T.deep; omega)
    | _ => rfl
theorem names_keys : ∀ {kvs : List (Key × T)}, (kvs.map fun kv => okName kv.1).all id = true → ∃ ks, strKeys kvs = some ks ∧ ks.length = kvs.length
  | [], _ => ⟨[], rfl, rfl⟩
  | (.inr k, t) :: r, h => by
    have h' : okName (.inr k) = true ∧ (r.map fun kv => okName kv.1).all id = true := by simpa [List.map_cons, List.all_cons, Bool.and_eq_true] using h
    obtain ⟨ks, e, l⟩ := names_keys h'.2
    exact ⟨k :: ks, by simp [strKeys, e], by simp [l]⟩
  | (.inl i, t) :: r, h => by
    have h' : okName (.inl i) = true ∧ (r.map fun kv => okName kv.1).all id = true := by simpa [List.map_cons, List.all_cons, Bool.and_eq_true] using h
    cases h'.1
/-- each step leads to a worth that is held -/
theorem steps_in_held {t : T} {ts : List T} (h : heldT t = some ts) {s : T × T} (hs : s ∈ stepsL t) : s.2 ∈ ts ∧ step1 t s.1 = some s.2 := by
  cases t with
  | lst xs =>
    obtain ⟨rfl, _⟩ := held_lst h
    obtain ⟨j, h1, h2⟩ := enP_mem (show s ∈ enP 0 ts from hs)
    refine ⟨List.mem_of_getElem? h2, ?_⟩
    rw [h1, Nat.zero_add]
    show (if 0 ≤ ((j : Nat) : Int) then ts[((j : Nat) : Int).toNat]? else none) = _
    rw [if_pos (Int.natCast_nonneg j), Int.toNat_natCast]; exact h2
  | dct kvs =>
    obtain ⟨rfl, c⟩ := held_dct h
    obtain ⟨ks, e, _⟩ := names_keys c.2
    have hs' : s ∈ (namesOf kvs).map fun k => ((T.str k, (valT kvs (.inr k)).getD .non) : T × T) := hs
    obtain ⟨k, hk, rfl⟩ := List.mem_map.mp hs'
    unfold namesOf at hk
    rw [e] at hk
    have hk' : k ∈ ks := (sortS_perm ks).mem_iff.mp hk
    obtain ⟨x, ex⟩ := valT_some (strKeys_mem e k hk')
    dsimp only
    rw [ex]
    exact ⟨List.mem_map_of_mem (f := (·.2)) (valT_mem ex), ex⟩
  | _ => cases h
theorem steps_wo {t : T} (w : Wo t) {s : T × T} (hs : s ∈ stepsL t) : Wo s.2 ∧ s.2.deep < t.deep ∧ step1 t s.1 = some s.2 := by
  rcases wo_held w with ⟨_, z⟩ | ⟨ts, h⟩
  · rw [z] at hs; cases hs
  · obtain ⟨h1, h2⟩ := steps_in_held h hs
    obtain ⟨h3, h4⟩ := held_wo w h h1
    exact ⟨h3, h4, h2⟩
/-- all worths in a worth, with their paths -/
def gat : Nat → List T → T → List (List T × T)
  | 0, p, t => [(p, t)]
  | n + 1, p, t => (p, t) :: (stepsL t).flatMap fun s => gat n (p ++ [s.1]) s.2
/-- each of them is at its path -/
theorem gat_follow {w : T} : ∀ (n : Nat) {p : List T} {t : T}, Wo t → follow w p = some t → ∀ q, q ∈ gat n p t → follow w q.1 = some q.2 ∧ Wo q.2
  | 0, p, t, ht, hf, q, hq => by
    have e : q = (p, t) := by simpa [gat] using hq
    subst e; exact ⟨hf, ht⟩
  | n + 1, p, t, ht, hf, q, hq => by
    rcases List.mem_cons.mp hq with rfl | hq
    · exact ⟨hf, ht⟩
    · obtain ⟨s, hs, hq⟩ := List.mem_flatMap.mp hq
      obtain ⟨h1, _, h3⟩ := steps_wo ht hs
      exact gat_follow n h1 (by rw [follow_app p s.1 hf]; exact h3) q hq
end Pu

namespace Pu
open PySem PySem.Spec PyProof.Rows L2 He Hk
local macro_rules | `(tactic| wtm_at "kb") => `(tactic| first | with_reducible exact kb_NoneType_int | with_reducible exact kb_NoneType_bool | with_reducible exact kb_NoneType_str | with_reducible exact kb_NoneType_list | with_reducible exact kb_NoneType_tuple | with_reducible exact kb_NoneType_dict | with_reducible exact kb_bool_int | with_reducible exact kb_bool_bool | with_reducible exact kb_bool_str | with_reducible exact kb_bool_list | with_reducible exact kb_bool_tuple | with_reducible exact kb_bool_dict | with_reducible exact kb_int_int | with_reducible exact kb_int_bool | with_reducible exact kb_int_str | with_reducible exact kb_int_list | with_reducible exact kb_int_tuple | with_reducible exact kb_int_dict | with_reducible exact kb_str_int | with_reducible exact kb_str_bool | with_reducible exact kb_str_str | with_reducible exact kb_str_list | with_reducible exact kb_str_tuple | with_reducible exact kb_str_dict | with_reducible exact kb_list_int | with_reducible exact kb_list_bool | with_reducible exact kb_list_str | with_reducible exact kb_list_list | with_reducible exact kb_list_tuple | with_reducible exact kb_list_dict | with_reducible exact kb_tuple_int | with_reducible exact kb_tuple_bool | with_reducible exact kb_tuple_str | with_reducible exact kb_tuple_list | with_reducible exact kb_tuple_tuple | with_reducible exact kb_tuple_dict | with_reducible exact kb_dict_int | with_reducible exact kb_dict_bool | with_reducible exact kb_dict_str | with_reducible exact kb_dict_list | with_reducible exact kb_dict_tuple | with_reducible exact kb_dict_dict)
local macro_rules | `(tactic| wtm_at "set") => `(tactic| ((try simp only [backE, reown, List.set_cons_zero, List.set_cons_succ, List.getElem?_cons_zero, List.getElem?_cons_succ]); rfl))
local macro_rules | `(tactic| wtm_at "side") => `(tactic| first | assumption | decide | omega)
local macro_rules | `(tactic| wtm_at "ln") => `(tactic| first | omega | exact len_one (by omega) | (refine len_cut ?_; wtm_at "ln") | (refine len_app ?_ ?_ <;> wtm_at "ln") | decide +kernel)
local macro_rules | `(tactic| wtm_at "size") => `(tactic| first | assumption | wtm_at "ln" | (refine Nat.le_trans (Nat.add_le_add (b := 8000000) (d := 8000000) ?_ ?_) (by decide) <;> wtm_at "ln"))
local macro_rules | `(tactic| wtm_at "w") => `(tactic| (first
  | (with_reducible refine w_op ?_)
  | (with_reducible refine w_cons ?_)
  | ((with_reducible refine' w_consV ?e1 ?_); (case e1 => exact trivial);)
  | (with_reducible refine w_c ?_)
  | (with_reducible refine w_nil ?_)
  | ((with_reducible refine' w_kO ?e1 ?_); (case e1 => rfl);)
  | ((with_reducible refine' w_var ?e1 ?_); (case e1 => rfl);)
  | (with_reducible refine w_seq ?_)
  | (with_reducible refine w_asg ?_)
  | ((with_reducible refine' w_name ?e1 ?e2 ?_); (case e1 => exact trivial); (case e2 => wtm_at "set");)
  | (with_reducible refine w_if ?_)
  | (with_reducible refine w_test ?_)
  | (with_reducible refine w_kB ?_)
  | (with_reducible refine w_call ?_)
  | ((with_reducible refine' w_kC ?e1 ?e2 ?_); (case e1 => rfl); (case e2 => rfl);)
  | ((with_reducible refine' w_kBk ?e1 ?_); (case e1 => wtm_at "set");)
  | (with_reducible refine w_ret ?_)
  | (with_reducible refine iteT' ?_)
  | (with_reducible refine iteF' ?_)
  | (with_reducible refine w_and ?_)
  | (with_reducible refine w_or ?_)
  | (with_reducible refine w_not ?_)
  | (with_reducible refine w_next ?_)
  | ((with_reducible refine' v_ixL ?e1 ?_); (case e1 => rfl);)
  | (with_reducible refine v_addI ?_)
  | ((with_reducible refine' v_eq ?e1 ?_); (case e1 => rfl);)
  | (with_reducible refine w_lst ?_)
  | ((with_reducible refine' w_kV2 ?e1 ?e2 ?_); (case e1 => rfl); (case e2 => exact Nat.le_of_ble_eq_true rfl);)
  | (with_reducible refine w_own ?_)
  | (with_reducible refine w_drop ?_)
  | (with_reducible refine w_andV ?_)
  | (with_reducible refine w_orV ?_)
  | (with_reducible refine w_notV ?_)
  | (with_reducible refine w_ifE ?_)
  | (with_reducible refine w_chain ?_)
  | (with_reducible refine w_yes ?_)
  | (with_reducible refine w_tup ?_)
  | (with_reducible refine w_dnew ?_)
  | (with_reducible refine w_disp ?_)
  | (with_reducible refine w_pnil ?_)
  | (with_reducible refine w_pcons ?_)
  | (with_reducible refine w_sl ?_)
  | (with_reducible refine w_noPart ?_)
  | (with_reducible refine w_part ?_)
  | (with_reducible refine w_kI ?_)
  | (with_reducible refine w_m ?_)
  | (with_reducible refine w_kM ?_)
  | (with_reducible refine w_piList ?_)
  | (with_reducible refine w_kL ?_)
  | (with_reducible refine w_piTup ?_)
  | (with_reducible refine w_kTu ?_)
  | (with_reducible refine w_piStr ?_)
  | (with_reducible refine w_kSt ?_)
  | (with_reducible refine w_piRng1 ?_)
  | (with_reducible refine w_piRng2 ?_)
  | (with_reducible refine w_piD ?_)
  | (with_reducible refine w_kD ?_)
  | (with_reducible refine w_for ?_)
  | (with_reducible refine w_lc ?_)
  | (with_reducible refine v_sub ?_)
  | (with_reducible refine v_neg ?_)
  | (with_reducible refine v_le ?_)
  | (with_reducible refine v_gt ?_)
  | (with_reducible refine v_ge ?_)
  | (with_reducible refine v_lt ?_)
  | (with_reducible refine v_ltS ?_)
  | (with_reducible refine v_inS ?_)
  | (with_reducible refine v_notInS ?_)
  | (with_reducible refine v_lenL ?_)
  | (with_reducible refine v_lenT ?_)
  | (with_reducible refine v_lenD ?_)
  | (with_reducible refine v_lenC ?_)
  | (with_reducible refine v_max2 ?_)
  | (with_reducible refine v_min2 ?_)
  | (with_reducible refine v_listD ?_)
  | (with_reducible refine v_listV ?_)
  | (with_reducible refine v_dictD ?_)
  | (with_reducible refine v_tupleL ?_)
  | (with_reducible refine v_tupleT ?_)
  | (with_reducible refine v_int1 ?_)
  | (with_reducible refine v_int2 ?_)
  | (with_reducible refine v_isN ?_)
  | (with_reducible refine v_notN ?_)
  | (with_reducible refine v_slL ?_)
  | (with_reducible refine v_slT ?_)
  | ((with_reducible refine' w_varO ?e1 ?e2 ?_); (case e1 => rfl); (case e2 => wtm_at "set");)
  | ((with_reducible refine' w_kMO ?e1 ?_); (case e1 => rfl);)
  | ((with_reducible refine' w_kOwn ?e1 ?_); (case e1 => exact trivial); (intro p' env' ee'; simp only [List.set_cons_zero, List.set_cons_succ] at ee'; subst ee'))
  | ((with_reducible refine' w_kDs ?e1 ?e2 ?_); (case e1 => rfl); (case e2 => exact Nat.le_of_ble_eq_true rfl);)
  | ((with_reducible refine' w_slV ?e1 ?_); (case e1 => exact trivial);)
  | ((with_reducible refine' w_kSl ?e1 ?_); (case e1 => rfl);)
  | ((with_reducible refine' w_setL ?e1 ?_); (case e1 => exact trivial);)
  | ((with_reducible refine' w_setD ?e1 ?_); (case e1 => exact trivial);)
  | ((with_reducible refine' w_kSetL ?e1 ?e2 ?e3 ?_); (case e1 => rfl); (case e2 => rfl); (case e3 => wtm_at "set");)
  | ((with_reducible refine' w_kSetD ?e1 ?e2 ?e3 ?e4 ?_); (case e1 => rfl); (case e2 => wtm_at "side"); (case e3 => rfl); (case e4 => wtm_at "set");)
  | ((with_reducible refine' w_append ?e1 ?_); (case e1 => rfl);)
  | ((with_reducible refine' w_kApp ?e1 ?e2 ?e3 ?_); (case e1 => rfl); (case e2 => wtm_at "side"); (case e3 => wtm_at "set");)
  | ((with_reducible refine' w_kR1 ?e1 ?_); (case e1 => omega);)
  | ((with_reducible refine' w_kR2 ?e1 ?_); (case e1 => omega);)
  | ((with_reducible refine' iteTrue ?e1 ?_); (case e1 => rfl);)
  | ((with_reducible refine' iteFalse ?e1 ?_); (case e1 => rfl);)
  | ((with_reducible refine' v_mod ?e1 ?_); (case e1 => wtm_at "side");)
  | ((with_reducible refine' v_mulI ?e1 ?_); (case e1 => first | exact s_mul (by omega) (by omega) | (unfold CMulW; decide +kernel));)
  | ((with_reducible refine' v_div ?e1 ?_); (case e1 => omega);)
  | ((with_reducible refine' v_powE ?e1 ?e2 ?_); (case e1 => first | decide | (refine ⟨by decide, by decide, ?_, ?_⟩ <;> omega)); (case e2 => ((try simp only [Int.reduceToNat, Int.reducePow]); rfl)))
  | ((with_reducible refine' v_ne ?e1 ?_); (case e1 => rfl);)
  | ((with_reducible refine' v_ixT ?e1 ?_); (case e1 => rfl);)
  | ((with_reducible refine' v_isi ?e1 ?e2 ?_); (case e1 => rfl); (case e2 => wtm_at "kb");)
  | ((with_reducible refine' v_lenS ?e1 ?_); (case e1 => wtm_at "size");)
  | ((with_reducible refine' v_addS ?e1 ?_); (case e1 => wtm_at "size");)
  | ((with_reducible refine' v_slS ?e1 ?_); (case e1 => wtm_at "size");)
  | ((with_reducible refine' v_ixS ?e1 ?e2 ?e3 ?_); (case e1 => wtm_at "size"); (case e2 => omega); (case e3 => first | omega | (simp only [show _ = _ from by assumption]; omega)); intro c' hc' hc2)
  | (with_reducible refine w_ml ?_)
  | (with_reducible refine w_kML ?_)
  | ((with_reducible refine' w_kMLO ?e1 ?_); (case e1 => rfl);)
  | (with_reducible refine w_callN ?_)
  | (with_reducible refine v_rev ?_)
  | (with_reducible refine v_listEn ?_)
  | (with_reducible refine v_ixAd ?_)
  | (with_reducible refine v_ixAl ?_)
  | (with_reducible refine v_ixAt ?_)
  | ((with_reducible refine' v_inAd ?e1 ?_); (case e1 => rfl);)
  | ((with_reducible refine' w_extend ?e1 ?_); (case e1 => rfl);)
  | ((with_reducible refine' w_kExt ?e1 ?e2 ?e3 ?_); (case e1 => rfl); (case e2 => wtm_at "side"); (case e3 => wtm_at "set");)))
def WoD (m : Nat) (t : T) : Prop := Wo t ∧ t.deep < m
def psW (m : Nat) : PSp := psF (fun t => t.Fine ∧ t.deep < m) (fun t => .bl (decide (t.dp > 0)))
theorem pure_need {m : Nat} : ∀ sl P, psF (WoD m) (fun _ => .non) sl P → p_need_worth (psW m) (pdOf false sl P) (sl ++ nones 0) := by
  rintro sl P ⟨t, rfl, f, q⟩
  show p_need_worth _ _ [_]
  unfold p_need_worth
  repeat wtm_at "w"
  refine u_F ⟨f.1.fine, f.2⟩ ?_
  repeat wtm_at "w"
  have e : decide (t.dp > 0) = true := decide_eq_true (by have := f.1.lo; omega)
  rw [e]
  repeat wtm_at "w"
  exact ⟨rfl, trivial, q⟩
def sortW : T → Str
  | .non => "nothing"
  | .bl _ => "truth"
  | .int _ => "number"
  | .str _ => "text"
  | .lst _ => "row"
  | _ => "fields"
theorem pure_sortw : ∀ sl P, psF (fun t => Wo t) (fun t => .str (sortW t)) sl P → p_sort_word (pdOf false sl P) (sl ++ nones 0) := by
  rintro sl P ⟨t, rfl, f, q⟩
  show p_sort_word _ [_]
  unfold p_sort_word
  have ff := f.fine
  have lo := f.lo
  cases t
  all_goals first | exact ff.elim | ((repeat wtm_at "w"); exact ⟨trivial, q⟩)
theorem pure_sorto {m : Nat} : ∀ sl P, psF (WoD m) (fun t => .str (sortW t)) sl P → p_sort_of (psF (WoD m) (fun _ => .non)) (psF (fun t => Wo t) (fun t => .str (sortW t))) (pdOf false sl P) (sl ++ nones 0) := by
  rintro sl P ⟨t, rfl, f, q⟩
  show p_sort_of _ _ _ [_]
  unfold p_sort_of
  repeat wtm_at "w"
  refine u_F f ?_
  repeat wtm_at "w"
  refine u_F f.1 ?_
  repeat wtm_at "w"
  exact ⟨trivial, q⟩
theorem pure_deep {m : Nat} : ∀ sl P, psF (WoD m) (fun t => .int t.dp) sl P → p_deep (psF (WoD m) (fun _ => .non)) (psN m T.dp) (pdOf false sl P) (sl ++ nones 0) := by
  rintro sl P ⟨t, rfl, f, q⟩
  show p_deep _ _ _ [_]
  unfold p_deep
  repeat wtm_at "w"
  refine u_F f ?_
  repeat wtm_at "w"
  refine u_F ⟨f.1.fine, f.2⟩ ?_
  repeat wtm_at "w"
  exact ⟨trivial, q⟩
end Pu

namespace Pu
open PySem PySem.Spec PyProof.Rows L2 He Hk
local macro_rules | `(tactic| wtm_at "kb") => `(tactic| first | with_reducible exact kb_NoneType_int | with_reducible exact kb_NoneType_bool | with_reducible exact kb_NoneType_str | with_reducible exact kb_NoneType_list | with_reducible exact kb_NoneType_tuple | with_reducible exact kb_NoneType_dict | with_reducible exact kb_bool_int | with_reducible exact kb_bool_bool | with_reducible exact kb_bool_str | with_reducible exact kb_bool_list | with_reducible exact kb_bool_tuple | with_reducible exact kb_bool_dict | with_reducible exact kb_int_int | with_reducible exact kb_int_bool | with_reducible exact kb_int_str | with_reducible exact kb_int_list | with_reducible exact kb_int_tuple | with_reducible exact kb_int_dict | with_reducible exact kb_str_int | with_reducible exact kb_str_bool | with_reducible exact kb_str_str | with_reducible exact kb_str_list | with_reducible exact kb_str_tuple | with_reducible exact kb_str_dict | with_reducible exact kb_list_int | with_reducible exact kb_list_bool | with_reducible exact kb_list_str | with_reducible exact kb_list_list | with_reducible exact kb_list_tuple | with_reducible exact kb_list_dict | with_reducible exact kb_tuple_int | with_reducible exact kb_tuple_bool | with_reducible exact kb_tuple_str | with_reducible exact kb_tuple_list | with_reducible exact kb_tuple_tuple | with_reducible exact kb_tuple_dict | with_reducible exact kb_dict_int | with_reducible exact kb_dict_bool | with_reducible exact kb_dict_str | with_reducible exact kb_dict_list | with_reducible exact kb_dict_tuple | with_reducible exact kb_dict_dict)
local macro_rules | `(tactic| wtm_at "set") => `(tactic| ((try simp only [backE, reown, List.set_cons_zero, List.set_cons_succ, List.getElem?_cons_zero, List.getElem?_cons_succ]); rfl))
local macro_rules | `(tactic| wtm_at "side") => `(tactic| first | assumption | decide | omega)
local macro_rules | `(tactic| wtm_at "ln") => `(tactic| first | omega | exact len_one (by omega) | (refine len_cut ?_; wtm_at "ln") | (refine len_app ?_ ?_ <;> wtm_at "ln") | decide +kernel)
local macro_rules | `(tactic| wtm_at "size") => `(tactic| first | assumption | wtm_at "ln" | (refine Nat.le_trans (Nat.add_le_add (b := 8000000) (d := 8000000) ?_ ?_) (by decide) <;> wtm_at "ln"))
local macro_rules | `(tactic| wtm_at "w") => `(tactic| (first
  | (with_reducible refine w_op ?_)
  | (with_reducible refine w_cons ?_)
  | ((with_reducible refine' w_consV ?e1 ?_); (case e1 => exact trivial);)
  | (with_reducible refine w_c ?_)
  | (with_reducible refine w_nil ?_)
  | ((with_reducible refine' w_kO ?e1 ?_); (case e1 => rfl);)
  | ((with_reducible refine' w_var ?e1 ?_); (case e1 => rfl);)
  | (with_reducible refine w_seq ?_)
  | (with_reducible refine w_asg ?_)
  | ((with_reducible refine' w_name ?e1 ?e2 ?_); (case e1 => exact trivial); (case e2 => wtm_at "set");)
  | (with_reducible refine w_if ?_)
  | (with_reducible refine w_test ?_)
  | (with_reducible refine w_kB ?_)
  | (with_reducible refine w_call ?_)
  | ((with_reducible refine' w_kC ?e1 ?e2 ?_); (case e1 => rfl); (case e2 => rfl);)
  | ((with_reducible refine' w_kBk ?e1 ?_); (case e1 => wtm_at "set");)
  | (with_reducible refine w_ret ?_)
  | (with_reducible refine iteT' ?_)
  | (with_reducible refine iteF' ?_)
  | (with_reducible refine w_and ?_)
  | (with_reducible refine w_or ?_)
  | (with_reducible refine w_not ?_)
  | (with_reducible refine w_next ?_)
  | ((with_reducible refine' v_ixL ?e1 ?_); (case e1 => rfl);)
  | (with_reducible refine v_addI ?_)
  | ((with_reducible refine' v_eq ?e1 ?_); (case e1 => rfl);)
  | (with_reducible refine w_lst ?_)
  | ((with_reducible refine' w_kV2 ?e1 ?e2 ?_); (case e1 => rfl); (case e2 => exact Nat.le_of_ble_eq_true rfl);)
  | (with_reducible refine w_own ?_)
  | (with_reducible refine w_drop ?_)
  | (with_reducible refine w_andV ?_)
  | (with_reducible refine w_orV ?_)
  | (with_reducible refine w_notV ?_)
  | (with_reducible refine w_ifE ?_)
  | (with_reducible refine w_chain ?_)
  | (with_reducible refine w_yes ?_)
  | (with_reducible refine w_tup ?_)
  | (with_reducible refine w_dnew ?_)
  | (with_reducible refine w_disp ?_)
  | (with_reducible refine w_pnil ?_)
  | (with_reducible refine w_pcons ?_)
  | (with_reducible refine w_sl ?_)
  | (with_reducible refine w_noPart ?_)
  | (with_reducible refine w_part ?_)
  | (with_reducible refine w_kI ?_)
  | (with_reducible refine w_m ?_)
  | (with_reducible refine w_kM ?_)
  | (with_reducible refine w_piList ?_)
  | (with_reducible refine w_kL ?_)
  | (with_reducible refine w_piTup ?_)
  | (with_reducible refine w_kTu ?_)
  | (with_reducible refine w_piStr ?_)
  | (with_reducible refine w_kSt ?_)
  | (with_reducible refine w_piRng1 ?_)
  | (with_reducible refine w_piRng2 ?_)
  | (with_reducible refine w_piD ?_)
  | (with_reducible refine w_kD ?_)
  | (with_reducible refine w_for ?_)
  | (with_reducible refine w_lc ?_)
  | (with_reducible refine v_sub ?_)
  | (with_reducible refine v_neg ?_)
  | (with_reducible refine v_le ?_)
  | (with_reducible refine v_gt ?_)
  | (with_reducible refine v_ge ?_)
  | (with_reducible refine v_lt ?_)
  | (with_reducible refine v_ltS ?_)
  | (with_reducible refine v_inS ?_)
  | (with_reducible refine v_notInS ?_)
  | (with_reducible refine v_lenL ?_)
  | (with_reducible refine v_lenT ?_)
  | (with_reducible refine v_lenD ?_)
  | (with_reducible refine v_lenC ?_)
  | (with_reducible refine v_max2 ?_)
  | (with_reducible refine v_min2 ?_)
  | (with_reducible refine v_listD ?_)
  | (with_reducible refine v_listV ?_)
  | (with_reducible refine v_dictD ?_)
  | (with_reducible refine v_tupleL ?_)
  | (with_reducible refine v_tupleT ?_)
  | (with_reducible refine v_int1 ?_)
  | (with_reducible refine v_int2 ?_)
  | (with_reducible refine v_isN ?_)
  | (with_reducible refine v_notN ?_)
  | (with_reducible refine v_slL ?_)
  | (with_reducible refine v_slT ?_)
  | ((with_reducible refine' w_varO ?e1 ?e2 ?_); (case e1 => rfl); (case e2 => wtm_at "set");)
  | ((with_reducible refine' w_kMO ?e1 ?_); (case e1 => rfl);)
  | ((with_reducible refine' w_kOwn ?e1 ?_); (case e1 => exact trivial); (intro p' env' ee'; simp only [List.set_cons_zero, List.set_cons_succ] at ee'; subst ee'))
  | ((with_reducible refine' w_kDs ?e1 ?e2 ?_); (case e1 => rfl); (case e2 => exact Nat.le_of_ble_eq_true rfl);)
  | ((with_reducible refine' w_slV ?e1 ?_); (case e1 => exact trivial);)
  | ((with_reducible refine' w_kSl ?e1 ?_); (case e1 => rfl);)
  | ((with_reducible refine' w_setL ?e1 ?_); (case e1 => exact trivial);)
  | ((with_reducible refine' w_setD ?e1 ?_); (case e1 => exact trivial);)
  | ((with_reducible refine' w_kSetL ?e1 ?e2 ?e3 ?_); (case e1 => rfl); (case e2 => rfl); (case e3 => wtm_at "set");)
  | ((with_reducible refine' w_kSetD ?e1 ?e2 ?e3 ?e4 ?_); (case e1 => rfl); (case e2 => wtm_at "side"); (case e3 => rfl); (case e4 => wtm_at "set");)
  | ((with_reducible refine' w_append ?e1 ?_); (case e1 => rfl);)
  | ((with_reducible refine' w_kApp ?e1 ?e2 ?e3 ?_); (case e1 => rfl); (case e2 => wtm_at "side"); (case e3 => wtm_at "set");)
  | ((with_reducible refine' w_kR1 ?e1 ?_); (case e1 => omega);)
  | ((with_reducible refine' w_kR2 ?e1 ?_); (case e1 => omega);)
  | ((with_reducible refine' iteTrue ?e1 ?_); (case e1 => rfl);)
  | ((with_reducible refine' iteFalse ?e1 ?_); (case e1 => rfl);)
  | ((with_reducible refine' v_mod ?e1 ?_); (case e1 => wtm_at "side");)
  | ((with_reducible refine' v_mulI ?e1 ?_); (case e1 => first | exact s_mul (by omega) (by omega) | (unfold CMulW; decide +kernel));)
  | ((with_reducible refine' v_div ?e1 ?_); (case e1 => omega);)
  | ((with_reducible refine' v_powE ?e1 ?e2 ?_); (case e1 => first | decide | (refine ⟨by decide, by decide, ?_, ?_⟩ <;> omega)); (case e2 => ((try simp only [Int.reduceToNat, Int.reducePow]); rfl)))
  | ((with_reducible refine' v_ne ?e1 ?_); (case e1 => rfl);)
  | ((with_reducible refine' v_ixT ?e1 ?_); (case e1 => rfl);)
  | ((with_reducible refine' v_isi ?e1 ?e2 ?_); (case e1 => rfl); (case e2 => wtm_at "kb");)
  | ((with_reducible refine' v_lenS ?e1 ?_); (case e1 => wtm_at "size");)
  | ((with_reducible refine' v_addS ?e1 ?_); (case e1 => wtm_at "size");)
  | ((with_reducible refine' v_slS ?e1 ?_); (case e1 => wtm_at "size");)
  | ((with_reducible refine' v_ixS ?e1 ?e2 ?e3 ?_); (case e1 => wtm_at "size"); (case e2 => omega); (case e3 => first | omega | (simp only [show _ = _ from by assumption]; omega)); intro c' hc' hc2)
  | (with_reducible refine w_ml ?_)
  | (with_reducible refine w_kML ?_)
  | ((with_reducible refine' w_kMLO ?e1 ?_); (case e1 => rfl);)
  | (with_reducible refine w_callN ?_)
  | (with_reducible refine v_rev ?_)
  | (with_reducible refine v_listEn ?_)
  | (with_reducible refine v_ixAd ?_)
  | (with_reducible refine v_ixAl ?_)
  | (with_reducible refine v_ixAt ?_)
  | ((with_reducible refine' v_inAd ?e1 ?_); (case e1 => rfl);)
  | ((with_reducible refine' w_extend ?e1 ?_); (case e1 => rfl);)
  | ((with_reducible refine' w_kExt ?e1 ?e2 ?e3 ?_); (case e1 => rfl); (case e2 => wtm_at "side"); (case e3 => wtm_at "set");)))
def stepsO (t : T) : T := .lst ((stepsL t).map pairT)
theorem wo_dct {kvs : List (Key × T)} (w : Wo (.dct kvs)) : kvs.length ≤ 8 ∧ ∃ ks, strKeys kvs = some ks ∧ ks.length = kvs.length := by
  rcases wo_held w with ⟨z, _⟩ | ⟨ts, h⟩
  · exact absurd z (by unfold T.deep; omega)
  · obtain ⟨_, h1, h2⟩ := held_dct h
    exact ⟨h1, names_keys h2⟩
theorem wo_lst {xs : List T} (w : Wo (.lst xs)) : xs.length ≤ 6 ∧ heldT (.lst xs) = some xs := by
  rcases wo_held w with ⟨z, _⟩ | ⟨ts, h⟩
  · exact absurd z (by unfold T.deep; omega)
  · obtain ⟨rfl, h1⟩ := held_lst h
    exact ⟨h1, h⟩
theorem lc_names {kvs : List (Key × T)} {ks : List Str} (e : strKeys kvs = some ks) (t0 : T → T → T) {items : List T} (hi : items = (sortS ks).map T.str) (f : T → T) (hf : ∀ k, f (.str k) = .tup [.str k, (valT kvs (.inr k)).getD .non]) :
    (items.filter fun _ => true).map f = (stepsL (.dct kvs)).map pairT := by
  subst hi
  rw [List.filter_eq_self.mpr (fun _ _ => rfl), List.map_map]
  show _ = ((namesOf kvs).map fun k => (T.str k, (valT kvs (.inr k)).getD .non)).map pairT
  unfold namesOf
  rw [e, List.map_map]
  exact List.map_congr_left fun k _ => hf k
def stepF (kvs : List (Key × T)) : T → T
  | .str k => .tup [.str k, (valT kvs (.inr k)).getD .non]
  | t => t
theorem pure_steps : ∀ sl P, psF Wo stepsO sl P → p_steps_in (pdOf false sl P) (sl ++ nones 1) := by
  rintro sl P ⟨t, rfl, f, q⟩
  show p_steps_in _ [_, _]
  unfold p_steps_in
  have ff := f.fine
  cases t with
  | lst xs =>
    repeat wtm_at "w"
    rw [enT_is]
    exact ⟨trivial, q⟩
  | dct kvs =>
    obtain ⟨h8, ks, e, hl⟩ := wo_dct f
    repeat wtm_at "w"
    refine v_sortD e (by omega) ?_
    repeat wtm_at "w"
    refine lc_fun (env0 := [_, _]) rfl (by rw [List.length_map, (sortS_perm ks).length_eq]; omega) (fun _ => true) (stepF kvs) trivial (fun _ => rfl) (fun x _ Q h => h) (fun x hx _ Q h => ?_) ?_
    · obtain ⟨k, hk, rfl⟩ := List.mem_map.mp hx
      obtain ⟨u, eu⟩ := valT_some (strKeys_mem e k ((sortS_perm ks).mem_iff.mp hk))
      repeat wtm_at "w"
      refine v_dget rfl eu ?_
      repeat wtm_at "w"
      have h' := h
      unfold stepF at h'
      dsimp only at h'
      rw [eu] at h'
      exact h'
    · rw [lc_names e (fun a _ => a) rfl (stepF kvs) fun _ => rfl]
      exact ⟨trivial, q⟩
  | _ => first | exact ff.elim | ((repeat wtm_at "w"); exact ⟨trivial, q⟩)
end Pu

namespace Pu
open PySem PySem.Spec PyProof.Rows L2 He Hk
local macro_rules | `(tactic| wtm_at "kb") => `(tactic| first | with_reducible exact kb_NoneType_int | with_reducible exact kb_NoneType_bool | with_reducible exact kb_NoneType_str | with_reducible exact kb_NoneType_list | with_reducible exact kb_NoneType_tuple | with_reducible exact kb_NoneType_dict | with_reducible exact kb_bool_int | with_reducible exact kb_bool_bool | with_reducible exact kb_bool_str | with_reducible exact kb_bool_list | with_reducible exact kb_bool_tuple | with_reducible exact kb_bool_dict | with_reducible exact kb_int_int | with_reducible exact kb_int_bool | with_reducible exact kb_int_str | with_reducible exact kb_int_list | with_reducible exact kb_int_tuple | with_reducible exact kb_int_dict | with_reducible exact kb_str_int | with_reducible exact kb_str_bool | with_reducible exact kb_str_str | with_reducible exact kb_str_list | with_reducible exact kb_str_tuple | with_reducible exact kb_str_dict | with_reducible exact kb_list_int | with_reducible exact kb_list_bool | with_reducible exact kb_list_str | with_reducible exact kb_list_list | with_reducible exact kb_list_tuple | with_reducible exact kb_list_dict | with_reducible exact kb_tuple_int | with_reducible exact kb_tuple_bool | with_reducible exact kb_tuple_str | with_reducible exact kb_tuple_list | with_reducible exact kb_tuple_tuple | with_reducible exact kb_tuple_dict | with_reducible exact kb_dict_int | with_reducible exact kb_dict_bool | with_reducible exact kb_dict_str | with_reducible exact kb_dict_list | with_reducible exact kb_dict_tuple | with_reducible exact kb_dict_dict)
local macro_rules | `(tactic| wtm_at "set") => `(tactic| ((try simp only [backE, reown, List.set_cons_zero, List.set_cons_succ, List.getElem?_cons_zero, List.getElem?_cons_succ]); rfl))
local macro_rules | `(tactic| wtm_at "side") => `(tactic| first | assumption | decide | omega)
local macro_rules | `(tactic| wtm_at "ln") => `(tactic| first | omega | exact len_one (by omega) | (refine len_cut ?_; wtm_at "ln") | (refine len_app ?_ ?_ <;> wtm_at "ln") | decide +kernel)
local macro_rules | `(tactic| wtm_at "size") => `(tactic| first | assumption | wtm_at "ln" | (refine Nat.le_trans (Nat.add_le_add (b := 8000000) (d := 8000000) ?_ ?_) (by decide) <;> wtm_at "ln"))
local macro_rules | `(tactic| wtm_at "w") => `(tactic| (first
  | (with_reducible refine w_op ?_)
  | (with_reducible refine w_cons ?_)
  | ((with_reducible refine' w_consV ?e1 ?_); (case e1 => exact trivial);)
  | (with_reducible refine w_c ?_)
  | (with_reducible refine w_nil ?_)
  | ((with_reducible refine' w_kO ?e1 ?_); (case e1 => rfl);)
  | ((with_reducible refine' w_var ?e1 ?_); (case e1 => rfl);)
  | (with_reducible refine w_seq ?_)
  | (with_reducible refine w_asg ?_)
  | ((with_reducible refine' w_name ?e1 ?e2 ?_); (case e1 => exact trivial); (case e2 => wtm_at "set");)
  | (with_reducible refine w_if ?_)
  | (with_reducible refine w_test ?_)
  | (with_reducible refine w_kB ?_)
  | (with_reducible refine w_call ?_)
  | ((with_reducible refine' w_kC ?e1 ?e2 ?_); (case e1 => rfl); (case e2 => rfl);)
  | ((with_reducible refine' w_kBk ?e1 ?_); (case e1 => wtm_at "set");)
  | (with_reducible refine w_ret ?_)
  | (with_reducible refine iteT' ?_)
  | (with_reducible refine iteF' ?_)
  | (with_reducible refine w_and ?_)
  | (with_reducible refine w_or ?_)
  | (with_reducible refine w_not ?_)
  | (with_reducible refine w_next ?_)
  | ((with_reducible refine' v_ixL ?e1 ?_); (case e1 => rfl);)
  | (with_reducible refine v_addI ?_)
  | ((with_reducible refine' v_eq ?e1 ?_); (case e1 => rfl);)
  | (with_reducible refine w_lst ?_)
  | ((with_reducible refine' w_kV2 ?e1 ?e2 ?_); (case e1 => rfl); (case e2 => exact Nat.le_of_ble_eq_true rfl);)
  | (with_reducible refine w_own ?_)
  | (with_reducible refine w_drop ?_)
  | (with_reducible refine w_andV ?_)
  | (with_reducible refine w_orV ?_)
  | (with_reducible refine w_notV ?_)
  | (with_reducible refine w_ifE ?_)
  | (with_reducible refine w_chain ?_)
  | (with_reducible refine w_yes ?_)
  | (with_reducible refine w_tup ?_)
  | (with_reducible refine w_dnew ?_)
  | (with_reducible refine w_disp ?_)
  | (with_reducible refine w_pnil ?_)
  | (with_reducible refine w_pcons ?_)
  | (with_reducible refine w_sl ?_)
  | (with_reducible refine w_noPart ?_)
  | (with_reducible refine w_part ?_)
  | (with_reducible refine w_kI ?_)
  | (with_reducible refine w_m ?_)
  | (with_reducible refine w_kM ?_)
  | (with_reducible refine w_piList ?_)
  | (with_reducible refine w_kL ?_)
  | (with_reducible refine w_piTup ?_)
  | (with_reducible refine w_kTu ?_)
  | (with_reducible refine w_piStr ?_)
  | (with_reducible refine w_kSt ?_)
  | (with_reducible refine w_piRng1 ?_)
  | (with_reducible refine w_piRng2 ?_)
  | (with_reducible refine w_piD ?_)
  | (with_reducible refine w_kD ?_)
  | (with_reducible refine w_for ?_)
  | (with_reducible refine w_lc ?_)
  | (with_reducible refine v_sub ?_)
  | (with_reducible refine v_neg ?_)
  | (with_reducible refine v_le ?_)
  | (with_reducible refine v_gt ?_)
  | (with_reducible refine v_ge ?_)
  | (with_reducible refine v_lt ?_)
  | (with_reducible refine v_ltS ?_)
  | (with_reducible refine v_inS ?_)
  | (with_reducible refine v_notInS ?_)
  | (with_reducible refine v_lenL ?_)
  | (with_reducible refine v_lenT ?_)
  | (with_reducible refine v_lenD ?_)
  | (with_reducible refine v_lenC ?_)
  | (with_reducible refine v_max2 ?_)
  | (with_reducible refine v_min2 ?_)
  | (with_reducible refine v_listD ?_)
  | (with_reducible refine v_listV ?_)
  | (with_reducible refine v_dictD ?_)
  | (with_reducible refine v_tupleL ?_)
  | (with_reducible refine v_tupleT ?_)
  | (with_reducible refine v_int1 ?_)
  | (with_reducible refine v_int2 ?_)
  | (with_reducible refine v_isN ?_)
  | (with_reducible refine v_notN ?_)
  | (with_reducible refine v_slL ?_)
  | (with_reducible refine v_slT ?_)
  | ((with_reducible refine' w_varO ?e1 ?e2 ?_); (case e1 => rfl); (case e2 => wtm_at "set");)
  | ((with_reducible refine' w_kMO ?e1 ?_); (case e1 => rfl);)
  | ((with_reducible refine' w_kOwn ?e1 ?_); (case e1 => exact trivial); (intro p' env' ee'; simp only [List.set_cons_zero, List.set_cons_succ] at ee'; subst ee'))
  | ((with_reducible refine' w_kDs ?e1 ?e2 ?_); (case e1 => rfl); (case e2 => exact Nat.le_of_ble_eq_true rfl);)
  | ((with_reducible refine' w_slV ?e1 ?_); (case e1 => exact trivial);)
  | ((with_reducible refine' w_kSl ?e1 ?_); (case e1 => rfl);)
  | ((with_reducible refine' w_setL ?e1 ?_); (case e1 => exact trivial);)
  | ((with_reducible refine' w_setD ?e1 ?_); (case e1 => exact trivial);)
  | ((with_reducible refine' w_kSetL ?e1 ?e2 ?e3 ?_); (case e1 => rfl); (case e2 => rfl); (case e3 => wtm_at "set");)
  | ((with_reducible refine' w_kSetD ?e1 ?e2 ?e3 ?e4 ?_); (case e1 => rfl); (case e2 => wtm_at "side"); (case e3 => rfl); (case e4 => wtm_at "set");)
  | ((with_reducible refine' w_append ?e1 ?_); (case e1 => rfl);)
  | ((with_reducible refine' w_kApp ?e1 ?e2 ?e3 ?_); (case e1 => rfl); (case e2 => wtm_at "side"); (case e3 => wtm_at "set");)
  | ((with_reducible refine' w_kR1 ?e1 ?_); (case e1 => omega);)
  | ((with_reducible refine' w_kR2 ?e1 ?_); (case e1 => omega);)
  | ((with_reducible refine' iteTrue ?e1 ?_); (case e1 => rfl);)
  | ((with_reducible refine' iteFalse ?e1 ?_); (case e1 => rfl);)
  | ((with_reducible refine' v_mod ?e1 ?_); (case e1 => wtm_at "side");)
  | ((with_reducible refine' v_mulI ?e1 ?_); (case e1 => first | exact s_mul (by omega) (by omega) | (unfold CMulW; decide +kernel));)
  | ((with_reducible refine' v_div ?e1 ?_); (case e1 => omega);)
  | ((with_reducible refine' v_powE ?e1 ?e2 ?_); (case e1 => first | decide | (refine ⟨by decide, by decide, ?_, ?_⟩ <;> omega)); (case e2 => ((try simp only [Int.reduceToNat, Int.reducePow]); rfl)))
  | ((with_reducible refine' v_ne ?e1 ?_); (case e1 => rfl);)
  | ((with_reducible refine' v_ixT ?e1 ?_); (case e1 => rfl);)
  | ((with_reducible refine' v_isi ?e1 ?e2 ?_); (case e1 => rfl); (case e2 => wtm_at "kb");)
  | ((with_reducible refine' v_lenS ?e1 ?_); (case e1 => wtm_at "size");)
  | ((with_reducible refine' v_addS ?e1 ?_); (case e1 => wtm_at "size");)
  | ((with_reducible refine' v_slS ?e1 ?_); (case e1 => wtm_at "size");)
  | ((with_reducible refine' v_ixS ?e1 ?e2 ?e3 ?_); (case e1 => wtm_at "size"); (case e2 => omega); (case e3 => first | omega | (simp only [show _ = _ from by assumption]; omega)); intro c' hc' hc2)
  | (with_reducible refine w_ml ?_)
  | (with_reducible refine w_kML ?_)
  | ((with_reducible refine' w_kMLO ?e1 ?_); (case e1 => rfl);)
  | (with_reducible refine w_callN ?_)
  | (with_reducible refine v_rev ?_)
  | (with_reducible refine v_listEn ?_)
  | (with_reducible refine v_ixAd ?_)
  | (with_reducible refine v_ixAl ?_)
  | (with_reducible refine v_ixAt ?_)
  | ((with_reducible refine' v_inAd ?e1 ?_); (case e1 => rfl);)
  | ((with_reducible refine' w_extend ?e1 ?_); (case e1 => rfl);)
  | ((with_reducible refine' w_kExt ?e1 ?e2 ?e3 ?_); (case e1 => rfl); (case e2 => wtm_at "side"); (case e3 => wtm_at "set");)))
theorem w_tup2 {i j : Nat} {a b : T} {env env' : Env} {Q : Env → Prop} (h1 : noRef env i) (h2 : noRef (env.set i (.val a)) j) (e : (env.set i (.val a)).set j (.val b) = env') (h : Q env') : pgTup 2 (pgCons (pgName i) (pgCons (pgName j) pgNil)) (.tup [a, b]) env Q := by
  subst e; exact ⟨rfl, h1, h2, rfl, h⟩
def psC (m : Nat) : PSp := psF (WoD m) (fun t => t)
theorem put_take {kvs : List (Key × T)} {i : Nat} {kv : Key × T} (hn : (kvs.map (·.1)).Nodup) (e : kvs[i]? = some kv) : putT (kvs.take i) kv.1 kv.2 = kvs.take (i + 1) := by
  have hlt := (List.getElem?_eq_some_iff.mp e).1
  have ev := (List.getElem?_eq_some_iff.mp e).2
  have nk : kv.1 ∉ (kvs.take i).map (·.1) := by
    intro z
    obtain ⟨j, hj⟩ := List.mem_iff_getElem?.mp z
    have hji : j < i := by
      have := (List.getElem?_eq_some_iff.mp hj).1
      rw [List.length_map, List.length_take] at this; omega
    rw [List.map_take, List.getElem?_take, if_pos hji] at hj
    have h2 : (kvs.map (·.1))[i]? = some kv.1 := by rw [List.getElem?_map, e]; rfl
    have hjl : j < (kvs.map (·.1)).length := by rw [List.length_map]; omega
    have := (List.getElem?_inj hjl hn).mp (hj.trans h2.symm)
    omega
  unfold putT
  have na : ((kvs.take i).any fun kv' => decide (kv'.1 = kv.1)) = false := by
    cases q : (kvs.take i).any fun kv' => decide (kv'.1 = kv.1) with
    | false => rfl
    | true => exact absurd (any_key.mp q) nk
  rw [na]
  rw [List.take_add_one, e]
  rfl
theorem deep_kv {kvs : List (Key × T)} {kv : Key × T} {m : Nat} (w : WoD (m + 1) (.dct kvs)) (h : kv ∈ kvs) : WoD m kv.2 := by
  rcases wo_held w.1 with ⟨z, _⟩ | ⟨ts, e⟩
  · exact absurd z (by unfold T.deep; omega)
  · have e2 := (held_dct e).1
    obtain ⟨h1, h2⟩ := held_wo w.1 e (x := kv.2) (by rw [e2]; exact List.mem_map_of_mem h)
    exact ⟨h1, by have := w.2; omega⟩
theorem deep_lst {xs : List T} {x : T} {m : Nat} (w : WoD (m + 1) (.lst xs)) (h : x ∈ xs) : WoD m x := by
  obtain ⟨h1, h2⟩ := held_wo w.1 (wo_lst w.1).2 h
  exact ⟨h1, by have := w.2; omega⟩
theorem keyT_kT (k : Key) : keyT (kT k) = some k := by cases k <;> rfl
theorem pure_copy {m : Nat} : ∀ sl P, psC (m + 1) sl P → p_copy_of (psC m) (pdOf false sl P) (sl ++ nones 3) := by
  rintro sl P ⟨t, rfl, f, q⟩
  show p_copy_of _ _ [_, _, _, _]
  unfold p_copy_of
  have ff := f.1.fine
  cases t with
  | lst xs =>
    have h6 := (wo_lst f.1).1
    repeat wtm_at "w"
    refine lc_fun (env0 := [_, _, _, _]) rfl (by omega) (fun _ => true) (fun x => x) trivial (fun _ => rfl) (fun x _ Q h => h) (fun x hx _ Q h => ?_) ?_
    · repeat wtm_at "w"
      refine u_F (deep_lst f hx) ?_
      repeat wtm_at "w"
      exact h
    · rw [List.filter_eq_self.mpr (fun _ _ => rfl), List.map_id']
      exact ⟨trivial, q⟩
  | dct kvs =>
    obtain ⟨h8, ks, e, hl⟩ := wo_dct f.1
    repeat wtm_at "w"
    rename_i p
    refine for_inv (fun i env => ∃ s1 s3, env = [.val (.dct kvs), s1, .own p (.dct (kvs.take i)), s3] ∧ noRef env 1 ∧ noRef env 3) ⟨_, _, rfl, trivial, trivial⟩ ?_ ?_
    · rintro env ⟨s1, s3, rfl, _, _⟩
      have hlen : (DW.of .items kvs).length = kvs.length := by show (kvs.map _).length = _; rw [List.length_map]
      rw [hlen, List.take_length]
      repeat wtm_at "w"
      exact ⟨trivial, q⟩
    · rintro i x env N hx ⟨s1, s3, rfl, n1, n3⟩ hN
      have hx' : (kvs.map fun kv => T.tup [kT kv.1, kv.2])[i]? = some x := hx
      rw [List.getElem?_map] at hx'
      cases ek : kvs[i]? with
      | none => rw [ek] at hx'; cases hx'
      | some kv =>
        rw [ek] at hx'; cases hx'
        have hm := List.mem_of_getElem? ek
        refine w_tup2 n3 n1 rfl ?_
        repeat wtm_at "w"
        refine u_F (deep_kv f hm) ?_
        repeat wtm_at "w"
        refine w_kSetD rfl (by rw [List.length_take]; omega) (keyT_kT _) rfl ?_
        refine hN _ ⟨.val kv.2, .val (kT kv.1), ?_, trivial, trivial⟩
        rw [put_take f.1.uq.1 ek]
        rfl
  | _ => first | exact ff.elim | ((repeat wtm_at "w"); exact ⟨trivial, q⟩)
end Pu

namespace Pu
open PySem PySem.Spec PyProof.Rows L2 He Hk
local macro_rules | `(tactic| wtm_at "kb") => `(tactic| first | with_reducible exact kb_NoneType_int | with_reducible exact kb_NoneType_bool | with_reducible exact kb_NoneType_str | with_reducible exact kb_NoneType_list | with_reducible exact kb_NoneType_tuple | with_reducible exact kb_NoneType_dict | with_reducible exact kb_bool_int | with_reducible exact kb_bool_bool | with_reducible exact kb_bool_str | with_reducible exact kb_bool_list | with_reducible exact kb_bool_tuple | with_reducible exact kb_bool_dict | with_reducible exact kb_int_int | with_reducible exact kb_int_bool | with_reducible exact kb_int_str | with_reducible exact kb_int_list | with_reducible exact kb_int_tuple | with_reducible exact kb_int_dict | with_reducible exact kb_str_int | with_reducible exact kb_str_bool | with_reducible exact kb_str_str | with_reducible exact kb_str_list | with_reducible exact kb_str_tuple | with_reducible exact kb_str_dict | with_reducible exact kb_list_int | with_reducible exact kb_list_bool | with_reducible exact kb_list_str | with_reducible exact kb_list_list | with_reducible exact kb_list_tuple | with_reducible exact kb_list_dict | with_reducible exact kb_tuple_int | with_reducible exact kb_tuple_bool | with_reducible exact kb_tuple_str | with_reducible exact kb_tuple_list | with_reducible exact kb_tuple_tuple | with_reducible exact kb_tuple_dict | with_reducible exact kb_dict_int | with_reducible exact kb_dict_bool | with_reducible exact kb_dict_str | with_reducible exact kb_dict_list | with_reducible exact kb_dict_tuple | with_reducible exact kb_dict_dict)
local macro_rules | `(tactic| wtm_at "set") => `(tactic| ((try simp only [backE, reown, List.set_cons_zero, List.set_cons_succ, List.getElem?_cons_zero, List.getElem?_cons_succ]); rfl))
local macro_rules | `(tactic| wtm_at "side") => `(tactic| first | assumption | decide | omega)
local macro_rules | `(tactic| wtm_at "ln") => `(tactic| first | omega | exact len_one (by omega) | (refine len_cut ?_; wtm_at "ln") | (refine len_app ?_ ?_ <;> wtm_at "ln") | decide +kernel)
local macro_rules | `(tactic| wtm_at "size") => `(tactic| first | assumption | wtm_at "ln" | (refine Nat.le_trans (Nat.add_le_add (b := 8000000) (d := 8000000) ?_ ?_) (by decide) <;> wtm_at "ln"))
local macro_rules | `(tactic| wtm_at "w") => `(tactic| (first
  | (with_reducible refine w_op ?_)
  | (with_reducible refine w_cons ?_)
  | ((with_reducible refine' w_consV ?e1 ?_); (case e1 => exact trivial);)
  | (with_reducible refine w_c ?_)
  | (with_reducible refine w_nil ?_)
  | ((with_reducible refine' w_kO ?e1 ?_); (case e1 => rfl);)
  | ((with_reducible refine' w_var ?e1 ?_); (case e1 => rfl);)
  | (with_reducible refine w_seq ?_)
  | (with_reducible refine w_asg ?_)
  | ((with_reducible refine' w_name ?e1 ?e2 ?_); (case e1 => exact trivial); (case e2 => wtm_at "set");)
  | (with_reducible refine w_if ?_)
  | (with_reducible refine w_test ?_)
  | (with_reducible refine w_kB ?_)
  | (with_reducible refine w_call ?_)
  | ((with_reducible refine' w_kC ?e1 ?e2 ?_); (case e1 => rfl); (case e2 => rfl);)
  | ((with_reducible refine' w_kBk ?e1 ?_); (case e1 => wtm_at "set");)
  | (with_reducible refine w_ret ?_)
  | (with_reducible refine iteT' ?_)
  | (with_reducible refine iteF' ?_)
  | (with_reducible refine w_and ?_)
  | (with_reducible refine w_or ?_)
  | (with_reducible refine w_not ?_)
  | (with_reducible refine w_next ?_)
  | ((with_reducible refine' v_ixL ?e1 ?_); (case e1 => rfl);)
  | (with_reducible refine v_addI ?_)
  | ((with_reducible refine' v_eq ?e1 ?_); (case e1 => rfl);)
  | (with_reducible refine w_lst ?_)
  | ((with_reducible refine' w_kV2 ?e1 ?e2 ?_); (case e1 => rfl); (case e2 => exact Nat.le_of_ble_eq_true rfl);)
  | (with_reducible refine w_own ?_)
  | (with_reducible refine w_drop ?_)
  | (with_reducible refine w_andV ?_)
  | (with_reducible refine w_orV ?_)
  | (with_reducible refine w_notV ?_)
  | (with_reducible refine w_ifE ?_)
  | (with_reducible refine w_chain ?_)
  | (with_reducible refine w_yes ?_)
  | (with_reducible refine w_tup ?_)
  | (with_reducible refine w_dnew ?_)
  | (with_reducible refine w_disp ?_)
  | (with_reducible refine w_pnil ?_)
  | (with_reducible refine w_pcons ?_)
  | (with_reducible refine w_sl ?_)
  | (with_reducible refine w_noPart ?_)
  | (with_reducible refine w_part ?_)
  | (with_reducible refine w_kI ?_)
  | (with_reducible refine w_m ?_)
  | (with_reducible refine w_kM ?_)
  | (with_reducible refine w_piList ?_)
  | (with_reducible refine w_kL ?_)
  | (with_reducible refine w_piTup ?_)
  | (with_reducible refine w_kTu ?_)
  | (with_reducible refine w_piStr ?_)
  | (with_reducible refine w_kSt ?_)
  | (with_reducible refine w_piRng1 ?_)
  | (with_reducible refine w_piRng2 ?_)
  | (with_reducible refine w_piD ?_)
  | (with_reducible refine w_kD ?_)
  | (with_reducible refine w_for ?_)
  | (with_reducible refine w_lc ?_)
  | (with_reducible refine v_sub ?_)
  | (with_reducible refine v_neg ?_)
  | (with_reducible refine v_le ?_)
  | (with_reducible refine v_gt ?_)
  | (with_reducible refine v_ge ?_)
  | (with_reducible refine v_lt ?_)
  | (with_reducible refine v_ltS ?_)
  | (with_reducible refine v_inS ?_)
  | (with_reducible refine v_notInS ?_)
  | (with_reducible refine v_lenL ?_)
  | (with_reducible refine v_lenT ?_)
  | (with_reducible refine v_lenD ?_)
  | (with_reducible refine v_lenC ?_)
  | (with_reducible refine v_max2 ?_)
  | (with_reducible refine v_min2 ?_)
  | (with_reducible refine v_listD ?_)
  | (with_reducible refine v_listV ?_)
  | (with_reducible refine v_dictD ?_)
  | (with_reducible refine v_tupleL ?_)
  | (with_reducible refine v_tupleT ?_)
  | (with_reducible refine v_int1 ?_)
  | (with_reducible refine v_int2 ?_)
  | (with_reducible refine v_isN ?_)
  | (with_reducible refine v_notN ?_)
  | (with_reducible refine v_slL ?_)
  | (with_reducible refine v_slT ?_)
  | ((with_reducible refine' w_varO ?e1 ?e2 ?_); (case e1 => rfl); (case e2 => wtm_at "set");)
  | ((with_reducible refine' w_kMO ?e1 ?_); (case e1 => rfl);)
  | ((with_reducible refine' w_kOwn ?e1 ?_); (case e1 => exact trivial); (intro p' env' ee'; simp only [List.set_cons_zero, List.set_cons_succ] at ee'; subst ee'))
  | ((with_reducible refine' w_kDs ?e1 ?e2 ?_); (case e1 => rfl); (case e2 => exact Nat.le_of_ble_eq_true rfl);)
  | ((with_reducible refine' w_slV ?e1 ?_); (case e1 => exact trivial);)
  | ((with_reducible refine' w_kSl ?e1 ?_); (case e1 => rfl);)
  | ((with_reducible refine' w_setL ?e1 ?_); (case e1 => exact trivial);)
  | ((with_reducible refine' w_setD ?e1 ?_); (case e1 => exact trivial);)
  | ((with_reducible refine' w_kSetL ?e1 ?e2 ?e3 ?_); (case e1 => rfl); (case e2 => rfl); (case e3 => wtm_at "set");)
  | ((with_reducible refine' w_kSetD ?e1 ?e2 ?e3 ?e4 ?_); (case e1 => rfl); (case e2 => wtm_at "side"); (case e3 => rfl); (case e4 => wtm_at "set");)
  | ((with_reducible refine' w_append ?e1 ?_); (case e1 => rfl);)
  | ((with_reducible refine' w_kApp ?e1 ?e2 ?e3 ?_); (case e1 => rfl); (case e2 => wtm_at "side"); (case e3 => wtm_at "set");)
  | ((with_reducible refine' w_kR1 ?e1 ?_); (case e1 => omega);)
  | ((with_reducible refine' w_kR2 ?e1 ?_); (case e1 => omega);)
  | ((with_reducible refine' iteTrue ?e1 ?_); (case e1 => rfl);)
  | ((with_reducible refine' iteFalse ?e1 ?_); (case e1 => rfl);)
  | ((with_reducible refine' v_mod ?e1 ?_); (case e1 => wtm_at "side");)
  | ((with_reducible refine' v_mulI ?e1 ?_); (case e1 => first | exact s_mul (by omega) (by omega) | (unfold CMulW; decide +kernel));)
  | ((with_reducible refine' v_div ?e1 ?_); (case e1 => omega);)
  | ((with_reducible refine' v_powE ?e1 ?e2 ?_); (case e1 => first | decide | (refine ⟨by decide, by decide, ?_, ?_⟩ <;> omega)); (case e2 => ((try simp only [Int.reduceToNat, Int.reducePow]); rfl)))
  | ((with_reducible refine' v_ne ?e1 ?_); (case e1 => rfl);)
  | ((with_reducible refine' v_ixT ?e1 ?_); (case e1 => rfl);)
  | ((with_reducible refine' v_isi ?e1 ?e2 ?_); (case e1 => rfl); (case e2 => wtm_at "kb");)
  | ((with_reducible refine' v_lenS ?e1 ?_); (case e1 => wtm_at "size");)
  | ((with_reducible refine' v_addS ?e1 ?_); (case e1 => wtm_at "size");)
  | ((with_reducible refine' v_slS ?e1 ?_); (case e1 => wtm_at "size");)
  | ((with_reducible refine' v_ixS ?e1 ?e2 ?e3 ?_); (case e1 => wtm_at "size"); (case e2 => omega); (case e3 => first | omega | (simp only [show _ = _ from by assumption]; omega)); intro c' hc' hc2)
  | (with_reducible refine w_ml ?_)
  | (with_reducible refine w_kML ?_)
  | ((with_reducible refine' w_kMLO ?e1 ?_); (case e1 => rfl);)
  | (with_reducible refine w_callN ?_)
  | (with_reducible refine v_rev ?_)
  | (with_reducible refine v_listEn ?_)
  | (with_reducible refine v_ixAd ?_)
  | (with_reducible refine v_ixAl ?_)
  | (with_reducible refine v_ixAt ?_)
  | ((with_reducible refine' v_inAd ?e1 ?_); (case e1 => rfl);)
  | ((with_reducible refine' w_extend ?e1 ?_); (case e1 => rfl);)
  | ((with_reducible refine' w_kExt ?e1 ?e2 ?e3 ?_); (case e1 => rfl); (case e2 => wtm_at "side"); (case e3 => wtm_at "set");)))
def gatT (q : List T × T) : T := .tup [.tup q.1, q.2]
def psG (m : Nat) : PSp := fun sl P => ∃ (t : T) (p : List T), sl = [.val t, .val (.tup p)] ∧ WoD m t ∧ m ≤ 6 ∧ p.length + m ≤ 20 ∧ P (.lst ((gat m p t).map gatT)) [.val t, .val (.tup p)]
theorem steps_len {t : T} (w : Wo t) : (stepsL t).length ≤ 8 := by
  cases t with
  | lst xs => have := (wo_lst w).1; show (enP 0 xs).length ≤ 8; rw [enP_length]; omega
  | dct kvs =>
    obtain ⟨h8, ks, e, hl⟩ := wo_dct w
    show ((namesOf kvs).map _).length ≤ 8
    rw [List.length_map]
    unfold namesOf
    rw [e]
    show (sortS ks).length ≤ 8
    rw [(sortS_perm ks).length_eq]; omega
  | _ => exact Nat.zero_le _
theorem flat_len {α β : Type} {f : α → List β} {c : Nat} : ∀ {xs : List α}, (∀ x, x ∈ xs → (f x).length ≤ c) → (xs.flatMap f).length ≤ xs.length * c
  | [], _ => by simp
  | x :: r, h => by
    rw [List.flatMap_cons, List.length_append, List.length_cons, Nat.succ_mul]
    have h1 := h x (List.mem_cons_self ..)
    have h2 := flat_len (xs := r) fun y hy => h y (List.mem_cons_of_mem _ hy)
    omega
theorem gat_len : ∀ (n : Nat) {p : List T} {t : T}, Wo t → (gat n p t).length ≤ 9 ^ n
  | 0, p, t, w => Nat.le_refl 1
  | n + 1, p, t, w => by
    show ((stepsL t).flatMap fun s => gat n (p ++ [s.1]) s.2).length + 1 ≤ _
    have h1 := flat_len (f := fun s : T × T => gat n (p ++ [s.1]) s.2) (c := 9 ^ n) (xs := stepsL t) fun s hs => gat_len n (steps_wo w hs).1
    have h2 := Nat.mul_le_mul_right (9 ^ n) (steps_len w)
    have h3 : 1 ≤ 9 ^ n := Nat.one_le_pow _ _ (by decide)
    rw [Nat.pow_succ]; omega
theorem nine {m : Nat} (h : m ≤ 5) : 9 ^ m ≤ 59049 := Nat.le_trans (Nat.pow_le_pow_right (by decide) h) (by decide)
theorem u_gat {m : Nat} {t : T} {p : List T} {P : T → List Slot → Prop} (h1 : WoD m t) (h2 : m ≤ 6) (h3 : p.length + m ≤ 20) (q : P (.lst ((gat m p t).map gatT)) [.val t, .val (.tup p)]) : psG m [.val t, .val (.tup p)] P := ⟨t, p, rfl, h1, h2, h3, q⟩
theorem pure_gathered {m : Nat} : ∀ sl P, psG (m + 1) sl P → p_gathered (psC 6) (psF Wo stepsO) (psG m) (pdOf false sl P) (sl ++ nones 3) := by
  rintro sl P ⟨t, p, rfl, f, hm, hp, q⟩
  show p_gathered _ _ _ _ [_, _, _, _, _]
  unfold p_gathered
  repeat wtm_at "w"
  refine u_F ⟨f.1, by have := f.2; omega⟩ ?_
  repeat wtm_at "w"
  rename_i a
  refine u_F f.1 ?_
  unfold stepsO
  repeat wtm_at "w"
  have ml := nine (m := m) (by omega)
  refine for_inv (fun i env => ∃ s3 s4, env = [.val t, .val (.tup p), .own a (.lst (gatT (p, t) :: ((stepsL t).take i).flatMap (fun s => (gat m (p ++ [s.1]) s.2).map gatT))), s3, s4] ∧ noRef env 3 ∧ noRef env 4) ⟨_, _, rfl, trivial, trivial⟩ ?_ ?_
  · rintro env ⟨s3, s4, rfl, _, _⟩
    rw [List.length_map, List.take_length]
    repeat wtm_at "w"
    have e : (gat (m + 1) p t).map gatT = gatT (p, t) :: (stepsL t).flatMap (fun s => (gat m (p ++ [s.1]) s.2).map gatT) := by
      show gatT (p, t) :: ((stepsL t).flatMap fun s => gat m (p ++ [s.1]) s.2).map gatT = _
      rw [List.map_flatMap]
    rw [e] at q
    exact ⟨trivial, q⟩
  · rintro i x env N hx ⟨s3, s4, rfl, n3, n4⟩ hN
    rw [List.getElem?_map] at hx
    cases es : (stepsL t)[i]? with
    | none => rw [es] at hx; cases hx
    | some s =>
      rw [es] at hx; cases hx
      have hs := List.mem_of_getElem? es
      obtain ⟨w1, w2, _⟩ := steps_wo f.1 hs
      refine w_tup2 n3 n4 rfl ?_
      repeat wtm_at "w"
      refine v_addT (by show p.length + 1 ≤ _; omega) ?_
      repeat wtm_at "w"
      refine u_gat ⟨w1, by have := f.2; omega⟩ (by omega) (by rw [List.length_append]; show p.length + 1 + m ≤ 20; omega) ?_
      repeat wtm_at "w"
      have l1 := flat_len (f := fun s : T × T => (gat m (p ++ [s.1]) s.2).map gatT) (c := 9 ^ m) (xs := (stepsL t).take i) fun s hs => by rw [List.length_map]; exact gat_len m (steps_wo f.1 (List.mem_of_mem_take hs)).1
      have l2 : ((stepsL t).take i).length ≤ 7 := by
        have := (List.getElem?_eq_some_iff.mp es).1; have := steps_len f.1
        rw [List.length_take]; omega
      have l3 := Nat.mul_le_mul_right (9 ^ m) l2
      have l4 := gat_len m (p := p ++ [s.1]) w1
      refine w_kExt rfl ?_ rfl ?_
      · rw [List.length_cons, List.length_map]
        omega
      refine hN _ ⟨.val s.1, .val s.2, ?_, trivial, trivial⟩
      rw [List.take_add_one, es, List.flatMap_append]
      simp only [Option.toList_some, List.flatMap_cons, List.flatMap_nil, List.append_nil]
      rfl
end Pu

namespace Pu
open PySem PySem.Spec PyProof.Rows L2 He Hk
local macro_rules | `(tactic| wtm_at "kb") => `(tactic| first | with_reducible exact kb_NoneType_int | with_reducible exact kb_NoneType_bool | with_reducible exact kb_NoneType_str | with_reducible exact kb_NoneType_list | with_reducible exact kb_NoneType_tuple | with_reducible exact kb_NoneType_dict | with_reducible exact kb_bool_int | with_reducible exact kb_bool_bool | with_reducible exact kb_bool_str | with_reducible exact kb_bool_list | with_reducible exact kb_bool_tuple | with_reducible exact kb_bool_dict | with_reducible exact kb_int_int | with_reducible exact kb_int_bool | with_reducible exact kb_int_str | with_reducible exact kb_int_list | with_reducible exact kb_int_tuple | with_reducible exact kb_int_dict | with_reducible exact kb_str_int | with_reducible exact kb_str_bool | with_reducible exact kb_str_str | with_reducible exact kb_str_list | with_reducible exact kb_str_tuple | with_reducible exact kb_str_dict | with_reducible exact kb_list_int | with_reducible exact kb_list_bool | with_reducible exact kb_list_str | with_reducible exact kb_list_list | with_reducible exact kb_list_tuple | with_reducible exact kb_list_dict | with_reducible exact kb_tuple_int | with_reducible exact kb_tuple_bool | with_reducible exact kb_tuple_str | with_reducible exact kb_tuple_list | with_reducible exact kb_tuple_tuple | with_reducible exact kb_tuple_dict | with_reducible exact kb_dict_int | with_reducible exact kb_dict_bool | with_reducible exact kb_dict_str | with_reducible exact kb_dict_list | with_reducible exact kb_dict_tuple | with_reducible exact kb_dict_dict)
local macro_rules | `(tactic| wtm_at "set") => `(tactic| ((try simp only [backE, reown, List.set_cons_zero, List.set_cons_succ, List.getElem?_cons_zero, List.getElem?_cons_succ]); rfl))
local macro_rules | `(tactic| wtm_at "side") => `(tactic| first | assumption | decide | omega)
local macro_rules | `(tactic| wtm_at "ln") => `(tactic| first | omega | exact len_one (by omega) | (refine len_cut ?_; wtm_at "ln") | (refine len_app ?_ ?_ <;> wtm_at "ln") | decide +kernel)
local macro_rules | `(tactic| wtm_at "size") => `(tactic| first | assumption | wtm_at "ln" | (refine Nat.le_trans (Nat.add_le_add (b := 8000000) (d := 8000000) ?_ ?_) (by decide) <;> wtm_at "ln"))
local macro_rules | `(tactic| wtm_at "w") => `(tactic| (first
  | (with_reducible refine w_op ?_)
  | (with_reducible refine w_cons ?_)
  | ((with_reducible refine' w_consV ?e1 ?_); (case e1 => exact trivial);)
  | (with_reducible refine w_c ?_)
  | (with_reducible refine w_nil ?_)
  | ((with_reducible refine' w_kO ?e1 ?_); (case e1 => rfl);)
  | ((with_reducible refine' w_var ?e1 ?_); (case e1 => rfl);)
  | (with_reducible refine w_seq ?_)
  | (with_reducible refine w_asg ?_)
  | ((with_reducible refine' w_name ?e1 ?e2 ?_); (case e1 => exact trivial); (case e2 => wtm_at "set");)
  | (with_reducible refine w_if ?_)
  | (with_reducible refine w_test ?_)
  | (with_reducible refine w_kB ?_)
  | (with_reducible refine w_call ?_)
  | ((with_reducible refine' w_kC ?e1 ?e2 ?_); (case e1 => rfl); (case e2 => rfl);)
  | ((with_reducible refine' w_kBk ?e1 ?_); (case e1 => wtm_at "set");)
  | (with_reducible refine w_ret ?_)
  | (with_reducible refine iteT' ?_)
  | (with_reducible refine iteF' ?_)
  | (with_reducible refine w_and ?_)
  | (with_reducible refine w_or ?_)
  | (with_reducible refine w_not ?_)
  | (with_reducible refine w_next ?_)
  | ((with_reducible refine' v_ixL ?e1 ?_); (case e1 => rfl);)
  | (with_reducible refine v_addI ?_)
  | ((with_reducible refine' v_eq ?e1 ?_); (case e1 => rfl);)
  | (with_reducible refine w_lst ?_)
  | ((with_reducible refine' w_kV2 ?e1 ?e2 ?_); (case e1 => rfl); (case e2 => exact Nat.le_of_ble_eq_true rfl);)
  | (with_reducible refine w_own ?_)
  | (with_reducible refine w_drop ?_)
  | (with_reducible refine w_andV ?_)
  | (with_reducible refine w_orV ?_)
  | (with_reducible refine w_notV ?_)
  | (with_reducible refine w_ifE ?_)
  | (with_reducible refine w_chain ?_)
  | (with_reducible refine w_yes ?_)
  | (with_reducible refine w_tup ?_)
  | (with_reducible refine w_dnew ?_)
  | (with_reducible refine w_disp ?_)
  | (with_reducible refine w_pnil ?_)
  | (with_reducible refine w_pcons ?_)
  | (with_reducible refine w_sl ?_)
  | (with_reducible refine w_noPart ?_)
  | (with_reducible refine w_part ?_)
  | (with_reducible refine w_kI ?_)
  | (with_reducible refine w_m ?_)
  | (with_reducible refine w_kM ?_)
  | (with_reducible refine w_piList ?_)
  | (with_reducible refine w_kL ?_)
  | (with_reducible refine w_piTup ?_)
  | (with_reducible refine w_kTu ?_)
  | (with_reducible refine w_piStr ?_)
  | (with_reducible refine w_kSt ?_)
  | (with_reducible refine w_piRng1 ?_)
  | (with_reducible refine w_piRng2 ?_)
  | (with_reducible refine w_piD ?_)
  | (with_reducible refine w_kD ?_)
  | (with_reducible refine w_for ?_)
  | (with_reducible refine w_lc ?_)
  | (with_reducible refine v_sub ?_)
  | (with_reducible refine v_neg ?_)
  | (with_reducible refine v_le ?_)
  | (with_reducible refine v_gt ?_)
  | (with_reducible refine v_ge ?_)
  | (with_reducible refine v_lt ?_)
  | (with_reducible refine v_ltS ?_)
  | (with_reducible refine v_inS ?_)
  | (with_reducible refine v_notInS ?_)
  | (with_reducible refine v_lenL ?_)
  | (with_reducible refine v_lenT ?_)
  | (with_reducible refine v_lenD ?_)
  | (with_reducible refine v_lenC ?_)
  | (with_reducible refine v_max2 ?_)
  | (with_reducible refine v_min2 ?_)
  | (with_reducible refine v_listD ?_)
  | (with_reducible refine v_listV ?_)
  | (with_reducible refine v_dictD ?_)
  | (with_reducible refine v_tupleL ?_)
  | (with_reducible refine v_tupleT ?_)
  | (with_reducible refine v_int1 ?_)
  | (with_reducible refine v_int2 ?_)
  | (with_reducible refine v_isN ?_)
  | (with_reducible refine v_notN ?_)
  | (with_reducible refine v_slL ?_)
  | (with_reducible refine v_slT ?_)
  | ((with_reducible refine' w_varO ?e1 ?e2 ?_); (case e1 => rfl); (case e2 => wtm_at "set");)
  | ((with_reducible refine' w_kMO ?e1 ?_); (case e1 => rfl);)
  | ((with_reducible refine' w_kOwn ?e1 ?_); (case e1 => exact trivial); (intro p' env' ee'; simp only [List.set_cons_zero, List.set_cons_succ] at ee'; subst ee'))
  | ((with_reducible refine' w_kDs ?e1 ?e2 ?_); (case e1 => rfl); (case e2 => exact Nat.le_of_ble_eq_true rfl);)
  | ((with_reducible refine' w_slV ?e1 ?_); (case e1 => exact trivial);)
  | ((with_reducible refine' w_kSl ?e1 ?_); (case e1 => rfl);)
  | ((with_reducible refine' w_setL ?e1 ?_); (case e1 => exact trivial);)
  | ((with_reducible refine' w_setD ?e1 ?_); (case e1 => exact trivial);)
  | ((with_reducible refine' w_kSetL ?e1 ?e2 ?e3 ?_); (case e1 => rfl); (case e2 => rfl); (case e3 => wtm_at "set");)
  | ((with_reducible refine' w_kSetD ?e1 ?e2 ?e3 ?e4 ?_); (case e1 => rfl); (case e2 => wtm_at "side"); (case e3 => rfl); (case e4 => wtm_at "set");)
  | ((with_reducible refine' w_append ?e1 ?_); (case e1 => rfl);)
  | ((with_reducible refine' w_kApp ?e1 ?e2 ?e3 ?_); (case e1 => rfl); (case e2 => wtm_at "side"); (case e3 => wtm_at "set");)
  | ((with_reducible refine' w_kR1 ?e1 ?_); (case e1 => omega);)
  | ((with_reducible refine' w_kR2 ?e1 ?_); (case e1 => omega);)
  | ((with_reducible refine' iteTrue ?e1 ?_); (case e1 => rfl);)
  | ((with_reducible refine' iteFalse ?e1 ?_); (case e1 => rfl);)
  | ((with_reducible refine' v_mod ?e1 ?_); (case e1 => wtm_at "side");)
  | ((with_reducible refine' v_mulI ?e1 ?_); (case e1 => first | exact s_mul (by omega) (by omega) | (unfold CMulW; decide +kernel));)
  | ((with_reducible refine' v_div ?e1 ?_); (case e1 => omega);)
  | ((with_reducible refine' v_powE ?e1 ?e2 ?_); (case e1 => first | decide | (refine ⟨by decide, by decide, ?_, ?_⟩ <;> omega)); (case e2 => ((try simp only [Int.reduceToNat, Int.reducePow]); rfl)))
  | ((with_reducible refine' v_ne ?e1 ?_); (case e1 => rfl);)
  | ((with_reducible refine' v_ixT ?e1 ?_); (case e1 => rfl);)
  | ((with_reducible refine' v_isi ?e1 ?e2 ?_); (case e1 => rfl); (case e2 => wtm_at "kb");)
  | ((with_reducible refine' v_lenS ?e1 ?_); (case e1 => wtm_at "size");)
  | ((with_reducible refine' v_addS ?e1 ?_); (case e1 => wtm_at "size");)
  | ((with_reducible refine' v_slS ?e1 ?_); (case e1 => wtm_at "size");)
  | ((with_reducible refine' v_ixS ?e1 ?e2 ?e3 ?_); (case e1 => wtm_at "size"); (case e2 => omega); (case e3 => first | omega | (simp only [show _ = _ from by assumption]; omega)); intro c' hc' hc2)
  | (with_reducible refine w_ml ?_)
  | (with_reducible refine w_kML ?_)
  | ((with_reducible refine' w_kMLO ?e1 ?_); (case e1 => rfl);)
  | (with_reducible refine w_callN ?_)
  | (with_reducible refine v_rev ?_)
  | (with_reducible refine v_listEn ?_)
  | (with_reducible refine v_ixAd ?_)
  | (with_reducible refine v_ixAl ?_)
  | (with_reducible refine v_ixAt ?_)
  | ((with_reducible refine' v_inAd ?e1 ?_); (case e1 => rfl);)
  | ((with_reducible refine' w_extend ?e1 ?_); (case e1 => rfl);)
  | ((with_reducible refine' w_kExt ?e1 ?e2 ?e3 ?_); (case e1 => rfl); (case e2 => wtm_at "side"); (case e3 => wtm_at "set");)))
def innerO (t : T) : T := .lst ((gat 5 [] t).map gatT)
theorem pure_inner : ∀ sl P, psF (WoD 5) innerO sl P → p_inner (psF (WoD 5) (fun _ => .non)) (psG 5) (pdOf false sl P) (sl ++ nones 0) := by
  rintro sl P ⟨t, rfl, f, q⟩
  show p_inner _ _ _ [_]
  unfold p_inner
  repeat wtm_at "w"
  refine u_F f ?_
  repeat wtm_at "w"
  refine u_gat f (by decide) (by decide) ?_
  repeat wtm_at "w"
  exact ⟨trivial, q⟩
theorem step_wo {t s u : T} (w : Wo t) (h : step1 t s = some u) : Wo u ∧ u.deep < t.deep := by
  cases t with
  | lst xs =>
    refine held_wo w (wo_lst w).2 ?_
    cases s with
    | int i =>
      have h' : (if 0 ≤ i then xs[i.toNat]? else none) = some u := h
      by_cases c : 0 ≤ i
      · rw [if_pos c] at h'; exact List.mem_of_getElem? h'
      · rw [if_neg c] at h'; cases h'
    | _ => cases h
  | dct kvs =>
    rcases wo_held w with ⟨z, _⟩ | ⟨ts, e⟩
    · exact absurd z (by unfold T.deep; omega)
    · refine held_wo w e ?_
      rw [(held_dct e).1]
      cases s with
      | str k => exact List.mem_map_of_mem (f := (·.2)) (valT_mem (show valT kvs (.inr k) = some u from h))
      | _ => cases h
  | _ => cases h
theorem follow_pre : ∀ (a b : List T) {t v : T}, follow t (a ++ b) = some v → ∃ u, follow t a = some u
  | [], b, t, v, h => ⟨t, rfl⟩
  | x :: a, b, t, v, h => by
    have h' : (match step1 t x with | some u => follow u (a ++ b) | none => none) = some v := h
    show ∃ u, (match step1 t x with | some u => follow u a | none => none) = some u
    cases e : step1 t x with
    | none => rw [e] at h'; cases h'
    | some z => rw [e] at h'; exact follow_pre a b h'
def ps_leads : PSp := fun sl P => ∃ t s u : T, sl = [.val t, .val s] ∧ Wo t ∧ step1 t s = some u ∧ P (.bl true) [.val t, .val s]
theorem u_leads {t s u : T} {P : T → List Slot → Prop} (h1 : Wo t) (h2 : step1 t s = some u) (q : P (.bl true) [.val t, .val s]) : ps_leads [.val t, .val s] P := ⟨t, s, u, rfl, h1, h2, q⟩
theorem pure_leads : ∀ sl P, ps_leads sl P → p_leads (psF T.Fine (fun t => .bl (wholeT t))) (pdOf false sl P) (sl ++ nones 0) := by
  rintro sl P ⟨t, s, u, rfl, f, hs, q⟩
  show p_leads _ _ [_, _]
  unfold p_leads
  cases t with
  | lst xs =>
    have h6 := (wo_lst f).1
    cases s with
    | int i =>
      have h' : (if 0 ≤ i then xs[i.toNat]? else none) = some u := hs
      by_cases c : 0 ≤ i
      · rw [if_pos c] at h'
        have hl := (List.getElem?_eq_some_iff.mp h').1
        repeat wtm_at "w"
        refine u_F (show i.natAbs < 10 ^ 120 from Nat.lt_of_lt_of_le (show i.natAbs < 6 by omega) (by decide +kernel)) ?_
        repeat wtm_at "w"
        rw [decide_eq_true c]
        repeat wtm_at "w"
        rw [decide_eq_true (show i < (xs.length : Int) by omega)]
        exact ⟨trivial, q⟩
      · rw [if_neg c] at h'; cases h'
    | _ => cases hs
  | dct kvs =>
    cases s with
    | str k =>
      have hv : valT kvs (.inr k) = some u := hs
      repeat wtm_at "w"
      have e : hasT kvs (.inr k) = true := by unfold hasT; rw [hv]; rfl
      rw [e]
      exact ⟨trivial, q⟩
    | _ => cases hs
  | _ => cases hs
end Pu

namespace Pu
open PySem PySem.Spec PyProof.Rows L2 He Hk
local macro_rules | `(tactic| wtm_at "kb") => `(tactic| first | with_reducible exact kb_NoneType_int | with_reducible exact kb_NoneType_bool | with_reducible exact kb_NoneType_str | with_reducible exact kb_NoneType_list | with_reducible exact kb_NoneType_tuple | with_reducible exact kb_NoneType_dict | with_reducible exact kb_bool_int | with_reducible exact kb_bool_bool | with_reducible exact kb_bool_str | with_reducible exact kb_bool_list | with_reducible exact kb_bool_tuple | with_reducible exact kb_bool_dict | with_reducible exact kb_int_int | with_reducible exact kb_int_bool | with_reducible exact kb_int_str | with_reducible exact kb_int_list | with_reducible exact kb_int_tuple | with_reducible exact kb_int_dict | with_reducible exact kb_str_int | with_reducible exact kb_str_bool | with_reducible exact kb_str_str | with_reducible exact kb_str_list | with_reducible exact kb_str_tuple | with_reducible exact kb_str_dict | with_reducible exact kb_list_int | with_reducible exact kb_list_bool | with_reducible exact kb_list_str | with_reducible exact kb_list_list | with_reducible exact kb_list_tuple | with_reducible exact kb_list_dict | with_reducible exact kb_tuple_int | with_reducible exact kb_tuple_bool | with_reducible exact kb_tuple_str | with_reducible exact kb_tuple_list | with_reducible exact kb_tuple_tuple | with_reducible exact kb_tuple_dict | with_reducible exact kb_dict_int | with_reducible exact kb_dict_bool | with_reducible exact kb_dict_str | with_reducible exact kb_dict_list | with_reducible exact kb_dict_tuple | with_reducible exact kb_dict_dict)
local macro_rules | `(tactic| wtm_at "set") => `(tactic| ((try simp only [backE, reown, List.set_cons_zero, List.set_cons_succ, List.getElem?_cons_zero, List.getElem?_cons_succ]); rfl))
local macro_rules | `(tactic| wtm_at "side") => `(tactic| first | assumption | decide | omega)
local macro_rules | `(tactic| wtm_at "ln") => `(tactic| first | omega | exact len_one (by omega) | (refine len_cut ?_; wtm_at "ln") | (refine len_app ?_ ?_ <;> wtm_at "ln") | decide +kernel)
local macro_rules | `(tactic| wtm_at "size") => `(tactic| first | assumption | wtm_at "ln" | (refine Nat.le_trans (Nat.add_le_add (b := 8000000) (d := 8000000) ?_ ?_) (by decide) <;> wtm_at "ln"))
local macro_rules | `(tactic| wtm_at "w") => `(tactic| (first
  | (with_reducible refine w_op ?_)
  | (with_reducible refine w_cons ?_)
  | ((with_reducible refine' w_consV ?e1 ?_); (case e1 => exact trivial);)
  | (with_reducible refine w_c ?_)
  | (with_reducible refine w_nil ?_)
  | ((with_reducible refine' w_kO ?e1 ?_); (case e1 => rfl);)
  | ((with_reducible refine' w_var ?e1 ?_); (case e1 => rfl);)
  | (with_reducible refine w_seq ?_)
  | (with_reducible refine w_asg ?_)
  | ((with_reducible refine' w_name ?e1 ?e2 ?_); (case e1 => exact trivial); (case e2 => wtm_at "set");)
  | (with_reducible refine w_if ?_)
  | (with_reducible refine w_test ?_)
  | (with_reducible refine w_kB ?_)
  | (with_reducible refine w_call ?_)
  | ((with_reducible refine' w_kC ?e1 ?e2 ?_); (case e1 => rfl); (case e2 => rfl);)
  | ((with_reducible refine' w_kBk ?e1 ?_); (case e1 => wtm_at "set");)
  | (with_reducible refine w_ret ?_)
  | (with_reducible refine iteT' ?_)
  | (with_reducible refine iteF' ?_)
  | (with_reducible refine w_and ?_)
  | (with_reducible refine w_or ?_)
  | (with_reducible refine w_not ?_)
  | (with_reducible refine w_next ?_)
  | ((with_reducible refine' v_ixL ?e1 ?_); (case e1 => rfl);)
  | (with_reducible refine v_addI ?_)
  | ((with_reducible refine' v_eq ?e1 ?_); (case e1 => rfl);)
  | (with_reducible refine w_lst ?_)
  | ((with_reducible refine' w_kV2 ?e1 ?e2 ?_); (case e1 => rfl); (case e2 => exact Nat.le_of_ble_eq_true rfl);)
  | (with_reducible refine w_own ?_)
  | (with_reducible refine w_drop ?_)
  | (with_reducible refine w_andV ?_)
  | (with_reducible refine w_orV ?_)
  | (with_reducible refine w_notV ?_)
  | (with_reducible refine w_ifE ?_)
  | (with_reducible refine w_chain ?_)
  | (with_reducible refine w_yes ?_)
  | (with_reducible refine w_tup ?_)
  | (with_reducible refine w_dnew ?_)
  | (with_reducible refine w_disp ?_)
  | (with_reducible refine w_pnil ?_)
  | (with_reducible refine w_pcons ?_)
  | (with_reducible refine w_sl ?_)
  | (with_reducible refine w_noPart ?_)
  | (with_reducible refine w_part ?_)
  | (with_reducible refine w_kI ?_)
  | (with_reducible refine w_m ?_)
  | (with_reducible refine w_kM ?_)
  | (with_reducible refine w_piList ?_)
  | (with_reducible refine w_kL ?_)
  | (with_reducible refine w_piTup ?_)
  | (with_reducible refine w_kTu ?_)
  | (with_reducible refine w_piStr ?_)
  | (with_reducible refine w_kSt ?_)
  | (with_reducible refine w_piRng1 ?_)
  | (with_reducible refine w_piRng2 ?_)
  | (with_reducible refine w_piD ?_)
  | (with_reducible refine w_kD ?_)
  | (with_reducible refine w_for ?_)
  | (with_reducible refine w_lc ?_)
  | (with_reducible refine v_sub ?_)
  | (with_reducible refine v_neg ?_)
  | (with_reducible refine v_le ?_)
  | (with_reducible refine v_gt ?_)
  | (with_reducible refine v_ge ?_)
  | (with_reducible refine v_lt ?_)
  | (with_reducible refine v_ltS ?_)
  | (with_reducible refine v_inS ?_)
  | (with_reducible refine v_notInS ?_)
  | (with_reducible refine v_lenL ?_)
  | (with_reducible refine v_lenT ?_)
  | (with_reducible refine v_lenD ?_)
  | (with_reducible refine v_lenC ?_)
  | (with_reducible refine v_max2 ?_)
  | (with_reducible refine v_min2 ?_)
  | (with_reducible refine v_listD ?_)
  | (with_reducible refine v_listV ?_)
  | (with_reducible refine v_dictD ?_)
  | (with_reducible refine v_tupleL ?_)
  | (with_reducible refine v_tupleT ?_)
  | (with_reducible refine v_int1 ?_)
  | (with_reducible refine v_int2 ?_)
  | (with_reducible refine v_isN ?_)
  | (with_reducible refine v_notN ?_)
  | (with_reducible refine v_slL ?_)
  | (with_reducible refine v_slT ?_)
  | ((with_reducible refine' w_varO ?e1 ?e2 ?_); (case e1 => rfl); (case e2 => wtm_at "set");)
  | ((with_reducible refine' w_kMO ?e1 ?_); (case e1 => rfl);)
  | ((with_reducible refine' w_kOwn ?e1 ?_); (case e1 => exact trivial); (intro p' env' ee'; simp only [List.set_cons_zero, List.set_cons_succ] at ee'; subst ee'))
  | ((with_reducible refine' w_kDs ?e1 ?e2 ?_); (case e1 => rfl); (case e2 => exact Nat.le_of_ble_eq_true rfl);)
  | ((with_reducible refine' w_slV ?e1 ?_); (case e1 => exact trivial);)
  | ((with_reducible refine' w_kSl ?e1 ?_); (case e1 => rfl);)
  | ((with_reducible refine' w_setL ?e1 ?_); (case e1 => exact trivial);)
  | ((with_reducible refine' w_setD ?e1 ?_); (case e1 => exact trivial);)
  | ((with_reducible refine' w_kSetL ?e1 ?e2 ?e3 ?_); (case e1 => rfl); (case e2 => rfl); (case e3 => wtm_at "set");)
  | ((with_reducible refine' w_kSetD ?e1 ?e2 ?e3 ?e4 ?_); (case e1 => rfl); (case e2 => wtm_at "side"); (case e3 => rfl); (case e4 => wtm_at "set");)
  | ((with_reducible refine' w_append ?e1 ?_); (case e1 => rfl);)
  | ((with_reducible refine' w_kApp ?e1 ?e2 ?e3 ?_); (case e1 => rfl); (case e2 => wtm_at "side"); (case e3 => wtm_at "set");)
  | ((with_reducible refine' w_kR1 ?e1 ?_); (case e1 => omega);)
  | ((with_reducible refine' w_kR2 ?e1 ?_); (case e1 => omega);)
  | ((with_reducible refine' iteTrue ?e1 ?_); (case e1 => rfl);)
  | ((with_reducible refine' iteFalse ?e1 ?_); (case e1 => rfl);)
  | ((with_reducible refine' v_mod ?e1 ?_); (case e1 => wtm_at "side");)
  | ((with_reducible refine' v_mulI ?e1 ?_); (case e1 => first | exact s_mul (by omega) (by omega) | (unfold CMulW; decide +kernel));)
  | ((with_reducible refine' v_div ?e1 ?_); (case e1 => omega);)
  | ((with_reducible refine' v_powE ?e1 ?e2 ?_); (case e1 => first | decide | (refine ⟨by decide, by decide, ?_, ?_⟩ <;> omega)); (case e2 => ((try simp only [Int.reduceToNat, Int.reducePow]); rfl)))
  | ((with_reducible refine' v_ne ?e1 ?_); (case e1 => rfl);)
  | ((with_reducible refine' v_ixT ?e1 ?_); (case e1 => rfl);)
  | ((with_reducible refine' v_isi ?e1 ?e2 ?_); (case e1 => rfl); (case e2 => wtm_at "kb");)
  | ((with_reducible refine' v_lenS ?e1 ?_); (case e1 => wtm_at "size");)
  | ((with_reducible refine' v_addS ?e1 ?_); (case e1 => wtm_at "size");)
  | ((with_reducible refine' v_slS ?e1 ?_); (case e1 => wtm_at "size");)
  | ((with_reducible refine' v_ixS ?e1 ?e2 ?e3 ?_); (case e1 => wtm_at "size"); (case e2 => omega); (case e3 => first | omega | (simp only [show _ = _ from by assumption]; omega)); intro c' hc' hc2)
  | (with_reducible refine w_ml ?_)
  | (with_reducible refine w_kML ?_)
  | ((with_reducible refine' w_kMLO ?e1 ?_); (case e1 => rfl);)
  | (with_reducible refine w_callN ?_)
  | (with_reducible refine v_rev ?_)
  | (with_reducible refine v_listEn ?_)
  | (with_reducible refine v_ixAd ?_)
  | (with_reducible refine v_ixAl ?_)
  | (with_reducible refine v_ixAt ?_)
  | ((with_reducible refine' v_inAd ?e1 ?_); (case e1 => rfl);)
  | ((with_reducible refine' w_extend ?e1 ?_); (case e1 => rfl);)
  | ((with_reducible refine' w_kExt ?e1 ?e2 ?e3 ?_); (case e1 => rfl); (case e2 => wtm_at "side"); (case e3 => wtm_at "set");)))
/-- t[s] in one step -/
theorem v_step {t s u : T} {R : T → Prop} (h : step1 t s = some u) (q : R u) : oIxA [t, s] R := by
  cases t with
  | lst xs =>
    cases s with
    | int i =>
      have h' : (if 0 ≤ i then xs[i.toNat]? else none) = some u := h
      by_cases c : 0 ≤ i
      · rw [if_pos c] at h'
        have hl := (List.getElem?_eq_some_iff.mp h').1
        refine v_ixAl (v_ixLo c (by omega) fun t _ e => ?_)
        rw [h'] at e; cases e; exact q
      · rw [if_neg c] at h'; cases h'
    | _ => cases h
  | dct kvs =>
    cases s with
    | str k => exact v_ixAd (v_dget rfl h q)
    | _ => cases h
  | _ => cases h
def ps_at : PSp := fun sl P => ∃ (w u : T) (p : List T), sl = [.val w, .val (.tup p)] ∧ WoD 5 w ∧ follow w p = some u ∧ P u [.val w, .val (.tup p)]
theorem u_at {w u : T} {p : List T} {P : T → List Slot → Prop} (h1 : WoD 5 w) (h2 : follow w p = some u) (q : P u [.val w, .val (.tup p)]) : ps_at [.val w, .val (.tup p)] P := ⟨w, u, p, rfl, h1, h2, q⟩
theorem follow_next {w u v : T} {p : List T} {i : Nat} {x : T} (hf : follow w p = some u) (hi : follow w (p.take i) = some v) (hx : p[i]? = some x) : ∃ y, step1 v x = some y ∧ follow w (p.take (i + 1)) = some y := by
  have e : p.take (i + 1) = p.take i ++ [x] := by rw [List.take_add_one, hx]; rfl
  have h1 : follow w (p.take (i + 1)) = step1 v x := by rw [e]; exact follow_app _ x hi
  obtain ⟨y, hy⟩ := follow_pre (p.take (i + 1)) (p.drop (i + 1)) (t := w) (v := u) (by rw [List.take_append_drop]; exact hf)
  exact ⟨y, h1 ▸ hy, hy⟩
theorem pure_at : ∀ sl P, ps_at sl P → p_worth_at (psF (WoD 5) (fun _ => .non)) ps_leads (psC 6) (pdOf false sl P) (sl ++ nones 2) := by
  rintro sl P ⟨w, u, p, rfl, f, hf, q⟩
  show p_worth_at _ _ _ _ [_, _, _, _]
  unfold p_worth_at
  repeat wtm_at "w"
  refine u_F f ?_
  repeat wtm_at "w"
  refine for_inv (fun i env => ∃ v s3, env = [.val w, .val (.tup p), .val v, s3] ∧ noRef env 3 ∧ follow w (p.take i) = some v ∧ WoD 5 v) ⟨_, _, rfl, trivial, by rw [List.take_zero]; rfl, f⟩ ?_ ?_
  · rintro env ⟨v, s3, rfl, _, h1, h2⟩
    rw [List.take_length, hf] at h1
    cases h1
    repeat wtm_at "w"
    refine u_F ⟨h2.1, by have := h2.2; omega⟩ ?_
    repeat wtm_at "w"
    exact ⟨trivial, q⟩
  · rintro i x env N hx ⟨v, s3, rfl, n3, h1, h2⟩ hN
    obtain ⟨y, hy1, hy2⟩ := follow_next hf h1 hx
    obtain ⟨k1, k2⟩ := step_wo h2.1 hy1
    refine w_name n3 rfl ?_
    repeat wtm_at "w"
    refine u_leads h2.1 hy1 ?_
    repeat wtm_at "w"
    refine v_step hy1 ?_
    repeat wtm_at "w"
    exact hN _ ⟨y, .val x, rfl, trivial, hy2, k1, by have := h2.2; omega⟩
end Pu

namespace Pu
open PySem PySem.Spec PyProof.Rows L2 He Hk
local macro_rules | `(tactic| wtm_at "kb") => `(tactic| first | with_reducible exact kb_NoneType_int | with_reducible exact kb_NoneType_bool | with_reducible exact kb_NoneType_str | with_reducible exact kb_NoneType_list | with_reducible exact kb_NoneType_tuple | with_reducible exact kb_NoneType_dict | with_reducible exact kb_bool_int | with_reducible exact kb_bool_bool | with_reducible exact kb_bool_str | with_reducible exact kb_bool_list | with_reducible exact kb_bool_tuple | with_reducible exact kb_bool_dict | with_reducible exact kb_int_int | with_reducible exact kb_int_bool | with_reducible exact kb_int_str | with_reducible exact kb_int_list | with_reducible exact kb_int_tuple | with_reducible exact kb_int_dict | with_reducible exact kb_str_int | with_reducible exact kb_str_bool | with_reducible exact kb_str_str | with_reducible exact kb_str_list | with_reducible exact kb_str_tuple | with_reducible exact kb_str_dict | with_reducible exact kb_list_int | with_reducible exact kb_list_bool | with_reducible exact kb_list_str | with_reducible exact kb_list_list | with_reducible exact kb_list_tuple | with_reducible exact kb_list_dict | with_reducible exact kb_tuple_int | with_reducible exact kb_tuple_bool | with_reducible exact kb_tuple_str | with_reducible exact kb_tuple_list | with_reducible exact kb_tuple_tuple | with_reducible exact kb_tuple_dict | with_reducible exact kb_dict_int | with_reducible exact kb_dict_bool | with_reducible exact kb_dict_str | with_reducible exact kb_dict_list | with_reducible exact kb_dict_tuple | with_reducible exact kb_dict_dict)
local macro_rules | `(tactic| wtm_at "set") => `(tactic| ((try simp only [backE, reown, List.set_cons_zero, List.set_cons_succ, List.getElem?_cons_zero, List.getElem?_cons_succ]); rfl))
local macro_rules | `(tactic| wtm_at "side") => `(tactic| first | assumption | decide | omega)
local macro_rules | `(tactic| wtm_at "ln") => `(tactic| first | omega | exact len_one (by omega) | (refine len_cut ?_; wtm_at "ln") | (refine len_app ?_ ?_ <;> wtm_at "ln") | decide +kernel)
local macro_rules | `(tactic| wtm_at "size") => `(tactic| first | assumption | wtm_at "ln" | (refine Nat.le_trans (Nat.add_le_add (b := 8000000) (d := 8000000) ?_ ?_) (by decide) <;> wtm_at "ln"))
local macro_rules | `(tactic| wtm_at "w") => `(tactic| (first
  | (with_reducible refine w_op ?_)
  | (with_reducible refine w_cons ?_)
  | ((with_reducible refine' w_consV ?e1 ?_); (case e1 => exact trivial);)
  | (with_reducible refine w_c ?_)
  | (with_reducible refine w_nil ?_)
  | ((with_reducible refine' w_kO ?e1 ?_); (case e1 => rfl);)
  | ((with_reducible refine' w_var ?e1 ?_); (case e1 => rfl);)
  | (with_reducible refine w_seq ?_)
  | (with_reducible refine w_asg ?_)
  | ((with_reducible refine' w_name ?e1 ?e2 ?_); (case e1 => exact trivial); (case e2 => wtm_at "set");)
  | (with_reducible refine w_if ?_)
  | (with_reducible refine w_test ?_)
  | (with_reducible refine w_kB ?_)
  | (with_reducible refine w_call ?_)
  | ((with_reducible refine' w_kC ?e1 ?e2 ?_); (case e1 => rfl); (case e2 => rfl);)
  | ((with_reducible refine' w_kBk ?e1 ?_); (case e1 => wtm_at "set");)
  | (with_reducible refine w_ret ?_)
  | (with_reducible refine iteT' ?_)
  | (with_reducible refine iteF' ?_)
  | (with_reducible refine w_and ?_)
  | (with_reducible refine w_or ?_)
  | (with_reducible refine w_not ?_)
  | (with_reducible refine w_next ?_)
  | ((with_reducible refine' v_ixL ?e1 ?_); (case e1 => rfl);)
  | (with_reducible refine v_addI ?_)
  | ((with_reducible refine' v_eq ?e1 ?_); (case e1 => rfl);)
  | (with_reducible refine w_lst ?_)
  | ((with_reducible refine' w_kV2 ?e1 ?e2 ?_); (case e1 => rfl); (case e2 => exact Nat.le_of_ble_eq_true rfl);)
  | (with_reducible refine w_own ?_)
  | (with_reducible refine w_drop ?_)
  | (with_reducible refine w_andV ?_)
  | (with_reducible refine w_orV ?_)
  | (with_reducible refine w_notV ?_)
  | (with_reducible refine w_ifE ?_)
  | (with_reducible refine w_chain ?_)
  | (with_reducible refine w_yes ?_)
  | (with_reducible refine w_tup ?_)
  | (with_reducible refine w_dnew ?_)
  | (with_reducible refine w_disp ?_)
  | (with_reducible refine w_pnil ?_)
  | (with_reducible refine w_pcons ?_)
  | (with_reducible refine w_sl ?_)
  | (with_reducible refine w_noPart ?_)
  | (with_reducible refine w_part ?_)
  | (with_reducible refine w_kI ?_)
  | (with_reducible refine w_m ?_)
  | (with_reducible refine w_kM ?_)
  | (with_reducible refine w_piList ?_)
  | (with_reducible refine w_kL ?_)
  | (with_reducible refine w_piTup ?_)
  | (with_reducible refine w_kTu ?_)
  | (with_reducible refine w_piStr ?_)
  | (with_reducible refine w_kSt ?_)
  | (with_reducible refine w_piRng1 ?_)
  | (with_reducible refine w_piRng2 ?_)
  | (with_reducible refine w_piD ?_)
  | (with_reducible refine w_kD ?_)
  | (with_reducible refine w_for ?_)
  | (with_reducible refine w_lc ?_)
  | (with_reducible refine v_sub ?_)
  | (with_reducible refine v_neg ?_)
  | (with_reducible refine v_le ?_)
  | (with_reducible refine v_gt ?_)
  | (with_reducible refine v_ge ?_)
  | (with_reducible refine v_lt ?_)
  | (with_reducible refine v_ltS ?_)
  | (with_reducible refine v_inS ?_)
  | (with_reducible refine v_notInS ?_)
  | (with_reducible refine v_lenL ?_)
  | (with_reducible refine v_lenT ?_)
  | (with_reducible refine v_lenD ?_)
  | (with_reducible refine v_lenC ?_)
  | (with_reducible refine v_max2 ?_)
  | (with_reducible refine v_min2 ?_)
  | (with_reducible refine v_listD ?_)
  | (with_reducible refine v_listV ?_)
  | (with_reducible refine v_dictD ?_)
  | (with_reducible refine v_tupleL ?_)
  | (with_reducible refine v_tupleT ?_)
  | (with_reducible refine v_int1 ?_)
  | (with_reducible refine v_int2 ?_)
  | (with_reducible refine v_isN ?_)
  | (with_reducible refine v_notN ?_)
  | (with_reducible refine v_slL ?_)
  | (with_reducible refine v_slT ?_)
  | ((with_reducible refine' w_varO ?e1 ?e2 ?_); (case e1 => rfl); (case e2 => wtm_at "set");)
  | ((with_reducible refine' w_kMO ?e1 ?_); (case e1 => rfl);)
  | ((with_reducible refine' w_kOwn ?e1 ?_); (case e1 => exact trivial); (intro p' env' ee'; simp only [List.set_cons_zero, List.set_cons_succ] at ee'; subst ee'))
  | ((with_reducible refine' w_kDs ?e1 ?e2 ?_); (case e1 => rfl); (case e2 => exact Nat.le_of_ble_eq_true rfl);)
  | ((with_reducible refine' w_slV ?e1 ?_); (case e1 => exact trivial);)
  | ((with_reducible refine' w_kSl ?e1 ?_); (case e1 => rfl);)
  | ((with_reducible refine' w_setL ?e1 ?_); (case e1 => exact trivial);)
  | ((with_reducible refine' w_setD ?e1 ?_); (case e1 => exact trivial);)
  | ((with_reducible refine' w_kSetL ?e1 ?e2 ?e3 ?_); (case e1 => rfl); (case e2 => rfl); (case e3 => wtm_at "set");)
  | ((with_reducible refine' w_kSetD ?e1 ?e2 ?e3 ?e4 ?_); (case e1 => rfl); (case e2 => wtm_at "side"); (case e3 => rfl); (case e4 => wtm_at "set");)
  | ((with_reducible refine' w_append ?e1 ?_); (case e1 => rfl);)
  | ((with_reducible refine' w_kApp ?e1 ?e2 ?e3 ?_); (case e1 => rfl); (case e2 => wtm_at "side"); (case e3 => wtm_at "set");)
  | ((with_reducible refine' w_kR1 ?e1 ?_); (case e1 => omega);)
  | ((with_reducible refine' w_kR2 ?e1 ?_); (case e1 => omega);)
  | ((with_reducible refine' iteTrue ?e1 ?_); (case e1 => rfl);)
  | ((with_reducible refine' iteFalse ?e1 ?_); (case e1 => rfl);)
  | ((with_reducible refine' v_mod ?e1 ?_); (case e1 => wtm_at "side");)
  | ((with_reducible refine' v_mulI ?e1 ?_); (case e1 => first | exact s_mul (by omega) (by omega) | (unfold CMulW; decide +kernel));)
  | ((with_reducible refine' v_div ?e1 ?_); (case e1 => omega);)
  | ((with_reducible refine' v_powE ?e1 ?e2 ?_); (case e1 => first | decide | (refine ⟨by decide, by decide, ?_, ?_⟩ <;> omega)); (case e2 => ((try simp only [Int.reduceToNat, Int.reducePow]); rfl)))
  | ((with_reducible refine' v_ne ?e1 ?_); (case e1 => rfl);)
  | ((with_reducible refine' v_ixT ?e1 ?_); (case e1 => rfl);)
  | ((with_reducible refine' v_isi ?e1 ?e2 ?_); (case e1 => rfl); (case e2 => wtm_at "kb");)
  | ((with_reducible refine' v_lenS ?e1 ?_); (case e1 => wtm_at "size");)
  | ((with_reducible refine' v_addS ?e1 ?_); (case e1 => wtm_at "size");)
  | ((with_reducible refine' v_slS ?e1 ?_); (case e1 => wtm_at "size");)
  | ((with_reducible refine' v_ixS ?e1 ?e2 ?e3 ?_); (case e1 => wtm_at "size"); (case e2 => omega); (case e3 => first | omega | (simp only [show _ = _ from by assumption]; omega)); intro c' hc' hc2)
  | (with_reducible refine w_ml ?_)
  | (with_reducible refine w_kML ?_)
  | ((with_reducible refine' w_kMLO ?e1 ?_); (case e1 => rfl);)
  | (with_reducible refine w_callN ?_)
  | (with_reducible refine v_rev ?_)
  | (with_reducible refine v_listEn ?_)
  | (with_reducible refine v_ixAd ?_)
  | (with_reducible refine v_ixAl ?_)
  | (with_reducible refine v_ixAt ?_)
  | ((with_reducible refine' v_inAd ?e1 ?_); (case e1 => rfl);)
  | ((with_reducible refine' w_extend ?e1 ?_); (case e1 => rfl);)
  | ((with_reducible refine' w_kExt ?e1 ?e2 ?e3 ?_); (case e1 => rfl); (case e2 => wtm_at "side"); (case e3 => wtm_at "set");)))
theorem pure_led : ∀ sl P, ps_at sl P → p__law_led (pdOf false sl P) (sl ++ nones 1) := by
  rintro sl P ⟨w, u, p, rfl, f, hf, q⟩
  show p__law_led _ [_, _, _]
  unfold p__law_led
  repeat wtm_at "w"
  refine for_inv (fun i env => ∃ v s2, env = [.val v, .val (.tup p), s2] ∧ noRef env 2 ∧ follow w (p.take i) = some v) ⟨_, _, rfl, trivial, by rw [List.take_zero]; rfl⟩ ?_ ?_
  · rintro env ⟨v, s2, rfl, _, h1⟩
    rw [List.take_length, hf] at h1
    cases h1
    repeat wtm_at "w"
    exact ⟨trivial, q⟩
  · rintro i x env N hx ⟨v, s2, rfl, n2, h1⟩ hN
    obtain ⟨y, hy1, hy2⟩ := follow_next hf h1 hx
    refine w_name n2 rfl ?_
    repeat wtm_at "w"
    refine v_step hy1 ?_
    repeat wtm_at "w"
    exact hN _ ⟨y, .val x, rfl, trivial, hy2⟩
theorem pure_lsort : ∀ sl P, psF (fun t => Wo t) (fun t => .str (sortW t)) sl P → p__law_sort (pdOf false sl P) (sl ++ nones 2) := by
  rintro sl P ⟨t, rfl, f, q⟩
  show p__law_sort _ [_, _, _]
  unfold p__law_sort
  have ff := f.fine
  have lo := f.lo
  cases t
  all_goals first
    | exact ff.elim
    | exact absurd lo (by decide)
    | ((repeat wtm_at "w"); refine v_addL (Nat.le_of_ble_eq_true rfl) ?_; (repeat wtm_at "w"); refine v_index rfl rfl rfl ?_; (repeat wtm_at "w"); exact ⟨trivial, q⟩)
end Pu

namespace Pu
open PySem PySem.Spec PyProof.Rows L2 He Hk
local macro_rules | `(tactic| wtm_at "kb") => `(tactic| first | with_reducible exact kb_NoneType_int | with_reducible exact kb_NoneType_bool | with_reducible exact kb_NoneType_str | with_reducible exact kb_NoneType_list | with_reducible exact kb_NoneType_tuple | with_reducible exact kb_NoneType_dict | with_reducible exact kb_bool_int | with_reducible exact kb_bool_bool | with_reducible exact kb_bool_str | with_reducible exact kb_bool_list | with_reducible exact kb_bool_tuple | with_reducible exact kb_bool_dict | with_reducible exact kb_int_int | with_reducible exact kb_int_bool | with_reducible exact kb_int_str | with_reducible exact kb_int_list | with_reducible exact kb_int_tuple | with_reducible exact kb_int_dict | with_reducible exact kb_str_int | with_reducible exact kb_str_bool | with_reducible exact kb_str_str | with_reducible exact kb_str_list | with_reducible exact kb_str_tuple | with_reducible exact kb_str_dict | with_reducible exact kb_list_int | with_reducible exact kb_list_bool | with_reducible exact kb_list_str | with_reducible exact kb_list_list | with_reducible exact kb_list_tuple | with_reducible exact kb_list_dict | with_reducible exact kb_tuple_int | with_reducible exact kb_tuple_bool | with_reducible exact kb_tuple_str | with_reducible exact kb_tuple_list | with_reducible exact kb_tuple_tuple | with_reducible exact kb_tuple_dict | with_reducible exact kb_dict_int | with_reducible exact kb_dict_bool | with_reducible exact kb_dict_str | with_reducible exact kb_dict_list | with_reducible exact kb_dict_tuple | with_reducible exact kb_dict_dict)
local macro_rules | `(tactic| wtm_at "set") => `(tactic| ((try simp only [backE, reown, List.set_cons_zero, List.set_cons_succ, List.getElem?_cons_zero, List.getElem?_cons_succ]); rfl))
local macro_rules | `(tactic| wtm_at "side") => `(tactic| first | assumption | decide | omega)
local macro_rules | `(tactic| wtm_at "ln") => `(tactic| first | omega | exact len_one (by omega) | (refine len_cut ?_; wtm_at "ln") | (refine len_app ?_ ?_ <;> wtm_at "ln") | decide +kernel)
local macro_rules | `(tactic| wtm_at "size") => `(tactic| first | assumption | wtm_at "ln" | (refine Nat.le_trans (Nat.add_le_add (b := 8000000) (d := 8000000) ?_ ?_) (by decide) <;> wtm_at "ln"))
local macro_rules | `(tactic| wtm_at "w") => `(tactic| (first
  | (with_reducible refine w_op ?_)
  | (with_reducible refine w_cons ?_)
  | ((with_reducible refine' w_consV ?e1 ?_); (case e1 => exact trivial);)
  | (with_reducible refine w_c ?_)
  | (with_reducible refine w_nil ?_)
  | ((with_reducible refine' w_kO ?e1 ?_); (case e1 => rfl);)
  | ((with_reducible refine' w_var ?e1 ?_); (case e1 => rfl);)
  | (with_reducible refine w_seq ?_)
  | (with_reducible refine w_asg ?_)
  | ((with_reducible refine' w_name ?e1 ?e2 ?_); (case e1 => exact trivial); (case e2 => wtm_at "set");)
  | (with_reducible refine w_if ?_)
  | (with_reducible refine w_test ?_)
  | (with_reducible refine w_kB ?_)
  | (with_reducible refine w_call ?_)
  | ((with_reducible refine' w_kC ?e1 ?e2 ?_); (case e1 => rfl); (case e2 => rfl);)
  | ((with_reducible refine' w_kBk ?e1 ?_); (case e1 => wtm_at "set");)
  | (with_reducible refine w_ret ?_)
  | (with_reducible refine iteT' ?_)
  | (with_reducible refine iteF' ?_)
  | (with_reducible refine w_and ?_)
  | (with_reducible refine w_or ?_)
  | (with_reducible refine w_not ?_)
  | (with_reducible refine w_next ?_)
  | ((with_reducible refine' v_ixL ?e1 ?_); (case e1 => rfl);)
  | (with_reducible refine v_addI ?_)
  | ((with_reducible refine' v_eq ?e1 ?_); (case e1 => rfl);)
  | (with_reducible refine w_lst ?_)
  | ((with_reducible refine' w_kV2 ?e1 ?e2 ?_); (case e1 => rfl); (case e2 => exact Nat.le_of_ble_eq_true rfl);)
  | (with_reducible refine w_own ?_)
  | (with_reducible refine w_drop ?_)
  | (with_reducible refine w_andV ?_)
  | (with_reducible refine w_orV ?_)
  | (with_reducible refine w_notV ?_)
  | (with_reducible refine w_ifE ?_)
  | (with_reducible refine w_chain ?_)
  | (with_reducible refine w_yes ?_)
  | (with_reducible refine w_tup ?_)
  | (with_reducible refine w_dnew ?_)
  | (with_reducible refine w_disp ?_)
  | (with_reducible refine w_pnil ?_)
  | (with_reducible refine w_pcons ?_)
  | (with_reducible refine w_sl ?_)
  | (with_reducible refine w_noPart ?_)
  | (with_reducible refine w_part ?_)
  | (with_reducible refine w_kI ?_)
  | (with_reducible refine w_m ?_)
  | (with_reducible refine w_kM ?_)
  | (with_reducible refine w_piList ?_)
  | (with_reducible refine w_kL ?_)
  | (with_reducible refine w_piTup ?_)
  | (with_reducible refine w_kTu ?_)
  | (with_reducible refine w_piStr ?_)
  | (with_reducible refine w_kSt ?_)
  | (with_reducible refine w_piRng1 ?_)
  | (with_reducible refine w_piRng2 ?_)
  | (with_reducible refine w_piD ?_)
  | (with_reducible refine w_kD ?_)
  | (with_reducible refine w_for ?_)
  | (with_reducible refine w_lc ?_)
  | (with_reducible refine v_sub ?_)
  | (with_reducible refine v_neg ?_)
  | (with_reducible refine v_le ?_)
  | (with_reducible refine v_gt ?_)
  | (with_reducible refine v_ge ?_)
  | (with_reducible refine v_lt ?_)
  | (with_reducible refine v_ltS ?_)
  | (with_reducible refine v_inS ?_)
  | (with_reducible refine v_notInS ?_)
  | (with_reducible refine v_lenL ?_)
  | (with_reducible refine v_lenT ?_)
  | (with_reducible refine v_lenD ?_)
  | (with_reducible refine v_lenC ?_)
  | (with_reducible refine v_max2 ?_)
  | (with_reducible refine v_min2 ?_)
  | (with_reducible refine v_listD ?_)
  | (with_reducible refine v_listV ?_)
  | (with_reducible refine v_dictD ?_)
  | (with_reducible refine v_tupleL ?_)
  | (with_reducible refine v_tupleT ?_)
  | (with_reducible refine v_int1 ?_)
  | (with_reducible refine v_int2 ?_)
  | (with_reducible refine v_isN ?_)
  | (with_reducible refine v_notN ?_)
  | (with_reducible refine v_slL ?_)
  | (with_reducible refine v_slT ?_)
  | ((with_reducible refine' w_varO ?e1 ?e2 ?_); (case e1 => rfl); (case e2 => wtm_at "set");)
  | ((with_reducible refine' w_kMO ?e1 ?_); (case e1 => rfl);)
  | ((with_reducible refine' w_kOwn ?e1 ?_); (case e1 => exact trivial); (intro p' env' ee'; simp only [List.set_cons_zero, List.set_cons_succ] at ee'; subst ee'))
  | ((with_reducible refine' w_kDs ?e1 ?e2 ?_); (case e1 => rfl); (case e2 => exact Nat.le_of_ble_eq_true rfl);)
  | ((with_reducible refine' w_slV ?e1 ?_); (case e1 => exact trivial);)
  | ((with_reducible refine' w_kSl ?e1 ?_); (case e1 => rfl);)
  | ((with_reducible refine' w_setL ?e1 ?_); (case e1 => exact trivial);)
  | ((with_reducible refine' w_setD ?e1 ?_); (case e1 => exact trivial);)
  | ((with_reducible refine' w_kSetL ?e1 ?e2 ?e3 ?_); (case e1 => rfl); (case e2 => rfl); (case e3 => wtm_at "set");)
  | ((with_reducible refine' w_kSetD ?e1 ?e2 ?e3 ?e4 ?_); (case e1 => rfl); (case e2 => wtm_at "side"); (case e3 => rfl); (case e4 => wtm_at "set");)
  | ((with_reducible refine' w_append ?e1 ?_); (case e1 => rfl);)
  | ((with_reducible refine' w_kApp ?e1 ?e2 ?e3 ?_); (case e1 => rfl); (case e2 => wtm_at "side"); (case e3 => wtm_at "set");)
  | ((with_reducible refine' w_kR1 ?e1 ?_); (case e1 => omega);)
  | ((with_reducible refine' w_kR2 ?e1 ?_); (case e1 => omega);)
  | ((with_reducible refine' iteTrue ?e1 ?_); (case e1 => rfl);)
  | ((with_reducible refine' iteFalse ?e1 ?_); (case e1 => rfl);)
  | ((with_reducible refine' v_mod ?e1 ?_); (case e1 => wtm_at "side");)
  | ((with_reducible refine' v_mulI ?e1 ?_); (case e1 => first | exact s_mul (by omega) (by omega) | (unfold CMulW; decide +kernel));)
  | ((with_reducible refine' v_div ?e1 ?_); (case e1 => omega);)
  | ((with_reducible refine' v_powE ?e1 ?e2 ?_); (case e1 => first | decide | (refine ⟨by decide, by decide, ?_, ?_⟩ <;> omega)); (case e2 => ((try simp only [Int.reduceToNat, Int.reducePow]); rfl)))
  | ((with_reducible refine' v_ne ?e1 ?_); (case e1 => rfl);)
  | ((with_reducible refine' v_ixT ?e1 ?_); (case e1 => rfl);)
  | ((with_reducible refine' v_isi ?e1 ?e2 ?_); (case e1 => rfl); (case e2 => wtm_at "kb");)
  | ((with_reducible refine' v_lenS ?e1 ?_); (case e1 => wtm_at "size");)
  | ((with_reducible refine' v_addS ?e1 ?_); (case e1 => wtm_at "size");)
  | ((with_reducible refine' v_slS ?e1 ?_); (case e1 => wtm_at "size");)
  | ((with_reducible refine' v_ixS ?e1 ?e2 ?e3 ?_); (case e1 => wtm_at "size"); (case e2 => omega); (case e3 => first | omega | (simp only [show _ = _ from by assumption]; omega)); intro c' hc' hc2)
  | (with_reducible refine w_ml ?_)
  | (with_reducible refine w_kML ?_)
  | ((with_reducible refine' w_kMLO ?e1 ?_); (case e1 => rfl);)
  | (with_reducible refine w_callN ?_)
  | (with_reducible refine v_rev ?_)
  | (with_reducible refine v_listEn ?_)
  | (with_reducible refine v_ixAd ?_)
  | (with_reducible refine v_ixAl ?_)
  | (with_reducible refine v_ixAt ?_)
  | ((with_reducible refine' v_inAd ?e1 ?_); (case e1 => rfl);)
  | ((with_reducible refine' w_extend ?e1 ?_); (case e1 => rfl);)
  | ((with_reducible refine' w_kExt ?e1 ?e2 ?e3 ?_); (case e1 => rfl); (case e2 => wtm_at "side"); (case e3 => wtm_at "set");)))
def psD (m : Nat) : PSp := psF (WoD m) (fun t => .int t.dp)
theorem wo_dp {t : T} {ts : List T} (w : Wo t) (h : heldT t = some ts) : t.dp = 1 + listMax (ts.map T.dp) := by
  obtain ⟨_, _, h3, _, _⟩ := held_some h
  have lo := w.lo
  rw [h3] at lo ⊢
  unfold ofHeld at lo ⊢
  by_cases c : 0 ∈ ts.map T.dp ∨ 4 ∈ ts.map T.dp
  · rw [if_pos c] at lo; omega
  · rw [if_neg c]
theorem kdeep_tail {m : Nat} {t : T} {us : List T} {P : T → List Slot → Prop} (hz : us.length ≤ 8) (hu : ∀ x, x ∈ us → WoD m x) (e : t.dp = 1 + listMax (us.map T.dp)) (q : P (.int t.dp) [.val t]) :
    LcK (pgName 2) pYes (pCall (psD m) (pCons (pVar 2) pNil)) [2] us [.val t, .val (.lst us), .none] fun t1 env1 => pNil env1 fun as env2 => kO Pu.oAdd (Ar.val (T.lst [T.int 0]) :: Ar.val t1 :: as) env2 fun t1 env1 => pNil env1 fun as env2 => kO Pu.oMax (Ar.val t1 :: as) env2 fun t1 env1 => pNil env1 fun as env2 => kO Pu.oAdd (Ar.val (T.int 1) :: Ar.val t1 :: as) env2 fun t1 env1 => (pdOf false [.val t] P).rt t1 env1 := by
  refine lc_fun (env0 := [_, _, _]) rfl (by omega) (fun _ => true) (fun x => .int x.dp) trivial (fun _ => rfl) (fun x _ Q h => h) (fun x hx _ Q h => ?_) ?_
  · repeat wtm_at "w"
    refine u_F (hu x hx) ?_
    repeat wtm_at "w"
    exact h
  · rw [List.filter_eq_self.mpr (fun _ _ => rfl), show (fun x : T => T.int x.dp) = T.int ∘ T.dp from rfl, ← List.map_map]
    repeat wtm_at "w"
    refine v_addL (by simp; omega) ?_
    repeat wtm_at "w"
    rw [show ([T.int 0] ++ (us.map T.dp).map T.int) = ([0] ++ us.map T.dp).map T.int from by rw [List.map_append]; rfl]
    refine v_max (by simp) ?_
    rw [maxL_zero]
    repeat wtm_at "w"
    rw [e] at q
    exact ⟨trivial, q⟩
theorem pure_kdeep {m : Nat} : ∀ sl P, psD (m + 1) sl P → p__law_deep (psD m) (pdOf false sl P) (sl ++ nones 2) := by
  rintro sl P ⟨t, rfl, f, q⟩
  show p__law_deep _ _ [_, _, _]
  unfold p__law_deep
  have ff := f.1.fine
  have lo := f.1.lo
  cases t with
  | lst xs =>
    obtain ⟨h6, hh⟩ := wo_lst f.1
    repeat wtm_at "w"
    exact kdeep_tail (by omega) (fun x hx => deep_lst f hx) (wo_dp f.1 hh) q
  | dct kvs =>
    obtain ⟨h8, _⟩ := wo_dct f.1
    rcases wo_held f.1 with ⟨z, _⟩ | ⟨ts, hh⟩
    · exact absurd z (by unfold T.deep; omega)
    · have e2 := (held_dct hh).1
      repeat wtm_at "w"
      refine kdeep_tail (by rw [List.length_map]; exact h8) (fun x hx => ?_) (by rw [← e2]; exact wo_dp f.1 hh) q
      obtain ⟨kv, hk, rfl⟩ := List.mem_map.mp hx
      exact deep_kv f hk
  | _ => first | exact ff.elim | exact absurd lo (by decide) | ((repeat wtm_at "w"); exact kdeep_tail (us := []) (by decide) (fun x hx => nomatch hx) (by first | rfl | (show T.dp _ = 1; unfold T.dp at lo ⊢; first | omega | split at lo <;> first | rfl | omega | (rename_i c; rw [if_pos c]) | (rename_i c; simp [c]))) q)
end Pu

namespace Pu
open PySem PySem.Spec PyProof.Rows L2 He Hk
/-! ### the law's walk by a heap of paths -/
theorem flat_congr {α β : Type} {f g : α → List β} : ∀ {l : List α}, (∀ x, x ∈ l → f x = g x) → l.flatMap f = l.flatMap g
  | [], _ => rfl
  | x :: r, h => by rw [List.flatMap_cons, List.flatMap_cons, h x (List.mem_cons_self ..), flat_congr fun y hy => h y (List.mem_cons_of_mem _ hy)]
theorem gat_fuel : ∀ (n : Nat) {p : List T} {t : T}, Wo t → t.deep ≤ n → gat (n + 1) p t = gat n p t
  | 0, p, t, w, h => by
    rcases wo_held w with ⟨_, z⟩ | ⟨ts, e⟩
    · show (p, t) :: (stepsL t).flatMap _ = [(p, t)]
      rw [z]; rfl
    · have := (held_some e).1; omega
  | n + 1, p, t, w, h => by
    show (p, t) :: (stepsL t).flatMap (fun s => gat (n + 1) (p ++ [s.1]) s.2) = (p, t) :: (stepsL t).flatMap (fun s => gat n (p ++ [s.1]) s.2)
    congr 1
    refine flat_congr fun s hs => ?_
    obtain ⟨h1, h2, _⟩ := steps_wo w hs
    exact gat_fuel n h1 (by omega)
/-- what is left to go, the last one first -/
def gats (left : List (List T × T)) : List (List T × T) := left.reverse.flatMap fun q => gat 5 q.1 q.2
def nexts (q : List T × T) : List (List T × T) := (stepsL q.2).map fun s => (q.1 ++ [s.1], s.2)
theorem gats_pop {left : List (List T × T)} {q : List T × T} (w : WoD 5 q.2) : gats (left ++ [q]) = q :: gats (left ++ (nexts q).reverse) := by
  unfold gats
  rw [List.reverse_append, List.reverse_append, List.reverse_reverse, List.flatMap_append, List.flatMap_append]
  have e : gat 5 q.1 q.2 = q :: (nexts q).flatMap fun r => gat 5 r.1 r.2 := by
    show (q.1, q.2) :: (stepsL q.2).flatMap (fun s => gat 4 (q.1 ++ [s.1]) s.2) = _
    unfold nexts
    rw [List.flatMap_map]
    congr 1
    refine flat_congr fun s hs => ?_
    obtain ⟨h1, h2, _⟩ := steps_wo w.1 hs
    exact (gat_fuel 4 h1 (by have := w.2; omega)).symm
  show ([q].flatMap fun q => gat 5 q.1 q.2) ++ _ = _
  rw [List.flatMap_cons, List.flatMap_nil, List.append_nil, e]
  rfl
theorem gat_pos (n : Nat) (p : List T) (t : T) : 1 ≤ (gat n p t).length := by cases n <;> simp [gat]
theorem gats_len : ∀ (left : List (List T × T)), left.length ≤ (gats left).length := by
  intro left
  unfold gats
  rw [← List.length_reverse]
  generalize left.reverse = l
  induction l with
  | nil => simp
  | cons q r ih => rw [List.flatMap_cons, List.length_append, List.length_cons]; have := gat_pos 5 q.1 q.2; omega
end Pu

namespace Pu
open PySem PySem.Spec PyProof.Rows L2 He Hk
local macro_rules | `(tactic| wtm_at "kb") => `(tactic| first | with_reducible exact kb_NoneType_int | with_reducible exact kb_NoneType_bool | with_reducible exact kb_NoneType_str | with_reducible exact kb_NoneType_list | with_reducible exact kb_NoneType_tuple | with_reducible exact kb_NoneType_dict | with_reducible exact kb_bool_int | with_reducible exact kb_bool_bool | with_reducible exact kb_bool_str | with_reducible exact kb_bool_list | with_reducible exact kb_bool_tuple | with_reducible exact kb_bool_dict | with_reducible exact kb_int_int | with_reducible exact kb_int_bool | with_reducible exact kb_int_str | with_reducible exact kb_int_list | with_reducible exact kb_int_tuple | with_reducible exact kb_int_dict | with_reducible exact kb_str_int | with_reducible exact kb_str_bool | with_reducible exact kb_str_str | with_reducible exact kb_str_list | with_reducible exact kb_str_tuple | with_reducible exact kb_str_dict | with_reducible exact kb_list_int | with_reducible exact kb_list_bool | with_reducible exact kb_list_str | with_reducible exact kb_list_list | with_reducible exact kb_list_tuple | with_reducible exact kb_list_dict | with_reducible exact kb_tuple_int | with_reducible exact kb_tuple_bool | with_reducible exact kb_tuple_str | with_reducible exact kb_tuple_list | with_reducible exact kb_tuple_tuple | with_reducible exact kb_tuple_dict | with_reducible exact kb_dict_int | with_reducible exact kb_dict_bool | with_reducible exact kb_dict_str | with_reducible exact kb_dict_list | with_reducible exact kb_dict_tuple | with_reducible exact kb_dict_dict)
local macro_rules | `(tactic| wtm_at "set") => `(tactic| ((try simp only [backE, reown, List.set_cons_zero, List.set_cons_succ, List.getElem?_cons_zero, List.getElem?_cons_succ]); rfl))
local macro_rules | `(tactic| wtm_at "side") => `(tactic| first | assumption | decide | omega)
local macro_rules | `(tactic| wtm_at "ln") => `(tactic| first | omega | exact len_one (by omega) | (refine len_cut ?_; wtm_at "ln") | (refine len_app ?_ ?_ <;> wtm_at "ln") | decide +kernel)
local macro_rules | `(tactic| wtm_at "size") => `(tactic| first | assumption | wtm_at "ln" | (refine Nat.le_trans (Nat.add_le_add (b := 8000000) (d := 8000000) ?_ ?_) (by decide) <;> wtm_at "ln"))
local macro_rules | `(tactic| wtm_at "w") => `(tactic| (first
  | (with_reducible refine w_op ?_)
  | (with_reducible refine w_cons ?_)
  | ((with_reducible refine' w_consV ?e1 ?_); (case e1 => exact trivial);)
  | (with_reducible refine w_c ?_)
  | (with_reducible refine w_nil ?_)
  | ((with_reducible refine' w_kO ?e1 ?_); (case e1 => rfl);)
  | ((with_reducible refine' w_var ?e1 ?_); (case e1 => rfl);)
  | (with_reducible refine w_seq ?_)
  | (with_reducible refine w_asg ?_)
  | ((with_reducible refine' w_name ?e1 ?e2 ?_); (case e1 => exact trivial); (case e2 => wtm_at "set");)
  | (with_reducible refine w_if ?_)
  | (with_reducible refine w_test ?_)
  | (with_reducible refine w_kB ?_)
  | (with_reducible refine w_call ?_)
  | ((with_reducible refine' w_kC ?e1 ?e2 ?_); (case e1 => rfl); (case e2 => rfl);)
  | ((with_reducible refine' w_kBk ?e1 ?_); (case e1 => wtm_at "set");)
  | (with_reducible refine w_ret ?_)
  | (with_reducible refine iteT' ?_)
  | (with_reducible refine iteF' ?_)
  | (with_reducible refine w_and ?_)
  | (with_reducible refine w_or ?_)
  | (with_reducible refine w_not ?_)
  | (with_reducible refine w_next ?_)
  | ((with_reducible refine' v_ixL ?e1 ?_); (case e1 => rfl);)
  | (with_reducible refine v_addI ?_)
  | ((with_reducible refine' v_eq ?e1 ?_); (case e1 => rfl);)
  | (with_reducible refine w_lst ?_)
  | ((with_reducible refine' w_kV2 ?e1 ?e2 ?_); (case e1 => rfl); (case e2 => exact Nat.le_of_ble_eq_true rfl);)
  | (with_reducible refine w_own ?_)
  | (with_reducible refine w_drop ?_)
  | (with_reducible refine w_andV ?_)
  | (with_reducible refine w_orV ?_)
  | (with_reducible refine w_notV ?_)
  | (with_reducible refine w_ifE ?_)
  | (with_reducible refine w_chain ?_)
  | (with_reducible refine w_yes ?_)
  | (with_reducible refine w_tup ?_)
  | (with_reducible refine w_dnew ?_)
  | (with_reducible refine w_disp ?_)
  | (with_reducible refine w_pnil ?_)
  | (with_reducible refine w_pcons ?_)
  | (with_reducible refine w_sl ?_)
  | (with_reducible refine w_noPart ?_)
  | (with_reducible refine w_part ?_)
  | (with_reducible refine w_kI ?_)
  | (with_reducible refine w_m ?_)
  | (with_reducible refine w_kM ?_)
  | (with_reducible refine w_piList ?_)
  | (with_reducible refine w_kL ?_)
  | (with_reducible refine w_piTup ?_)
  | (with_reducible refine w_kTu ?_)
  | (with_reducible refine w_piStr ?_)
  | (with_reducible refine w_kSt ?_)
  | (with_reducible refine w_piRng1 ?_)
  | (with_reducible refine w_piRng2 ?_)
  | (with_reducible refine w_piD ?_)
  | (with_reducible refine w_kD ?_)
  | (with_reducible refine w_for ?_)
  | (with_reducible refine w_lc ?_)
  | (with_reducible refine v_sub ?_)
  | (with_reducible refine v_neg ?_)
  | (with_reducible refine v_le ?_)
  | (with_reducible refine v_gt ?_)
  | (with_reducible refine v_ge ?_)
  | (with_reducible refine v_lt ?_)
  | (with_reducible refine v_ltS ?_)
  | (with_reducible refine v_inS ?_)
  | (with_reducible refine v_notInS ?_)
  | (with_reducible refine v_lenL ?_)
  | (with_reducible refine v_lenT ?_)
  | (with_reducible refine v_lenD ?_)
  | (with_reducible refine v_lenC ?_)
  | (with_reducible refine v_max2 ?_)
  | (with_reducible refine v_min2 ?_)
  | (with_reducible refine v_listD ?_)
  | (with_reducible refine v_listV ?_)
  | (with_reducible refine v_dictD ?_)
  | (with_reducible refine v_tupleL ?_)
  | (with_reducible refine v_tupleT ?_)
  | (with_reducible refine v_int1 ?_)
  | (with_reducible refine v_int2 ?_)
  | (with_reducible refine v_isN ?_)
  | (with_reducible refine v_notN ?_)
  | (with_reducible refine v_slL ?_)
  | (with_reducible refine v_slT ?_)
  | ((with_reducible refine' w_varO ?e1 ?e2 ?_); (case e1 => rfl); (case e2 => wtm_at "set");)
  | ((with_reducible refine' w_kMO ?e1 ?_); (case e1 => rfl);)
  | ((with_reducible refine' w_kOwn ?e1 ?_); (case e1 => exact trivial); (intro p' env' ee'; simp only [List.set_cons_zero, List.set_cons_succ] at ee'; subst ee'))
  | ((with_reducible refine' w_kDs ?e1 ?e2 ?_); (case e1 => rfl); (case e2 => exact Nat.le_of_ble_eq_true rfl);)
  | ((with_reducible refine' w_slV ?e1 ?_); (case e1 => exact trivial);)
  | ((with_reducible refine' w_kSl ?e1 ?_); (case e1 => rfl);)
  | ((with_reducible refine' w_setL ?e1 ?_); (case e1 => exact trivial);)
  | ((with_reducible refine' w_setD ?e1 ?_); (case e1 => exact trivial);)
  | ((with_reducible refine' w_kSetL ?e1 ?e2 ?e3 ?_); (case e1 => rfl); (case e2 => rfl); (case e3 => wtm_at "set");)
  | ((with_reducible refine' w_kSetD ?e1 ?e2 ?e3 ?e4 ?_); (case e1 => rfl); (case e2 => wtm_at "side"); (case e3 => rfl); (case e4 => wtm_at "set");)
  | ((with_reducible refine' w_append ?e1 ?_); (case e1 => rfl);)
  | ((with_reducible refine' w_kApp ?e1 ?e2 ?e3 ?_); (case e1 => rfl); (case e2 => wtm_at "side"); (case e3 => wtm_at "set");)
  | ((with_reducible refine' w_kR1 ?e1 ?_); (case e1 => omega);)
  | ((with_reducible refine' w_kR2 ?e1 ?_); (case e1 => omega);)
  | ((with_reducible refine' iteTrue ?e1 ?_); (case e1 => rfl);)
  | ((with_reducible refine' iteFalse ?e1 ?_); (case e1 => rfl);)
  | ((with_reducible refine' v_mod ?e1 ?_); (case e1 => wtm_at "side");)
  | ((with_reducible refine' v_mulI ?e1 ?_); (case e1 => first | exact s_mul (by omega) (by omega) | (unfold CMulW; decide +kernel));)
  | ((with_reducible refine' v_div ?e1 ?_); (case e1 => omega);)
  | ((with_reducible refine' v_powE ?e1 ?e2 ?_); (case e1 => first | decide | (refine ⟨by decide, by decide, ?_, ?_⟩ <;> omega)); (case e2 => ((try simp only [Int.reduceToNat, Int.reducePow]); rfl)))
  | ((with_reducible refine' v_ne ?e1 ?_); (case e1 => rfl);)
  | ((with_reducible refine' v_ixT ?e1 ?_); (case e1 => rfl);)
  | ((with_reducible refine' v_isi ?e1 ?e2 ?_); (case e1 => rfl); (case e2 => wtm_at "kb");)
  | ((with_reducible refine' v_lenS ?e1 ?_); (case e1 => wtm_at "size");)
  | ((with_reducible refine' v_addS ?e1 ?_); (case e1 => wtm_at "size");)
  | ((with_reducible refine' v_slS ?e1 ?_); (case e1 => wtm_at "size");)
  | ((with_reducible refine' v_ixS ?e1 ?e2 ?e3 ?_); (case e1 => wtm_at "size"); (case e2 => omega); (case e3 => first | omega | (simp only [show _ = _ from by assumption]; omega)); intro c' hc' hc2)
  | (with_reducible refine w_ml ?_)
  | (with_reducible refine w_kML ?_)
  | ((with_reducible refine' w_kMLO ?e1 ?_); (case e1 => rfl);)
  | (with_reducible refine w_callN ?_)
  | (with_reducible refine v_rev ?_)
  | (with_reducible refine v_listEn ?_)
  | (with_reducible refine v_ixAd ?_)
  | (with_reducible refine v_ixAl ?_)
  | (with_reducible refine v_ixAt ?_)
  | ((with_reducible refine' v_inAd ?e1 ?_); (case e1 => rfl);)
  | ((with_reducible refine' w_extend ?e1 ?_); (case e1 => rfl);)
  | ((with_reducible refine' w_kExt ?e1 ?e2 ?e3 ?_); (case e1 => rfl); (case e2 => wtm_at "side"); (case e3 => wtm_at "set");)))
theorem w_while {c : PT} {pb : PS} {d : PD} {env : Env} (W : Nat → Env → Prop) (m : Nat) (h0 : W m env)
    (hs : ∀ m env, W m env → c env fun b env1 => if b = true then ∃ N : Env → Prop, (∀ env', N env' → ∃ m', m' < m ∧ W m' env') ∧ pb { d with nx := N, ct := N, bk := d.nx } env1 else d.nx env1) : pWhile c pb d env := ⟨W, ⟨m, h0⟩, hs⟩
structure WkI (w : T) (left found : List (List T × T)) : Prop where
  sum : found ++ gats left = gat 5 [] w
  ok : ∀ q, q ∈ left → WoD 5 q.2 ∧ q.1.length + q.2.deep ≤ 4
theorem WkI.step {w : T} {left found : List (List T × T)} {q : List T × T} (h : WkI w (left ++ [q]) found) : WkI w (left ++ (nexts q).reverse) (found ++ [q]) ∧ (gats (left ++ (nexts q).reverse)).length < (gats (left ++ [q])).length := by
  have hq := h.ok q (by simp)
  have e := gats_pop (left := left) hq.1
  refine ⟨⟨?_, fun r hr => ?_⟩, by rw [e]; exact Nat.lt_succ_self _⟩
  · rw [← h.sum, e, List.append_assoc]; rfl
  · rcases List.mem_append.mp hr with hr | hr
    · exact h.ok r (List.mem_append_left _ hr)
    · rw [List.mem_reverse] at hr
      obtain ⟨s, hs, rfl⟩ := List.mem_map.mp hr
      obtain ⟨h1, h2, _⟩ := steps_wo hq.1.1 hs
      refine ⟨⟨h1, by have := hq.1.2; show s.2.deep < 5; omega⟩, ?_⟩
      show (q.1 ++ [s.1]).length + s.2.deep ≤ 4
      rw [List.length_append]
      have := hq.2
      show q.1.length + 1 + s.2.deep ≤ 4
      omega
theorem wk0 {w : T} (h : WoD 5 w) : WkI w [([], w)] [] := by
  refine ⟨?_, fun q hq => ?_⟩
  · show [] ++ ([([], w)].reverse.flatMap fun q : List T × T => gat 5 q.1 q.2) = _
    simp
  · have e : q = ([], w) := by simpa using hq
    subst e
    exact ⟨h, by have := h.2; show 0 + w.deep ≤ 4; omega⟩
/-- an item of the law's steps -/
def nextF (p : List T) (t : T) (s : T) : T := .tup [.tup (p ++ [s]), (step1 t s).getD .non]
theorem next_lst {p : List T} {xs : List T} : (((rngT 0 xs.length).filter fun _ => true).map (nextF p (.lst xs))) = (nexts (p, .lst xs)).map gatT := by
  rw [List.filter_eq_self.mpr (fun _ _ => rfl)]
  show _ = ((enP 0 xs).map _).map gatT
  rw [List.map_map]
  apply List.ext_getElem?
  intro j
  rw [List.getElem?_map, List.getElem?_map, enP_get]
  unfold rngT
  rw [List.getElem?_map]
  by_cases hj : j < xs.length
  · rw [List.getElem?_range hj, List.getElem?_eq_getElem hj]
    simp only [Option.map_some, Nat.zero_add, Int.zero_add]
    show some (T.tup [.tup (p ++ [.int (j : Int)]), (if 0 ≤ ((j : Nat) : Int) then xs[((j : Nat) : Int).toNat]? else none).getD .non]) = _
    rw [if_pos (Int.natCast_nonneg j), Int.toNat_natCast, List.getElem?_eq_getElem hj]
    rfl
  · rw [List.getElem?_eq_none_iff.mpr (by simp; omega), List.getElem?_eq_none_iff.mpr (show xs.length ≤ j by omega)]
    rfl
theorem next_dct {p : List T} {kvs : List (Key × T)} {ks : List Str} (e : strKeys kvs = some ks) : ((((sortS ks).map T.str).filter fun _ => true).map (nextF p (.dct kvs))) = (nexts (p, .dct kvs)).map gatT := by
  rw [List.filter_eq_self.mpr (fun _ _ => rfl), List.map_map]
  show _ = (((namesOf kvs).map fun k => (T.str k, (valT kvs (.inr k)).getD .non)).map _).map gatT
  unfold namesOf
  rw [e, List.map_map, List.map_map]
  rfl
def ps_walk : PSp := psF (WoD 5) innerO
theorem walk_ext {d : PD} {w : T} {a b : Addr} {le us fo : List T} {s3 s4 : Slot} (hz : le.length + us.reverse.length ≤ 1000000) (h : d.nx [.val w, .own a (.lst (le ++ us.reverse)), .own b (.lst fo), s3, s4, .val (.lst us), .none, .none]) :
    pExtend 1 (pOp Pu.oRev (pConsV 5 pNil)) d [.val w, .own a (.lst le), .own b (.lst fo), s3, s4, .val (.lst us), .none, .none] := by
  refine w_extend rfl ?_
  refine w_op (w_consV trivial (w_nil (w_kO rfl (v_rev ?_))))
  exact w_kExt rfl hz rfl h
theorem pure_walk : ∀ sl P, ps_walk sl P → p__law_walk (pdOf false sl P) (sl ++ nones 7) := by
  rintro sl P ⟨w, rfl, f, q⟩
  show p__law_walk _ [_, _, _, _, _, _, _, _]
  unfold p__law_walk
  repeat wtm_at "w"
  rename_i a b
  refine w_while (fun m env => ∃ left found s3 s4 s5, env = [.val w, .own a (.lst (left.map gatT)), .own b (.lst (found.map gatT)), s3, s4, s5, .none, .none] ∧ noRef env 3 ∧ noRef env 4 ∧ noRef env 5 ∧ WkI w left found ∧ m = (gats left).length) _ ⟨[([], w)], [], _, _, _, rfl, trivial, trivial, trivial, wk0 f, rfl⟩ ?_
  rintro m env ⟨left, found, s3, s4, s5, rfl, n3, n4, n5, hI, rfl⟩
  repeat wtm_at "w"
  have hl := congrArg List.length hI.sum
  rw [List.length_append] at hl
  have h9 := gat_len 5 (p := []) f.1
  have hgl := gats_len left
  refine iteB (fun c => ?_) (fun c => ?_)
  · rcases List.eq_nil_or_concat left with rfl | ⟨left', qq, rfl⟩
    · cases c
    rw [List.concat_eq_append] at *
    obtain ⟨hI2, hlt⟩ := hI.step
    have hq := hI.ok qq (by simp)
    have hl2 := congrArg List.length hI2.sum
    rw [List.length_append] at hl2
    have hgl2 := gats_len (left' ++ (nexts qq).reverse)
    obtain ⟨p, t⟩ := qq
    have hf : (found.map gatT).length < 1000000 := by rw [List.length_map]; omega
    have hpl : p.length + 1 ≤ 1000000 := by have := hq.2; have : p.length + t.deep ≤ 4 := this; omega
    have hx : ∀ (us : List T), us = (nexts (p, t)).map gatT → (left'.map gatT).length + us.reverse.length ≤ 1000000 := fun us e => by
      rw [e, List.length_map, List.length_reverse, List.length_map]
      rw [List.length_append, List.length_reverse] at hgl2
      omega
    refine ⟨_, fun env' h => h, ?_⟩
    refine w_seq (w_asg (w_pop rfl (t := gatT (p, t)) (by rw [List.map_append]; exact List.getLast?_concat) (env' := [.val w, .own a (.lst (left'.map gatT)), .own b (.lst (found.map gatT)), s3, s4, s5, .none, .none]) (by rw [List.map_append]; show [_, Slot.own a (.lst (List.dropLast (_ ++ [_]))), _, _, _, _, _, _] = _; rw [List.dropLast_concat]) ?_))
    refine w_tup2 n3 n4 rfl ?_
    repeat wtm_at "w"
    have n5' : noRef [.val w, .own a (.lst (left'.map gatT)), .own b (.lst (found.map gatT ++ [.tup [.tup p, t]])), .val (.tup p), .val t, s5, .none, .none] 5 := n5
    refine w_name n5' rfl ?_
    have fin : ∀ us : List T, us = (nexts (p, t)).map gatT → ∃ m', m' < (gats (left' ++ [(p, t)])).length ∧ ∃ left fo s3 s4 s5, [.val w, .own a (.lst (left'.map gatT ++ us.reverse)), .own b (.lst (found.map gatT ++ [.tup [.tup p, t]])), .val (.tup p), .val t, .val (.lst us), .none, .none] = [Slot.val w, .own a (.lst (left.map gatT)), .own b (.lst (fo.map gatT)), s3, s4, s5, .none, .none] ∧ noRef [Slot.val w, .own a (.lst (left'.map gatT ++ us.reverse)), .own b (.lst (found.map gatT ++ [.tup [.tup p, t]])), .val (.tup p), .val t, .val (.lst us), .none, .none] 3 ∧ noRef [Slot.val w, .own a (.lst (left'.map gatT ++ us.reverse)), .own b (.lst (found.map gatT ++ [.tup [.tup p, t]])), .val (.tup p), .val t, .val (.lst us), .none, .none] 4 ∧ noRef [Slot.val w, .own a (.lst (left'.map gatT ++ us.reverse)), .own b (.lst (found.map gatT ++ [.tup [.tup p, t]])), .val (.tup p), .val t, .val (.lst us), .none, .none] 5 ∧ WkI w left fo ∧ m' = (gats left).length := fun us e =>
      ⟨_, hlt, left' ++ (nexts (p, t)).reverse, found ++ [(p, t)], _, _, _, by rw [List.map_append, List.map_append, List.map_reverse, ← e]; rfl, trivial, trivial, trivial, hI2, rfl⟩
    have wo := hq.1.1
    cases t with
    | lst xs =>
      have h6 := (wo_lst wo).1
      repeat wtm_at "w"
      rw [show ((xs.length : Nat) : Int).toNat = xs.length from rfl]
      refine lc_fun (env0 := [_, _, _, _, _, _, _, _]) rfl (by rw [rng_len]; omega) (fun _ => true) (nextF p (.lst xs)) trivial (fun _ => rfl) (fun x _ Q h => h) (fun x hx' _ Q h => ?_) ?_
      · obtain ⟨j, hj⟩ := List.mem_iff_getElem?.mp hx'
        obtain ⟨hj1, rfl⟩ := rng_get hj
        rw [Int.zero_add] at *
        have es : step1 (.lst xs) (.int (j : Int)) = some xs[j] := by
          show (if 0 ≤ ((j : Nat) : Int) then xs[((j : Nat) : Int).toNat]? else none) = _
          rw [if_pos (Int.natCast_nonneg j), Int.toNat_natCast, List.getElem?_eq_getElem hj1]
        repeat wtm_at "w"
        refine v_addT hpl ?_
        repeat wtm_at "w"
        refine v_ixLo (Int.natCast_nonneg j) (by omega) fun t' _ et => ?_
        rw [Int.toNat_natCast, List.getElem?_eq_getElem hj1] at et
        cases et
        repeat wtm_at "w"
        have h' := h
        unfold nextF at h'
        rw [es] at h'
        exact h'
      · rw [next_lst]
        repeat wtm_at "w"
        (refine w_kExt (xs := left'.map gatT) rfl (hx _ rfl) rfl ?_; exact fin _ rfl)
    | dct kvs =>
      obtain ⟨h8, ks, e, hkl⟩ := wo_dct wo
      repeat wtm_at "w"
      refine v_sortD e (by omega) ?_
      repeat wtm_at "w"
      refine lc_fun (env0 := [_, _, _, _, _, _, _, _]) rfl (by rw [List.length_map, (sortS_perm ks).length_eq]; omega) (fun _ => true) (nextF p (.dct kvs)) trivial (fun _ => rfl) (fun x _ Q h => h) (fun x hx' _ Q h => ?_) ?_
      · obtain ⟨k, hk, rfl⟩ := List.mem_map.mp hx'
        obtain ⟨u, eu⟩ := valT_some (strKeys_mem e k ((sortS_perm ks).mem_iff.mp hk))
        repeat wtm_at "w"
        refine v_addT hpl ?_
        repeat wtm_at "w"
        refine v_dget rfl eu ?_
        repeat wtm_at "w"
        have h' := h
        unfold nextF at h'
        rw [show step1 (.dct kvs) (.str k) = some u from eu] at h'
        exact h'
      · rw [next_dct e]
        repeat wtm_at "w"
        (refine w_kExt (xs := left'.map gatT) rfl (hx _ rfl) rfl ?_; exact fin _ rfl)
    | _ => first | exact wo.fine.elim | exact absurd wo.lo (by decide) | ((repeat wtm_at "w"); (refine w_kExt (xs := left'.map gatT) rfl (hx _ rfl) rfl ?_; exact fin _ rfl))
  · have e : left = [] := by
      cases left with
      | nil => rfl
      | cons _ _ => cases c
    subst e
    have e2 : found = gat 5 [] w := by rw [← hI.sum]; show found = found ++ []; rw [List.append_nil]
    subst e2
    repeat wtm_at "w"
    exact ⟨trivial, q⟩
end Pu

namespace Pu
open PySem PySem.Spec PyProof.Rows L2 He Hk
/-! ### how long the texts of a worth and of its walk may be -/
theorem listMax_ge : ∀ {ds : List Int} {d : Int}, d ∈ ds → d ≤ listMax ds
  | a :: r, d, h => by
    show d ≤ max a (listMax r)
    rcases List.mem_cons.mp h with rfl | h
    · exact Int.le_max_left _ _
    · exact Int.le_trans (listMax_ge h) (Int.le_max_right _ _)
theorem held_dp {t : T} {ts : List T} (w : Wo t) (h : heldT t = some ts) {x : T} (hx : x ∈ ts) : x.dp + 1 ≤ t.dp := by
  have e := wo_dp w h
  have := listMax_ge (List.mem_map_of_mem (f := T.dp) hx)
  omega
theorem okText_len {z : Str} (h : okText z = true) : z.length ≤ 40 := by
  unfold okText at h
  have := (Bool.and_eq_true_iff.mp h).1
  have := of_decide_eq_true this
  omega
theorem okWord_len {z : Str} (h : okWord z = true) : z.length ≤ 8 := by
  unfold okWord at h
  have := (Bool.and_eq_true_iff.mp (Bool.and_eq_true_iff.mp h).2).1
  have := of_decide_eq_true this
  omega
theorem okName_cost {k : Key} (h : okName k = true) : kCost k ≤ 82 := by
  cases k with
  | inl i => cases h
  | inr z => have := okWord_len h; show 10 * z.length + 2 ≤ 82; omega
theorem wcost_mono {m n : Nat} (h : m ≤ n) : wcost m ≤ wcost n := by
  induction h with
  | refl => exact Nat.le_refl _
  | @step n h ih =>
    refine Nat.le_trans ih ?_
    match n with
    | 0 => exact Nat.zero_le _
    | 1 => decide
    | n + 2 => show wcost (n + 2) ≤ 4 + 8 * (wcost (n + 2) + 86); omega
theorem wo_cost : ∀ (k : Nat) {t : T}, Wo t → t.dp ≤ k → t.cost ≤ wcost k
  | 0, t, w, h => by have := w.lo; omega
  | k + 1, t, w, h => by
    have h402 := wcost_ge (m := k + 1) (by omega)
    have hs : ∀ {ts : List T}, heldT t = some ts → ∀ x, x ∈ ts → 1 ≤ k ∧ x.cost ≤ wcost k := fun {ts} e x hx => by
      have h1 := held_dp w e hx
      have h2 := held_wo w e hx
      have := h2.1.lo
      exact ⟨by omega, wo_cost k h2.1 (by omega)⟩
    have hk1 : ∀ {ts : List T}, heldT t = some ts → ts ≠ [] → 4 + 8 * (wcost k + 86) ≤ wcost (k + 1) := fun {ts} e hn => by
      cases ts with
      | nil => exact absurd rfl hn
      | cons x r =>
        have := (hs e x (List.mem_cons_self ..)).1
        obtain ⟨j, rfl⟩ : ∃ j, k = j + 1 := ⟨k - 1, by omega⟩
        exact Nat.le_refl _
    cases t with
    | non => exact Nat.le_trans (show 5 ≤ 402 by decide) h402
    | bl b => exact Nat.le_trans (show 5 ≤ 402 by decide) h402
    | int i => exact Nat.le_trans (show 125 ≤ 402 by decide) h402
    | str z =>
      have lo : 1 ≤ if okText z then (1 : Int) else 0 := w.lo
      cases e : okText z with
      | false => rw [e] at lo; exact absurd lo (by decide)
      | true => have := okText_len e; show 10 * z.length + 2 ≤ _; omega
    | lst xs =>
      obtain ⟨h6, e⟩ := wo_lst w
      show 4 + T.costL xs ≤ _
      cases xs with
      | nil => show 4 + 0 ≤ _; omega
      | cons x r =>
        have h1 := costL_le (ts := x :: r) (c := wcost k) fun y hy => (hs e y hy).2
        have h2 := Nat.mul_le_mul_right (wcost k + 2) h6
        have h3 := hk1 e (fun z => by cases z)
        omega
    | dct kvs =>
      rcases wo_held w with ⟨z, _⟩ | ⟨ts, e⟩
      · exact absurd z (by unfold T.deep; omega)
      obtain ⟨e2, h8, hn⟩ := held_dct e
      show 4 + T.costK kvs ≤ _
      cases kvs with
      | nil => show 4 + 0 ≤ _; omega
      | cons x r =>
        have h1 := costK_le (ts := x :: r) (c := wcost k) (k := 82) fun kv hkv => ⟨(hs e kv.2 (by rw [e2]; exact List.mem_map_of_mem hkv)).2, okName_cost (by
          have := List.all_eq_true.mp hn (okName kv.1) (List.mem_map_of_mem (f := fun kv : Key × T => okName kv.1) hkv)
          exact this)⟩
        have h2 := Nat.mul_le_mul_right (wcost k + 82 + 4) h8
        have h3 := hk1 e (by rw [e2]; exact fun z => by cases z)
        omega
    | tup xs => exact absurd w.lo (by show ¬ (1 : Int) ≤ 0; decide)
    | _ => exact w.fine.elim
/-- a step is fine, and short -/
theorem step_fine {t : T} (w : Wo t) {s : T × T} (hs : s ∈ stepsL t) : s.1.Fine ∧ s.1.cost ≤ 125 ∧ s.1.deep = 0 := by
  cases t with
  | lst xs =>
    have h6 := (wo_lst w).1
    obtain ⟨j, h1, h2⟩ := enP_mem (show s ∈ enP 0 xs from hs)
    have hj := (List.getElem?_eq_some_iff.mp h2).1
    rw [h1]
    exact ⟨show ((0 + j : Nat) : Int).natAbs < 10 ^ 120 from Nat.lt_of_lt_of_le (show ((0 + j : Nat) : Int).natAbs < 6 by omega) (by decide +kernel), Nat.le_refl _, rfl⟩
  | dct kvs =>
    rcases wo_held w with ⟨z, _⟩ | ⟨ts, e⟩
    · exact absurd z (by unfold T.deep; omega)
    obtain ⟨e2, h8, hn⟩ := held_dct e
    obtain ⟨ks, ek, _⟩ := names_keys hn
    have hs' : s ∈ (namesOf kvs).map fun k => ((T.str k, (valT kvs (.inr k)).getD .non) : T × T) := hs
    obtain ⟨k, hk, rfl⟩ := List.mem_map.mp hs'
    unfold namesOf at hk
    rw [ek] at hk
    have hm := strKeys_mem ek k ((sortS_perm ks).mem_iff.mp hk)
    have f := fineK_keys (show T.FineK kvs from w.fine) hm
    obtain ⟨kv, hkv, ekv⟩ := List.mem_map.mp hm
    have on := List.all_eq_true.mp hn (okName kv.1) (List.mem_map_of_mem (f := fun kv : Key × T => okName kv.1) hkv)
    have c := okName_cost (k := kv.1) on
    rw [ekv] at c
    exact ⟨f, Nat.le_trans c (by decide), rfl⟩
  | _ => cases hs
def gcost : Nat → Nat
  | 0 => 0
  | k + 1 => wcost (k + 1) + 640 + 8 * gcost k
structure PathOk (p : List T) : Prop where
  ok : ∀ s, s ∈ p → s.Fine ∧ s.cost ≤ 125 ∧ s.deep = 0
theorem PathOk.snoc {p : List T} {s : T} (h : PathOk p) (hs : s.Fine ∧ s.cost ≤ 125 ∧ s.deep = 0) : PathOk (p ++ [s]) := ⟨fun x hx => by
  rcases List.mem_append.mp hx with h1 | h1
  · exact h.ok x h1
  · rw [show x = s by simpa using h1]; exact hs⟩
theorem costL_flat {α : Type} {f : α → List T} {c : Nat} : ∀ {xs : List α}, (∀ x, x ∈ xs → T.costL (f x) ≤ c) → T.costL (xs.flatMap f) ≤ xs.length * c
  | [], _ => by simp [T.costL]
  | x :: r, h => by
    rw [List.flatMap_cons, costL_app, List.length_cons, Nat.succ_mul]
    have h1 := h x (List.mem_cons_self ..)
    have h2 := costL_flat (xs := r) fun y hy => h y (List.mem_cons_of_mem _ hy)
    omega
theorem gat_cost : ∀ (k n : Nat) {p : List T} {t : T}, Wo t → t.dp ≤ k → PathOk p → p.length + k ≤ 4 + 1 → T.costL ((gat n p t).map gatT) ≤ gcost k ∧ ∀ q, q ∈ gat n p t → Wo q.2 ∧ q.2.dp ≤ k ∧ PathOk q.1 ∧ q.2.deep ≤ t.deep
  | 0, n, p, t, w, h, _, _ => by have := w.lo; omega
  | k + 1, n, p, t, w, h, hp, hl => by
    have c1 := wo_cost (k + 1) w h
    have c2 := costL_le (ts := p) (c := 125) fun s hs => (hp.ok s hs).2.1
    have e1 : T.costL [gatT (p, t)] ≤ wcost (k + 1) + 640 := by
      show (4 + ((4 + T.costL p) + 2 + (t.cost + 2 + 0))) + 2 + 0 ≤ _
      have := Nat.mul_le_mul_right (125 + 2) (show p.length ≤ 4 by omega)
      omega
    match n with
    | 0 =>
      refine ⟨?_, fun q hq => ?_⟩
      · show T.costL [gatT (p, t)] ≤ _
        unfold gcost; omega
      · have e : q = (p, t) := by simpa [gat] using hq
        subst e; exact ⟨w, h, hp, Nat.le_refl _⟩
    | n + 1 =>
      have sub : ∀ s, s ∈ stepsL t → s.2.dp ≤ k ∧ Wo s.2 ∧ s.2.deep < t.deep := fun s hs => by
        rcases wo_held w with ⟨_, z⟩ | ⟨ts, e⟩
        · rw [z] at hs; cases hs
        · obtain ⟨h1, h2⟩ := steps_in_held e hs
          have h3 := held_dp w e h1
          have h4 := held_wo w e h1
          exact ⟨by omega, h4⟩
      have rec' : ∀ s, s ∈ stepsL t → _ := fun s hs => gat_cost k n (p := p ++ [s.1]) (t := s.2) (sub s hs).2.1 (sub s hs).1 (hp.snoc (step_fine w hs)) (by rw [List.length_append]; show p.length + 1 + k ≤ 5; omega)
      refine ⟨?_, fun q hq => ?_⟩
      · show T.costL (((p, t) :: (stepsL t).flatMap fun s => gat n (p ++ [s.1]) s.2).map gatT) ≤ _
        rw [List.map_cons, List.map_flatMap]
        have h1 := costL_flat (f := fun s : T × T => (gat n (p ++ [s.1]) s.2).map gatT) (c := gcost k) (xs := stepsL t) fun s hs => (rec' s hs).1
        have h2 := Nat.mul_le_mul_right (gcost k) (steps_len w)
        rw [show ∀ (a : T) (r : List T), T.costL (a :: r) = T.costL [a] + T.costL r from fun a r => by show a.cost + 2 + T.costL r = (a.cost + 2 + 0) + T.costL r; omega]
        show _ ≤ wcost (k + 1) + 640 + 8 * gcost k
        omega
      · rcases List.mem_cons.mp hq with rfl | hq
        · exact ⟨w, h, hp, Nat.le_refl _⟩
        · obtain ⟨s, hs, hq⟩ := List.mem_flatMap.mp hq
          obtain ⟨a1, a2, a3, a4⟩ := (rec' s hs).2 q hq
          have := (sub s hs).2.2
          exact ⟨a1, by omega, a3, by omega⟩
structure W4 (w : T) : Prop where
  wo : WoD 5 w
  dp : w.dp ≤ 4
theorem W4.mem {w : T} (h : W4 w) {q : List T × T} (hq : q ∈ gat 5 [] w) : W4 q.2 ∧ PathOk q.1 ∧ follow w q.1 = some q.2 := by
  obtain ⟨a1, a2, a3, a4⟩ := (gat_cost 4 5 h.wo.1 h.dp ⟨fun s hs => absurd hs List.not_mem_nil⟩ (p := []) (by decide)).2 q hq
  exact ⟨⟨⟨a1, by have := h.wo.2; omega⟩, a2⟩, a3, (gat_follow 5 h.wo.1 rfl q hq).1⟩
theorem W4.shows {w : T} (h : W4 w) : Shows w := shows_of h.wo.1.fine (by have := h.wo.2; omega) (Nat.le_trans (wo_cost 4 h.wo.1 h.dp) (by decide))
theorem path_fine {p : List T} (h : PathOk p) : T.FineL p := fineL_of fun s hs => (h.ok s hs).1
theorem path_deep {p : List T} (h : PathOk p) : T.deepL p ≤ 0 := deepL_le fun s hs => Nat.le_of_eq (h.ok s hs).2.2
theorem W4.inner {w : T} (h : W4 w) : Shows (innerO w) := by
  have hc := (gat_cost 4 5 h.wo.1 h.dp ⟨fun s hs => absurd hs List.not_mem_nil⟩ (p := []) (by decide)).1
  have hm : ∀ t, t ∈ (gat 5 [] w).map gatT → t.Fine ∧ t.deep ≤ 6 := fun t ht => by
    obtain ⟨q, hq, rfl⟩ := List.mem_map.mp ht
    obtain ⟨a1, a2, _⟩ := h.mem hq
    refine ⟨⟨path_fine a2, a1.wo.1.fine, trivial⟩, ?_⟩
    show 1 + max (1 + T.deepL q.1) (max q.2.deep 0) ≤ 6
    have := path_deep a2
    have := a1.wo.2
    omega
  refine shows_of (fineL_of fun t ht => (hm t ht).1) ?_ ?_
  · show 1 + T.deepL _ ≤ 30
    have := deepL_le (ts := (gat 5 [] w).map gatT) (n := 6) fun t ht => (hm t ht).2
    omega
  · show 4 + T.costL _ ≤ _
    have : gcost 4 ≤ 15000000 := by decide
    omega
end Pu

namespace Pu
open PySem PySem.Spec PyProof.Rows L2 He Hk
local macro_rules | `(tactic| wtm_at "kb") => `(tactic| first | with_reducible exact kb_NoneType_int | with_reducible exact kb_NoneType_bool | with_reducible exact kb_NoneType_str | with_reducible exact kb_NoneType_list | with_reducible exact kb_NoneType_tuple | with_reducible exact kb_NoneType_dict | with_reducible exact kb_bool_int | with_reducible exact kb_bool_bool | with_reducible exact kb_bool_str | with_reducible exact kb_bool_list | with_reducible exact kb_bool_tuple | with_reducible exact kb_bool_dict | with_reducible exact kb_int_int | with_reducible exact kb_int_bool | with_reducible exact kb_int_str | with_reducible exact kb_int_list | with_reducible exact kb_int_tuple | with_reducible exact kb_int_dict | with_reducible exact kb_str_int | with_reducible exact kb_str_bool | with_reducible exact kb_str_str | with_reducible exact kb_str_list | with_reducible exact kb_str_tuple | with_reducible exact kb_str_dict | with_reducible exact kb_list_int | with_reducible exact kb_list_bool | with_reducible exact kb_list_str | with_reducible exact kb_list_list | with_reducible exact kb_list_tuple | with_reducible exact kb_list_dict | with_reducible exact kb_tuple_int | with_reducible exact kb_tuple_bool | with_reducible exact kb_tuple_str | with_reducible exact kb_tuple_list | with_reducible exact kb_tuple_tuple | with_reducible exact kb_tuple_dict | with_reducible exact kb_dict_int | with_reducible exact kb_dict_bool | with_reducible exact kb_dict_str | with_reducible exact kb_dict_list | with_reducible exact kb_dict_tuple | with_reducible exact kb_dict_dict)
local macro_rules | `(tactic| wtm_at "set") => `(tactic| ((try simp only [backE, reown, List.set_cons_zero, List.set_cons_succ, List.getElem?_cons_zero, List.getElem?_cons_succ]); rfl))
local macro_rules | `(tactic| wtm_at "side") => `(tactic| first | assumption | decide | omega)
local macro_rules | `(tactic| wtm_at "ln") => `(tactic| first | omega | exact len_one (by omega) | (refine len_cut ?_; wtm_at "ln") | (refine len_app ?_ ?_ <;> wtm_at "ln") | decide +kernel)
local macro_rules | `(tactic| wtm_at "size") => `(tactic| first | assumption | wtm_at "ln" | (refine Nat.le_trans (Nat.add_le_add (b := 8000000) (d := 8000000) ?_ ?_) (by decide) <;> wtm_at "ln"))
local macro_rules | `(tactic| wtm_at "w") => `(tactic| (first
  | (with_reducible refine w_op ?_)
  | (with_reducible refine w_cons ?_)
  | ((with_reducible refine' w_consV ?e1 ?_); (case e1 => exact trivial);)
  | (with_reducible refine w_c ?_)
  | (with_reducible refine w_nil ?_)
  | ((with_reducible refine' w_kO ?e1 ?_); (case e1 => rfl);)
  | ((with_reducible refine' w_var ?e1 ?_); (case e1 => rfl);)
  | (with_reducible refine w_seq ?_)
  | (with_reducible refine w_asg ?_)
  | ((with_reducible refine' w_name ?e1 ?e2 ?_); (case e1 => exact trivial); (case e2 => wtm_at "set");)
  | (with_reducible refine w_if ?_)
  | (with_reducible refine w_test ?_)
  | (with_reducible refine w_kB ?_)
  | (with_reducible refine w_call ?_)
  | ((with_reducible refine' w_kC ?e1 ?e2 ?_); (case e1 => rfl); (case e2 => rfl);)
  | ((with_reducible refine' w_kBk ?e1 ?_); (case e1 => wtm_at "set");)
  | (with_reducible refine w_ret ?_)
  | (with_reducible refine iteT' ?_)
  | (with_reducible refine iteF' ?_)
  | (with_reducible refine w_and ?_)
  | (with_reducible refine w_or ?_)
  | (with_reducible refine w_not ?_)
  | (with_reducible refine w_next ?_)
  | ((with_reducible refine' v_ixL ?e1 ?_); (case e1 => rfl);)
  | (with_reducible refine v_addI ?_)
  | ((with_reducible refine' v_eq ?e1 ?_); (case e1 => rfl);)
  | (with_reducible refine w_lst ?_)
  | ((with_reducible refine' w_kV2 ?e1 ?e2 ?_); (case e1 => rfl); (case e2 => exact Nat.le_of_ble_eq_true rfl);)
  | (with_reducible refine w_own ?_)
  | (with_reducible refine w_drop ?_)
  | (with_reducible refine w_andV ?_)
  | (with_reducible refine w_orV ?_)
  | (with_reducible refine w_notV ?_)
  | (with_reducible refine w_ifE ?_)
  | (with_reducible refine w_chain ?_)
  | (with_reducible refine w_yes ?_)
  | (with_reducible refine w_tup ?_)
  | (with_reducible refine w_dnew ?_)
  | (with_reducible refine w_disp ?_)
  | (with_reducible refine w_pnil ?_)
  | (with_reducible refine w_pcons ?_)
  | (with_reducible refine w_sl ?_)
  | (with_reducible refine w_noPart ?_)
  | (with_reducible refine w_part ?_)
  | (with_reducible refine w_kI ?_)
  | (with_reducible refine w_m ?_)
  | (with_reducible refine w_kM ?_)
  | (with_reducible refine w_piList ?_)
  | (with_reducible refine w_kL ?_)
  | (with_reducible refine w_piTup ?_)
  | (with_reducible refine w_kTu ?_)
  | (with_reducible refine w_piStr ?_)
  | (with_reducible refine w_kSt ?_)
  | (with_reducible refine w_piRng1 ?_)
  | (with_reducible refine w_piRng2 ?_)
  | (with_reducible refine w_piD ?_)
  | (with_reducible refine w_kD ?_)
  | (with_reducible refine w_for ?_)
  | (with_reducible refine w_lc ?_)
  | (with_reducible refine v_sub ?_)
  | (with_reducible refine v_neg ?_)
  | (with_reducible refine v_le ?_)
  | (with_reducible refine v_gt ?_)
  | (with_reducible refine v_ge ?_)
  | (with_reducible refine v_lt ?_)
  | (with_reducible refine v_ltS ?_)
  | (with_reducible refine v_inS ?_)
  | (with_reducible refine v_notInS ?_)
  | (with_reducible refine v_lenL ?_)
  | (with_reducible refine v_lenT ?_)
  | (with_reducible refine v_lenD ?_)
  | (with_reducible refine v_lenC ?_)
  | (with_reducible refine v_max2 ?_)
  | (with_reducible refine v_min2 ?_)
  | (with_reducible refine v_listD ?_)
  | (with_reducible refine v_listV ?_)
  | (with_reducible refine v_dictD ?_)
  | (with_reducible refine v_tupleL ?_)
  | (with_reducible refine v_tupleT ?_)
  | (with_reducible refine v_int1 ?_)
  | (with_reducible refine v_int2 ?_)
  | (with_reducible refine v_isN ?_)
  | (with_reducible refine v_notN ?_)
  | (with_reducible refine v_slL ?_)
  | (with_reducible refine v_slT ?_)
  | ((with_reducible refine' w_varO ?e1 ?e2 ?_); (case e1 => rfl); (case e2 => wtm_at "set");)
  | ((with_reducible refine' w_kMO ?e1 ?_); (case e1 => rfl);)
  | ((with_reducible refine' w_kOwn ?e1 ?_); (case e1 => exact trivial); (intro p' env' ee'; simp only [List.set_cons_zero, List.set_cons_succ] at ee'; subst ee'))
  | ((with_reducible refine' w_kDs ?e1 ?e2 ?_); (case e1 => rfl); (case e2 => exact Nat.le_of_ble_eq_true rfl);)
  | ((with_reducible refine' w_slV ?e1 ?_); (case e1 => exact trivial);)
  | ((with_reducible refine' w_kSl ?e1 ?_); (case e1 => rfl);)
  | ((with_reducible refine' w_setL ?e1 ?_); (case e1 => exact trivial);)
  | ((with_reducible refine' w_setD ?e1 ?_); (case e1 => exact trivial);)
  | ((with_reducible refine' w_kSetL ?e1 ?e2 ?e3 ?_); (case e1 => rfl); (case e2 => rfl); (case e3 => wtm_at "set");)
  | ((with_reducible refine' w_kSetD ?e1 ?e2 ?e3 ?e4 ?_); (case e1 => rfl); (case e2 => wtm_at "side"); (case e3 => rfl); (case e4 => wtm_at "set");)
  | ((with_reducible refine' w_append ?e1 ?_); (case e1 => rfl);)
  | ((with_reducible refine' w_kApp ?e1 ?e2 ?e3 ?_); (case e1 => rfl); (case e2 => wtm_at "side"); (case e3 => wtm_at "set");)
  | ((with_reducible refine' w_kR1 ?e1 ?_); (case e1 => omega);)
  | ((with_reducible refine' w_kR2 ?e1 ?_); (case e1 => omega);)
  | ((with_reducible refine' iteTrue ?e1 ?_); (case e1 => rfl);)
  | ((with_reducible refine' iteFalse ?e1 ?_); (case e1 => rfl);)
  | ((with_reducible refine' v_mod ?e1 ?_); (case e1 => wtm_at "side");)
  | ((with_reducible refine' v_mulI ?e1 ?_); (case e1 => first | exact s_mul (by omega) (by omega) | (unfold CMulW; decide +kernel));)
  | ((with_reducible refine' v_div ?e1 ?_); (case e1 => omega);)
  | ((with_reducible refine' v_powE ?e1 ?e2 ?_); (case e1 => first | decide | (refine ⟨by decide, by decide, ?_, ?_⟩ <;> omega)); (case e2 => ((try simp only [Int.reduceToNat, Int.reducePow]); rfl)))
  | ((with_reducible refine' v_ne ?e1 ?_); (case e1 => rfl);)
  | ((with_reducible refine' v_ixT ?e1 ?_); (case e1 => rfl);)
  | ((with_reducible refine' v_isi ?e1 ?e2 ?_); (case e1 => rfl); (case e2 => wtm_at "kb");)
  | ((with_reducible refine' v_lenS ?e1 ?_); (case e1 => wtm_at "size");)
  | ((with_reducible refine' v_addS ?e1 ?_); (case e1 => wtm_at "size");)
  | ((with_reducible refine' v_slS ?e1 ?_); (case e1 => wtm_at "size");)
  | ((with_reducible refine' v_ixS ?e1 ?e2 ?e3 ?_); (case e1 => wtm_at "size"); (case e2 => omega); (case e3 => first | omega | (simp only [show _ = _ from by assumption]; omega)); intro c' hc' hc2)
  | (with_reducible refine w_ml ?_)
  | (with_reducible refine w_kML ?_)
  | ((with_reducible refine' w_kMLO ?e1 ?_); (case e1 => rfl);)
  | (with_reducible refine w_callN ?_)
  | (with_reducible refine v_rev ?_)
  | (with_reducible refine v_listEn ?_)
  | (with_reducible refine v_ixAd ?_)
  | (with_reducible refine v_ixAl ?_)
  | (with_reducible refine v_ixAt ?_)
  | ((with_reducible refine' v_inAd ?e1 ?_); (case e1 => rfl);)
  | ((with_reducible refine' w_extend ?e1 ?_); (case e1 => rfl);)
  | ((with_reducible refine' w_kExt ?e1 ?e2 ?e3 ?_); (case e1 => rfl); (case e2 => wtm_at "side"); (case e3 => wtm_at "set");)))
def ps_aright : PSp := fun sl P => ∃ w : T, sl = [.val w, .val (innerO w)] ∧ W4 w ∧ P (.bl true) [.val w, .val (innerO w)]
theorem u_aright {w : T} {P : T → List Slot → Prop} (h : W4 w) (q : P (.bl true) [.val w, .val (innerO w)]) : ps_aright [.val w, .val (innerO w)] P := ⟨w, rfl, h, q⟩
theorem eqS_self {z : Str} : eqS (.str z) (.str z) = some true := by show some (decide (z = z)) = _; rw [decide_eq_true rfl]
theorem pure_aright : ∀ sl P, ps_aright sl P → p__law_at_right ps_at ps_at (pdOf false sl P) (sl ++ nones 2) := by
  rintro sl P ⟨w, rfl, f, q⟩
  show p__law_at_right _ _ _ [_, _, _, _]
  unfold p__law_at_right
  refine w_seq (w_for (w_piList (w_var rfl (w_kL ?_))))
  refine for_inv (fun i env => ∃ s2 s3, env = [.val w, .val (innerO w), s2, s3] ∧ noRef env 2 ∧ noRef env 3) ⟨_, _, rfl, trivial, trivial⟩ ?_ ?_
  · rintro env ⟨s2, s3, rfl, _, _⟩
    repeat wtm_at "w"
    exact ⟨trivial, q⟩
  · rintro i x env N hx ⟨s2, s3, rfl, n2, n3⟩ hN
    rw [List.getElem?_map] at hx
    cases es : (gat 5 [] w)[i]? with
    | none => rw [es] at hx; cases hx
    | some s =>
      rw [es] at hx; cases hx
      obtain ⟨a1, a2, a3⟩ := f.mem (List.mem_of_getElem? es)
      refine w_tup2 n2 n3 rfl ?_
      repeat wtm_at "w"
      refine u_at f.wo a3 ?_
      repeat wtm_at "w"
      refine v_repr a1.shows ?_
      repeat wtm_at "w"
      refine v_repr a1.shows ?_
      repeat wtm_at "w"
      refine iteFalse (by simp) ?_
      repeat wtm_at "w"
      refine u_at f.wo a3 ?_
      repeat wtm_at "w"
      refine v_repr a1.shows ?_
      repeat wtm_at "w"
      refine v_repr a1.shows ?_
      repeat wtm_at "w"
      refine iteFalse (by simp) ?_
      repeat wtm_at "w"
      exact hN _ ⟨_, _, rfl, trivial, trivial⟩
end Pu

namespace Pu
open PySem PySem.Spec PyProof.Rows L2 He Hk
local macro_rules | `(tactic| wtm_at "kb") => `(tactic| first | with_reducible exact kb_NoneType_int | with_reducible exact kb_NoneType_bool | with_reducible exact kb_NoneType_str | with_reducible exact kb_NoneType_list | with_reducible exact kb_NoneType_tuple | with_reducible exact kb_NoneType_dict | with_reducible exact kb_bool_int | with_reducible exact kb_bool_bool | with_reducible exact kb_bool_str | with_reducible exact kb_bool_list | with_reducible exact kb_bool_tuple | with_reducible exact kb_bool_dict | with_reducible exact kb_int_int | with_reducible exact kb_int_bool | with_reducible exact kb_int_str | with_reducible exact kb_int_list | with_reducible exact kb_int_tuple | with_reducible exact kb_int_dict | with_reducible exact kb_str_int | with_reducible exact kb_str_bool | with_reducible exact kb_str_str | with_reducible exact kb_str_list | with_reducible exact kb_str_tuple | with_reducible exact kb_str_dict | with_reducible exact kb_list_int | with_reducible exact kb_list_bool | with_reducible exact kb_list_str | with_reducible exact kb_list_list | with_reducible exact kb_list_tuple | with_reducible exact kb_list_dict | with_reducible exact kb_tuple_int | with_reducible exact kb_tuple_bool | with_reducible exact kb_tuple_str | with_reducible exact kb_tuple_list | with_reducible exact kb_tuple_tuple | with_reducible exact kb_tuple_dict | with_reducible exact kb_dict_int | with_reducible exact kb_dict_bool | with_reducible exact kb_dict_str | with_reducible exact kb_dict_list | with_reducible exact kb_dict_tuple | with_reducible exact kb_dict_dict)
local macro_rules | `(tactic| wtm_at "set") => `(tactic| ((try simp only [backE, reown, List.set_cons_zero, List.set_cons_succ, List.getElem?_cons_zero, List.getElem?_cons_succ]); rfl))
local macro_rules | `(tactic| wtm_at "side") => `(tactic| first | assumption | decide | omega)
local macro_rules | `(tactic| wtm_at "ln") => `(tactic| first | omega | exact len_one (by omega) | (refine len_cut ?_; wtm_at "ln") | (refine len_app ?_ ?_ <;> wtm_at "ln") | decide +kernel)
local macro_rules | `(tactic| wtm_at "size") => `(tactic| first | assumption | wtm_at "ln" | (refine Nat.le_trans (Nat.add_le_add (b := 8000000) (d := 8000000) ?_ ?_) (by decide) <;> wtm_at "ln"))
local macro_rules | `(tactic| wtm_at "w") => `(tactic| (first
  | (with_reducible refine w_op ?_)
  | (with_reducible refine w_cons ?_)
  | ((with_reducible refine' w_consV ?e1 ?_); (case e1 => exact trivial);)
  | (with_reducible refine w_c ?_)
  | (with_reducible refine w_nil ?_)
  | ((with_reducible refine' w_kO ?e1 ?_); (case e1 => rfl);)
  | ((with_reducible refine' w_var ?e1 ?_); (case e1 => rfl);)
  | (with_reducible refine w_seq ?_)
  | (with_reducible refine w_asg ?_)
  | ((with_reducible refine' w_name ?e1 ?e2 ?_); (case e1 => exact trivial); (case e2 => wtm_at "set");)
  | (with_reducible refine w_if ?_)
  | (with_reducible refine w_test ?_)
  | (with_reducible refine w_kB ?_)
  | (with_reducible refine w_call ?_)
  | ((with_reducible refine' w_kC ?e1 ?e2 ?_); (case e1 => rfl); (case e2 => rfl);)
  | ((with_reducible refine' w_kBk ?e1 ?_); (case e1 => wtm_at "set");)
  | (with_reducible refine w_ret ?_)
  | (with_reducible refine iteT' ?_)
  | (with_reducible refine iteF' ?_)
  | (with_reducible refine w_and ?_)
  | (with_reducible refine w_or ?_)
  | (with_reducible refine w_not ?_)
  | (with_reducible refine w_next ?_)
  | ((with_reducible refine' v_ixL ?e1 ?_); (case e1 => rfl);)
  | (with_reducible refine v_addI ?_)
  | ((with_reducible refine' v_eq ?e1 ?_); (case e1 => rfl);)
  | (with_reducible refine w_lst ?_)
  | ((with_reducible refine' w_kV2 ?e1 ?e2 ?_); (case e1 => rfl); (case e2 => exact Nat.le_of_ble_eq_true rfl);)
  | (with_reducible refine w_own ?_)
  | (with_reducible refine w_drop ?_)
  | (with_reducible refine w_andV ?_)
  | (with_reducible refine w_orV ?_)
  | (with_reducible refine w_notV ?_)
  | (with_reducible refine w_ifE ?_)
  | (with_reducible refine w_chain ?_)
  | (with_reducible refine w_yes ?_)
  | (with_reducible refine w_tup ?_)
  | (with_reducible refine w_dnew ?_)
  | (with_reducible refine w_disp ?_)
  | (with_reducible refine w_pnil ?_)
  | (with_reducible refine w_pcons ?_)
  | (with_reducible refine w_sl ?_)
  | (with_reducible refine w_noPart ?_)
  | (with_reducible refine w_part ?_)
  | (with_reducible refine w_kI ?_)
  | (with_reducible refine w_m ?_)
  | (with_reducible refine w_kM ?_)
  | (with_reducible refine w_piList ?_)
  | (with_reducible refine w_kL ?_)
  | (with_reducible refine w_piTup ?_)
  | (with_reducible refine w_kTu ?_)
  | (with_reducible refine w_piStr ?_)
  | (with_reducible refine w_kSt ?_)
  | (with_reducible refine w_piRng1 ?_)
  | (with_reducible refine w_piRng2 ?_)
  | (with_reducible refine w_piD ?_)
  | (with_reducible refine w_kD ?_)
  | (with_reducible refine w_for ?_)
  | (with_reducible refine w_lc ?_)
  | (with_reducible refine v_sub ?_)
  | (with_reducible refine v_neg ?_)
  | (with_reducible refine v_le ?_)
  | (with_reducible refine v_gt ?_)
  | (with_reducible refine v_ge ?_)
  | (with_reducible refine v_lt ?_)
  | (with_reducible refine v_ltS ?_)
  | (with_reducible refine v_inS ?_)
  | (with_reducible refine v_notInS ?_)
  | (with_reducible refine v_lenL ?_)
  | (with_reducible refine v_lenT ?_)
  | (with_reducible refine v_lenD ?_)
  | (with_reducible refine v_lenC ?_)
  | (with_reducible refine v_max2 ?_)
  | (with_reducible refine v_min2 ?_)
  | (with_reducible refine v_listD ?_)
  | (with_reducible refine v_listV ?_)
  | (with_reducible refine v_dictD ?_)
  | (with_reducible refine v_tupleL ?_)
  | (with_reducible refine v_tupleT ?_)
  | (with_reducible refine v_int1 ?_)
  | (with_reducible refine v_int2 ?_)
  | (with_reducible refine v_isN ?_)
  | (with_reducible refine v_notN ?_)
  | (with_reducible refine v_slL ?_)
  | (with_reducible refine v_slT ?_)
  | ((with_reducible refine' w_varO ?e1 ?e2 ?_); (case e1 => rfl); (case e2 => wtm_at "set");)
  | ((with_reducible refine' w_kMO ?e1 ?_); (case e1 => rfl);)
  | ((with_reducible refine' w_kOwn ?e1 ?_); (case e1 => exact trivial); (intro p' env' ee'; simp only [List.set_cons_zero, List.set_cons_succ] at ee'; subst ee'))
  | ((with_reducible refine' w_kDs ?e1 ?e2 ?_); (case e1 => rfl); (case e2 => exact Nat.le_of_ble_eq_true rfl);)
  | ((with_reducible refine' w_slV ?e1 ?_); (case e1 => exact trivial);)
  | ((with_reducible refine' w_kSl ?e1 ?_); (case e1 => rfl);)
  | ((with_reducible refine' w_setL ?e1 ?_); (case e1 => exact trivial);)
  | ((with_reducible refine' w_setD ?e1 ?_); (case e1 => exact trivial);)
  | ((with_reducible refine' w_kSetL ?e1 ?e2 ?e3 ?_); (case e1 => rfl); (case e2 => rfl); (case e3 => wtm_at "set");)
  | ((with_reducible refine' w_kSetD ?e1 ?e2 ?e3 ?e4 ?_); (case e1 => rfl); (case e2 => wtm_at "side"); (case e3 => rfl); (case e4 => wtm_at "set");)
  | ((with_reducible refine' w_append ?e1 ?_); (case e1 => rfl);)
  | ((with_reducible refine' w_kApp ?e1 ?e2 ?e3 ?_); (case e1 => rfl); (case e2 => wtm_at "side"); (case e3 => wtm_at "set");)
  | ((with_reducible refine' w_kR1 ?e1 ?_); (case e1 => omega);)
  | ((with_reducible refine' w_kR2 ?e1 ?_); (case e1 => omega);)
  | ((with_reducible refine' iteTrue ?e1 ?_); (case e1 => rfl);)
  | ((with_reducible refine' iteFalse ?e1 ?_); (case e1 => rfl);)
  | ((with_reducible refine' v_mod ?e1 ?_); (case e1 => wtm_at "side");)
  | ((with_reducible refine' v_mulI ?e1 ?_); (case e1 => first | exact s_mul (by omega) (by omega) | (unfold CMulW; decide +kernel));)
  | ((with_reducible refine' v_div ?e1 ?_); (case e1 => omega);)
  | ((with_reducible refine' v_powE ?e1 ?e2 ?_); (case e1 => first | decide | (refine ⟨by decide, by decide, ?_, ?_⟩ <;> omega)); (case e2 => ((try simp only [Int.reduceToNat, Int.reducePow]); rfl)))
  | ((with_reducible refine' v_ne ?e1 ?_); (case e1 => rfl);)
  | ((with_reducible refine' v_ixT ?e1 ?_); (case e1 => rfl);)
  | ((with_reducible refine' v_isi ?e1 ?e2 ?_); (case e1 => rfl); (case e2 => wtm_at "kb");)
  | ((with_reducible refine' v_lenS ?e1 ?_); (case e1 => wtm_at "size");)
  | ((with_reducible refine' v_addS ?e1 ?_); (case e1 => wtm_at "size");)
  | ((with_reducible refine' v_slS ?e1 ?_); (case e1 => wtm_at "size");)
  | ((with_reducible refine' v_ixS ?e1 ?e2 ?e3 ?_); (case e1 => wtm_at "size"); (case e2 => omega); (case e3 => first | omega | (simp only [show _ = _ from by assumption]; omega)); intro c' hc' hc2)
  | (with_reducible refine w_ml ?_)
  | (with_reducible refine w_kML ?_)
  | ((with_reducible refine' w_kMLO ?e1 ?_); (case e1 => rfl);)
  | (with_reducible refine w_callN ?_)
  | (with_reducible refine v_rev ?_)
  | (with_reducible refine v_listEn ?_)
  | (with_reducible refine v_ixAd ?_)
  | (with_reducible refine v_ixAl ?_)
  | (with_reducible refine v_ixAt ?_)
  | ((with_reducible refine' v_inAd ?e1 ?_); (case e1 => rfl);)
  | ((with_reducible refine' w_extend ?e1 ?_); (case e1 => rfl);)
  | ((with_reducible refine' w_kExt ?e1 ?e2 ?e3 ?_); (case e1 => rfl); (case e2 => wtm_at "side"); (case e3 => wtm_at "set");)))
local macro_rules | `(tactic| wtm_at "u") => `(tactic| first
  | ((with_reducible refine' u_take ?s1 ?s2 ?s3 ?s4 ?_); (case s1 => assumption); (case s2 => omega); (case s3 => omega); (case s4 => omega); intro r' t' hr0 hr1 bx))
theorem pow4 : ∀ {m : Nat}, m ≤ 4 → 20 ^ m ≤ 160000
  | 0, _ => by decide
  | 1, _ => by decide
  | 2, _ => by decide
  | 3, _ => by decide
  | 4, _ => by decide
  | m + 5, h => absurd h (by omega)
def ps_case : PSp := fun sl P => ∃ (b : Addr) (t : T), sl = [.ref b t] ∧ BoxT t 0 ∧ ∀ t', P (.bl true) [.ref b t']
theorem u_case {b : Addr} {t : T} {P : T → List Slot → Prop} (h : BoxT t 0) (q : ∀ t', P (.bl true) [.ref b t']) : ps_case [.ref b t] P := ⟨b, t, rfl, h, q⟩
theorem W4.of {m : Nat} {t : T} (h : Wth m (wcost m) t) (hm : m ≤ 4) : W4 t := ⟨⟨h.wo, by have := h.deep; omega⟩, by have := h.hi; omega⟩
theorem dp_shows {t : T} (h : W4 t) : Shows (.int t.dp) := shows_of (show t.dp.natAbs < 10 ^ 120 from Nat.lt_of_lt_of_le (show t.dp.natAbs < 5 by have := h.wo.1.lo; have := h.dp; omega) (by decide +kernel)) (by show 0 ≤ 30; decide) (by show 125 ≤ 16000000; decide)
theorem pure_case : ∀ sl P, ps_case sl P → p__law_case ps_take (ps_worth 4) ps_walk ps_aright (psF (WoD 5) innerO) (psF (WoD 5) (fun t => .str (sortW t))) (psF (fun t => Wo t) (fun t => .str (sortW t))) (psF (WoD 5) (fun t => .int t.dp)) (psD 5) (pdOf false sl P) (sl ++ nones 6) := by
  rintro sl P ⟨b, t, rfl, hb, q⟩
  show p__law_case _ _ _ _ _ _ _ _ _ _ [_, _, _, _, _, _, _]
  unfold p__law_case
  repeat (first | wtm_at "w" | wtm_at "u")
  rename_i r1 t1 hr10 hr11 bx1 r2 t2 hr20 hr21 bx2
  obtain ⟨k, rfl⟩ : ∃ k : Nat, r2 = k := ⟨r2.toNat, by omega⟩
  rw [show (1 : Int) + (k : Int) = ((k + 1 : Nat) : Int) from by omega]
  have hp4 := pow4 (m := k + 1) (by omega)
  refine u_worth bx2 (by omega) (by omega) (by omega) (by omega) fun w t3 hw bx3 => ?_
  have w4 := W4.of hw (by omega)
  repeat (first | wtm_at "w" | wtm_at "u")
  refine u_F w4.wo ?_
  repeat (first | wtm_at "w" | wtm_at "u")
  refine iteB (fun c => ?a) (fun c => ?b)
  case' a =>
    repeat (first | wtm_at "w" | wtm_at "u")
    refine u_aright w4 ?_
    repeat (first | wtm_at "w" | wtm_at "u")
  case' b =>
    repeat (first | wtm_at "w" | wtm_at "u")
  all_goals
    refine u_F w4.wo ?_
    repeat (first | wtm_at "w" | wtm_at "u")
    refine v_repr w4.inner ?_
    repeat (first | wtm_at "w" | wtm_at "u")
    refine v_repr w4.inner ?_
    repeat (first | wtm_at "w" | wtm_at "u")
    refine iteFalse (by simp) ?_
    repeat (first | wtm_at "w" | wtm_at "u")
    refine u_aright w4 ?_
    repeat (first | wtm_at "w" | wtm_at "u")
    refine v_slL ?_
    repeat (first | wtm_at "w" | wtm_at "u")
    refine for_inv (fun i env => ∃ s5 s6, env = [.ref b t3, .val (.int r1), .val w, .val (innerO w), .val (innerO w), s5, s6] ∧ noRef env 5 ∧ noRef env 6) ⟨_, _, rfl, trivial, trivial⟩ ?_ ?_
    · rintro env ⟨s5, s6, rfl, _, _⟩
      repeat (first | wtm_at "w" | wtm_at "u")
      refine u_F w4.wo ?_
      repeat (first | wtm_at "w" | wtm_at "u")
      refine v_repr w4.inner ?_
      repeat (first | wtm_at "w" | wtm_at "u")
      refine v_repr w4.inner ?_
      repeat (first | wtm_at "w" | wtm_at "u")
      rw [decide_eq_true rfl]
      exact ⟨⟨rfl, trivial⟩, q _⟩
    · rintro i x env N hx ⟨s5, s6, rfl, n5, n6⟩ hN
      have hm : x ∈ (gat 5 [] w).map gatT := List.mem_of_mem_drop (List.mem_of_mem_take (List.mem_of_getElem? hx))
      obtain ⟨s, hs, rfl⟩ := List.mem_map.mp hm
      obtain ⟨a1, a2, a3⟩ := w4.mem hs
      refine w_tup2 n5 n6 rfl ?_
      repeat (first | wtm_at "w" | wtm_at "u")
      refine u_F a1.wo ?_
      repeat (first | wtm_at "w" | wtm_at "u")
      refine u_F a1.wo.1 ?_
      repeat (first | wtm_at "w" | wtm_at "u")
      refine iteFalse (by simp) ?_
      repeat (first | wtm_at "w" | wtm_at "u")
      refine u_F a1.wo ?_
      repeat (first | wtm_at "w" | wtm_at "u")
      refine v_repr (dp_shows a1) ?_
      repeat (first | wtm_at "w" | wtm_at "u")
      refine u_F a1.wo ?_
      repeat (first | wtm_at "w" | wtm_at "u")
      refine v_repr (dp_shows a1) ?_
      repeat (first | wtm_at "w" | wtm_at "u")
      refine iteFalse (by simp) ?_
      repeat (first | wtm_at "w" | wtm_at "u")
      exact hN _ ⟨_, _, rfl, trivial, trivial⟩
def ps_law : PSp := fun sl P => ∃ ns : List Int, sl = [.val (.scr ns)] ∧ P (.bl true) [.val (.scr ns)]
theorem pure_law : ∀ sl P, ps_law sl P → p_law ps_case ps_box ps_cell (pdOf false sl P) (sl ++ nones 1) := by
  rintro sl P ⟨ns, rfl, q⟩
  show p_law _ _ _ _ [_, _]
  unfold p_law
  repeat (first | wtm_at "w" | wtm_at "u")
  have hcnt : (if (if (ns.length : Int) < 8 then (ns.length : Int) else 8) > 2 then (if (ns.length : Int) < 8 then (ns.length : Int) else 8) else 2).toNat ≤ 8 := by split <;> (try split) <;> omega
  generalize (if (if (ns.length : Int) < 8 then (ns.length : Int) else 8) > 2 then (if (ns.length : Int) < 8 then (ns.length : Int) else 8) else 2).toNat = cnt at hcnt
  refine for_inv (fun i env => ∃ s1, env = [.val (.scr ns), s1] ∧ noRef env 1) ⟨_, rfl, trivial⟩ ?_ ?_
  · rintro env ⟨s1, rfl, _⟩
    repeat (first | wtm_at "w" | wtm_at "u")
    exact ⟨trivial, q⟩
  · rintro i x env N hx ⟨s1, rfl, n1⟩ hN
    obtain ⟨hi, rfl⟩ := rng_get hx
    refine w_name n1 rfl ?_
    repeat (first | wtm_at "w" | wtm_at "u")
    refine u_cell (by omega) (by omega) fun c => ?_
    repeat (first | wtm_at "w" | wtm_at "u")
    refine u_box fun bt hbt => ?_
    repeat (first | wtm_at "w" | wtm_at "u")
    intro p
    refine u_case hbt fun t' => ?_
    repeat (first | wtm_at "w" | wtm_at "u")
    exact hN _ ⟨_, rfl, trivial⟩
end Pu

namespace Pu
open PySem PySem.Spec PyProof.Rows L2 He Hk
theorem no_C {sl : List Slot} {P : T → List Slot → Prop} (h : psC 0 sl P) : False := by obtain ⟨_, _, f, _⟩ := h; exact absurd f.2 (by omega)
theorem no_D {sl : List Slot} {P : T → List Slot → Prop} (h : psD 0 sl P) : False := by obtain ⟨_, _, f, _⟩ := h; exact absurd f.2 (by omega)
theorem no_G {sl : List Slot} {P : T → List Slot → Prop} (h : psG 0 sl P) : False := by obtain ⟨_, _, _, f, _⟩ := h; exact absurd f.2 (by omega)
theorem no_N {g : T → Int} {sl : List Slot} {P : T → List Slot → Prop} (h : psN 0 g sl P) : False := by
  obtain ⟨t, _, ⟨_, h⟩, _⟩ := h
  exact Nat.not_lt_zero _ h
theorem no_worth {sl : List Slot} {P : T → List Slot → Prop} (h : ps_worth 0 sl P) : False := by
  obtain ⟨b, t, m, n, _, _, h1, h2, _⟩ := h
  omega
end Pu

namespace Pu
open PySem PySem.Spec PyProof.Rows L2 He Hk
theorem rf_is_whole {K : PySem.W.Frag}  : RefS K false (t_is_whole K) (p_is_whole) := by
  unfold t_is_whole p_is_whole
  exact (rf_ret (rf_andV (rf_cb ok_isi (rfa_var (rfa_cons rf_ty rfa_nil))) (rf_notV (rf_cb ok_isi (rfa_var (rfa_cons rf_ty rfa_nil))))))

theorem rf_is_name {K : PySem.W.Frag}  : RefS K false (t_is_name K) (p_is_name) := by
  unfold t_is_name p_is_name
  exact (rf_seq (rf_if (rf_or (rf_not (rf_tB (rf_cb ok_isi (rfa_var (rfa_cons rf_ty rfa_nil))))) (rf_not (rf_test (rf_chain ok_le ok_le rf_int (rf_cb ok_len (rfa_var rfa_nil)) rf_int)))) (rf_ret rf_bl) rf_next)
    (rf_ret (rf_cb ok_all (rfa_cons (RefF.e (rf_lc (rfi_str rf_var) (rfgw_name (by decide)) rf_yes (rf_op2 ok_in (rfa_var (rfa_cons rf_str rfa_nil))))) rfa_nil))))

theorem rf_is_number {K : PySem.W.Frag} {ps_is_whole : PSp} : RefS K false (t_is_number K (spP K false ps_is_whole)) (p_is_number ps_is_whole) := by
  unfold t_is_number p_is_number
  exact (rf_ret (rf_andV (rf_call (rfa_cons rf_var rfa_nil)) (rf_chain ok_lt ok_lt (rf_un ok_neg (rfa_cons rf_int rfa_nil)) rf_var rf_int)))

theorem rf_is_text {K : PySem.W.Frag}  : RefS K false (t_is_text K) (p_is_text) := by
  unfold t_is_text p_is_text
  exact (rf_seq (rf_if (rf_or (rf_not (rf_tB (rf_cb ok_isi (rfa_var (rfa_cons rf_ty rfa_nil))))) (rf_test (rf_op2 ok_gt (rfa_cons (rf_cb ok_len (rfa_var rfa_nil)) (rfa_cons rf_int rfa_nil))))) (rf_ret rf_bl) rf_next)
    (rf_ret (rf_cb ok_all (rfa_cons (RefF.e (rf_lc (rfi_str rf_var) (rfgw_name (by decide)) rf_yes (rf_op2 ok_in (rfa_var (rfa_cons rf_str rfa_nil))))) rfa_nil))))

theorem rf_held_in {K : PySem.W.Frag} {ps_is_name : PSp} : RefS K false (t_held_in K (spP K false ps_is_name)) (p_held_in ps_is_name) := by
  unfold t_held_in p_held_in
  exact (rf_seq (rf_if (rf_and (rf_tB (rf_cb ok_isi (rfa_var (rfa_cons rf_ty rfa_nil)))) (rf_test (rf_op2 ok_le (rfa_cons (rf_cb ok_len (rfa_var rfa_nil)) (rfa_cons rf_int rfa_nil))))) (rf_ret rf_var) rf_next)
    (rf_seq (rf_if (rf_and (rf_tB (rf_cb ok_isi (rfa_var (rfa_cons rf_ty rfa_nil)))) (rf_and (rf_test (rf_op2 ok_le (rfa_cons (rf_cb ok_len (rfa_var rfa_nil)) (rfa_cons rf_int rfa_nil)))) (rf_tB (rf_cb ok_all (rfa_cons (RefF.e (rf_lcD (rfgw_name (by decide)) rf_yes (rf_call (rfa_cons rf_var rfa_nil)))) rfa_nil))))) (rf_ret (RefF.e (rf_listVals (rfa_var rfa_nil)))) rf_next)
    (rf_ret rf_non)))

theorem rf_deepness {K : PySem.W.Frag} {ps_is_number : PSp} {ps_is_text : PSp} {ps_held_in : PSp} {ps_deepness : PSp} : RefS K false (t_deepness K (spP K false ps_is_number) (spP K false ps_is_text) (spP K false ps_held_in) (spP K false ps_deepness)) (p_deepness ps_is_number ps_is_text ps_held_in ps_deepness) := by
  unfold t_deepness p_deepness
  exact (rf_seq (rf_if (rf_or (rf_test (rf_op2 ok_isN (rfa_var (rfa_cons rf_non rfa_nil)))) (rf_or (rf_tB (rf_cb ok_isi (rfa_var (rfa_cons rf_ty rfa_nil)))) (rf_or (rf_tB (rf_call (rfa_cons rf_var rfa_nil))) (rf_tB (rf_call (rfa_cons rf_var rfa_nil)))))) (rf_ret rf_int) rf_next)
    (rf_seq (rf_asg (rf_call (rfa_cons rf_var rfa_nil)) rfg_name)
    (rf_seq (rf_if (rf_test (rf_op2 ok_isN (rfa_var (rfa_cons rf_non rfa_nil)))) (rf_ret rf_int) rf_next)
    (rf_seq (rf_asg (RefF.e (rf_lc (rfi_list rf_var) (rfgw_name (by decide)) rf_yes (rf_call (rfa_cons rf_var rfa_nil)))) rfg_name)
    (rf_seq (rf_if (rf_or (rf_test (rf_op2 ok_in (rfa_cons rf_int (rfa_var rfa_nil)))) (rf_test (rf_op2 ok_in (rfa_cons rf_int (rfa_var rfa_nil))))) (rf_ret rf_int) rf_next)
    (rf_ret (rf_op2 ok_add (rfa_cons rf_int (rfa_cons (rf_cb ok_max (rfa_cons (rf_op2 ok_add (rfa_var (rfa_cons (RefF.e (rf_lst (rfa_cons rf_int rfa_nil))) rfa_nil))) rfa_nil)) rfa_nil)))))))))

theorem rf_is_worth {K : PySem.W.Frag} {ps_deepness : PSp} : RefS K false (t_is_worth K (spP K false ps_deepness)) (p_is_worth ps_deepness) := by
  unfold t_is_worth p_is_worth
  exact (rf_ret (rf_op2 ok_gt (rfa_cons (rf_call (rfa_cons rf_var rfa_nil)) (rfa_cons rf_int rfa_nil))))

theorem rf_need_worth {K : PySem.W.Frag} {ps_is_worth : PSp} : RefS K false (t_need_worth K (spP K false ps_is_worth)) (p_need_worth ps_is_worth) := by
  unfold t_need_worth p_need_worth
  exact (rf_if (rf_not (rf_tB (rf_call (rfa_cons rf_var rfa_nil)))) rf_never rf_next)

theorem rf_sort_word {K : PySem.W.Frag}  : RefS K false (t_sort_word K) (p_sort_word) := by
  unfold t_sort_word p_sort_word
  exact (rf_seq (rf_if (rf_test (rf_op2 ok_isN (rfa_var (rfa_cons rf_non rfa_nil)))) (rf_ret rf_str) rf_next)
    (rf_seq (rf_if (rf_tB (rf_cb ok_isi (rfa_var (rfa_cons rf_ty rfa_nil)))) (rf_ret rf_str) rf_next)
    (rf_seq (rf_if (rf_tB (rf_cb ok_isi (rfa_var (rfa_cons rf_ty rfa_nil)))) (rf_ret rf_str) rf_next)
    (rf_seq (rf_if (rf_tB (rf_cb ok_isi (rfa_var (rfa_cons rf_ty rfa_nil)))) (rf_ret rf_str) rf_next)
    (rf_seq (rf_if (rf_tB (rf_cb ok_isi (rfa_var (rfa_cons rf_ty rfa_nil)))) (rf_ret rf_str) rf_next)
    (rf_ret rf_str))))))

theorem rf_sort_of {K : PySem.W.Frag} {ps_need_worth : PSp} {ps_sort_word : PSp} : RefS K false (t_sort_of K (spP K false ps_need_worth) (spP K false ps_sort_word)) (p_sort_of ps_need_worth ps_sort_word) := by
  unfold t_sort_of p_sort_of
  exact (rf_seq (rf_drop (rf_call (rfa_cons rf_var rfa_nil)))
    (rf_ret (rf_call (rfa_cons rf_var rfa_nil))))

theorem rf_deep {K : PySem.W.Frag} {ps_need_worth : PSp} {ps_deepness : PSp} : RefS K false (t_deep K (spP K false ps_need_worth) (spP K false ps_deepness)) (p_deep ps_need_worth ps_deepness) := by
  unfold t_deep p_deep
  exact (rf_seq (rf_drop (rf_call (rfa_cons rf_var rfa_nil)))
    (rf_ret (rf_call (rfa_cons rf_var rfa_nil))))

theorem rf_steps_in {K : PySem.W.Frag}  : RefS K false (t_steps_in K) (p_steps_in) := by
  unfold t_steps_in p_steps_in
  exact (rf_seq (rf_if (rf_tB (rf_cb ok_isi (rfa_var (rfa_cons rf_ty rfa_nil)))) (rf_ret (RefF.e (rf_listEn (rfa_var rfa_nil)))) rf_next)
    (rf_seq (rf_if (rf_tB (rf_cb ok_isi (rfa_var (rfa_cons rf_ty rfa_nil)))) (rf_ret (RefF.e (rf_lc (rfi_list (RefF.e (rf_cbF ok_sortD (rfa_var rfa_nil)))) (rfgw_name (by decide)) rf_yes (rf_tup (rfa_cons rf_var (rfa_cons (rf_dget (rfa_var (rfa_var rfa_nil))) rfa_nil)))))) rf_next)
    (rf_ret (RefF.e (rf_lst rfa_nil)))))

theorem rf_copy_of {K : PySem.W.Frag} {ps_copy_of : PSp} : RefS K false (t_copy_of K (spP K false ps_copy_of)) (p_copy_of ps_copy_of) := by
  unfold t_copy_of p_copy_of
  exact (rf_seq (rf_if (rf_tB (rf_cb ok_isi (rfa_var (rfa_cons rf_ty rfa_nil)))) (rf_ret (RefF.e (rf_lc (rfi_list rf_var) (rfgw_name (by decide)) rf_yes (rf_call (rfa_cons rf_var rfa_nil))))) rf_next)
    (rf_seq (rf_if (rf_tB (rf_cb ok_isi (rfa_var (rfa_cons rf_ty rfa_nil)))) (rf_seq (rf_own rf_dnew)
    (rf_seq (rf_forD (rfg_tup (rfg_cons rfg_name (rfg_cons rfg_name rfg_nil))) (rf_asg (rf_call (rfa_cons rf_var rfa_nil)) (rfg_setD rf_var)))
    (rf_ret rf_var))) rf_next)
    (rf_ret rf_var)))

theorem rf_gathered {K : PySem.W.Frag} {ps_copy_of : PSp} {ps_steps_in : PSp} {ps_gathered : PSp} : RefS K false (t_gathered K (spP K false ps_copy_of) (spP K false ps_steps_in) (spP K false ps_gathered)) (p_gathered ps_copy_of ps_steps_in ps_gathered) := by
  unfold t_gathered p_gathered
  exact (rf_seq (rf_own (rf_lst (rfa_cons (rf_tup (rfa_cons rf_var (rfa_cons (rf_call (rfa_cons rf_var rfa_nil)) rfa_nil))) rfa_nil)))
    (rf_seq (rf_for (rfi_list (rf_call (rfa_cons rf_var rfa_nil))) (rfg_tup (rfg_cons rfg_name (rfg_cons rfg_name rfg_nil))) (rf_extend (rf_call (rfa_cons rf_var (rfa_cons (rf_op2 ok_add (rfa_var (rfa_cons (rf_tup (rfa_cons rf_var rfa_nil)) rfa_nil))) rfa_nil)))))
    (rf_ret rf_var)))

theorem rf_inner {K : PySem.W.Frag} {ps_need_worth : PSp} {ps_gathered : PSp} : RefS K false (t_inner K (spP K false ps_need_worth) (spP K false ps_gathered)) (p_inner ps_need_worth ps_gathered) := by
  unfold t_inner p_inner
  exact (rf_seq (rf_drop (rf_call (rfa_cons rf_var rfa_nil)))
    (rf_ret (rf_call (rfa_cons rf_var (rfa_cons (rf_tup rfa_nil) rfa_nil)))))

theorem rf_leads {K : PySem.W.Frag} {ps_is_whole : PSp} : RefS K false (t_leads K (spP K false ps_is_whole)) (p_leads ps_is_whole) := by
  unfold t_leads p_leads
  exact (rf_seq (rf_if (rf_tB (rf_cb ok_isi (rfa_var (rfa_cons rf_ty rfa_nil)))) (rf_ret (rf_andV (rf_call (rfa_cons rf_var rfa_nil)) (rf_chain ok_le ok_lt rf_int rf_var (rf_cb ok_len (rfa_var rfa_nil))))) rf_next)
    (rf_ret (rf_andV (rf_cb ok_isi (rfa_var (rfa_cons rf_ty rfa_nil))) (rf_andV (rf_cb ok_isi (rfa_var (rfa_cons rf_ty rfa_nil))) (rf_op2 ok_inA (rfa_var (rfa_var rfa_nil)))))))

theorem rf_worth_at {K : PySem.W.Frag} {ps_need_worth : PSp} {ps_leads : PSp} {ps_copy_of : PSp} : RefS K false (t_worth_at K (spP K false ps_need_worth) (spP K false ps_leads) (spP K false ps_copy_of)) (p_worth_at ps_need_worth ps_leads ps_copy_of) := by
  unfold t_worth_at p_worth_at
  exact (rf_seq (rf_drop (rf_call (rfa_cons rf_var rfa_nil)))
    (rf_seq (rf_if (rf_not (rf_tB (rf_cb ok_isi (rfa_var (rfa_cons rf_ty rfa_nil))))) rf_never rf_next)
    (rf_seq (rf_asg rf_var rfg_name)
    (rf_seq (rf_for (rfi_tup rf_var) rfg_name (rf_seq (rf_if (rf_not (rf_tB (rf_call (rfa_cons rf_var (rfa_cons rf_var rfa_nil))))) rf_never rf_next)
    (rf_asg (rf_op2 ok_ixA (rfa_var (rfa_var rfa_nil))) rfg_name)))
    (rf_ret (rf_call (rfa_cons rf_var rfa_nil)))))))

theorem rf__law_cell {K : PySem.W.Frag}  : RefS K false (t__law_cell K) (p__law_cell) := by
  unfold t__law_cell p__law_cell
  exact (rf_seq (rf_if (rf_test (rf_op2 ok_lt (rfa_var (rfa_cons (rf_cb ok_len (rfa_var rfa_nil)) rfa_nil)))) (rf_ret (rf_op2 ok_ix (rfa_var (rfa_var rfa_nil)))) rf_next)
    (rf_ret (rf_op2 ok_add (rfa_cons (rf_op2 ok_mul (rfa_cons rf_int (rfa_var rfa_nil))) (rfa_cons rf_int rfa_nil)))))

theorem rf__law_box {K : PySem.W.Frag}  : RefS K true (t__law_box K) (p__law_box) := by
  unfold t__law_box p__law_box
  exact (rf_retF (rf_lst (rfa_cons (rf_cb ok_max2 (rfa_cons rf_int (rfa_cons (rf_op2 ok_sub (rfa_var (rfa_cons (rf_op2 ok_pow (rfa_cons rf_int (rfa_cons rf_int rfa_nil))) rfa_nil))) rfa_nil))) (rfa_cons (rf_op2 ok_mod (rfa_var (rfa_cons rf_int rfa_nil))) (rfa_cons rf_int rfa_nil)))))

theorem rf__law_take {K : PySem.W.Frag}  : RefS K false (t__law_take K) (p__law_take) := by
  unfold t__law_take p__law_take
  exact (rf_seq (rf_if (rf_test (rf_op2 ok_gt (rfa_cons (rf_op2 ok_ix (rfa_var (rfa_cons rf_int rfa_nil))) (rfa_cons rf_int rfa_nil)))) (rf_seq (rf_asg (rf_op2 ok_mod (rfa_cons (rf_op2 ok_ix (rfa_var (rfa_cons rf_int rfa_nil))) (rfa_var rfa_nil))) rfg_name)
    (rf_seq (rf_asg (rf_op2 ok_div (rfa_cons (rf_op2 ok_ix (rfa_var (rfa_cons rf_int rfa_nil))) (rfa_var rfa_nil))) (rfg_setL rf_int))
    (rf_ret rf_var))) rf_next)
    (rf_seq (rf_asg (rf_op2 ok_add (rfa_cons (rf_op2 ok_ix (rfa_var (rfa_cons rf_int rfa_nil))) (rfa_cons rf_int rfa_nil))) (rfg_setL rf_int))
    (rf_seq (rf_asg (rf_op2 ok_mod (rfa_cons (rf_op2 ok_pow (rfa_cons (rf_op2 ok_add (rfa_cons (rf_op2 ok_add (rfa_cons (rf_op2 ok_ix (rfa_var (rfa_cons rf_int rfa_nil))) (rfa_cons (rf_op2 ok_mul (rfa_cons rf_int (rfa_cons (rf_op2 ok_ix (rfa_var (rfa_cons rf_int rfa_nil))) rfa_nil))) rfa_nil))) (rfa_cons rf_int rfa_nil))) (rfa_cons rf_int rfa_nil))) (rfa_cons rf_int rfa_nil))) rfg_name)
    (rf_seq (rf_asg (rf_op2 ok_mod (rfa_cons (rf_op2 ok_pow (rfa_cons (rf_op2 ok_add (rfa_cons (rf_op2 ok_mul (rfa_var (rfa_cons (rf_op2 ok_add (rfa_cons rf_int (rfa_cons (rf_op2 ok_ix (rfa_var (rfa_cons rf_int rfa_nil))) rfa_nil))) rfa_nil))) (rfa_cons rf_int rfa_nil))) (rfa_cons rf_int rfa_nil))) (rfa_cons rf_int rfa_nil))) rfg_name)
    (rf_ret (rf_op2 ok_mod (rfa_cons (rf_op2 ok_div (rfa_var (rfa_cons rf_int rfa_nil))) (rfa_var rfa_nil))))))))

theorem rf__law_signs {K : PySem.W.Frag}  : RefS K false (t__law_signs K) (p__law_signs) := by
  unfold t__law_signs p__law_signs
  exact (rf_ret rf_str)

theorem rf__law_number {K : PySem.W.Frag} {ps__law_take : PSp} : RefS K false (t__law_number K (spP K false ps__law_take)) (p__law_number ps__law_take) := by
  unfold t__law_number p__law_number
  exact (rf_seq (rf_asg (rf_call (rfa_var (rfa_cons rf_int rfa_nil))) rfg_name)
    (rf_seq (rf_if (rf_test (rf_op2 ok_lt (rfa_var (rfa_cons rf_int rfa_nil)))) (rf_ret (rf_op2 ok_sub (rfa_cons (rf_call (rfa_var (rfa_cons rf_int rfa_nil))) (rfa_cons rf_int rfa_nil)))) rf_next)
    (rf_seq (rf_if (rf_test (rf_op2 ok_eq (rfa_var (rfa_cons rf_int rfa_nil)))) (rf_ret (rf_op2 ok_mul (rfa_cons (rf_op2 ok_ix (rfa_cons (RefF.e (rf_lst (rfa_cons rf_int (rfa_cons (rf_un ok_neg (rfa_cons rf_int rfa_nil)) rfa_nil)))) (rfa_cons (rf_call (rfa_var (rfa_cons rf_int rfa_nil))) rfa_nil))) (rfa_cons (rf_op2 ok_sub (rfa_cons (rf_op2 ok_sub (rfa_cons (rf_op2 ok_pow (rfa_cons rf_int (rfa_cons rf_int rfa_nil))) (rfa_cons rf_int rfa_nil))) (rfa_cons (rf_call (rfa_var (rfa_cons rf_int rfa_nil))) rfa_nil))) rfa_nil)))) rf_next)
    (rf_seq (rf_asg rf_int rfg_name)
    (rf_seq (rf_for (rfi_rng1 (rf_op2 ok_add (rfa_cons rf_int (rfa_cons (rf_call (rfa_var (rfa_cons rf_int rfa_nil))) rfa_nil)))) rfg_name (rf_asg (rf_op2 ok_add (rfa_cons (rf_op2 ok_mul (rfa_var (rfa_cons (rf_op2 ok_pow (rfa_cons rf_int (rfa_cons rf_int rfa_nil))) rfa_nil))) (rfa_cons (rf_call (rfa_var (rfa_cons (rf_op2 ok_pow (rfa_cons rf_int (rfa_cons rf_int rfa_nil))) rfa_nil))) rfa_nil))) rfg_name))
    (rf_ret (rf_op2 ok_mul (rfa_var (rfa_cons (rf_op2 ok_ix (rfa_cons (RefF.e (rf_lst (rfa_cons rf_int (rfa_cons (rf_un ok_neg (rfa_cons rf_int rfa_nil)) rfa_nil)))) (rfa_cons (rf_call (rfa_var (rfa_cons rf_int rfa_nil))) rfa_nil))) rfa_nil)))))))))

theorem rf__law_text {K : PySem.W.Frag} {ps__law_signs : PSp} {ps__law_take : PSp} : RefS K false (t__law_text K (spP K false ps__law_signs) (spP K false ps__law_take)) (p__law_text ps__law_signs ps__law_take) := by
  unfold t__law_text p__law_text
  exact (rf_seq (rf_asg (rf_call rfa_nil) rfg_name)
    (rf_seq (rf_asg (rf_op2 ok_ix (rfa_cons (RefF.e (rf_lst (rfa_cons (rf_call (rfa_var (rfa_cons rf_int rfa_nil))) (rfa_cons rf_int (rfa_cons (rf_call (rfa_var (rfa_cons rf_int rfa_nil))) rfa_nil))))) (rfa_cons (rf_call (rfa_var (rfa_cons rf_int rfa_nil))) rfa_nil))) rfg_name)
    (rf_seq (rf_asg (rf_call (rfa_var (rfa_cons rf_int rfa_nil))) rfg_name)
    (rf_seq (rf_asg (rf_call (rfa_var (rfa_cons rf_int rfa_nil))) rfg_name)
    (rf_ret (rf_m1 ok_join rf_str (rfa_cons (RefF.e (rf_lc (rfi_rng1 rf_var) (rfgw_name (by decide)) rf_yes (rf_op2 ok_ix (rfa_var (rfa_cons (rf_op2 ok_mod (rfa_cons (rf_op2 ok_add (rfa_var (rfa_cons (rf_op2 ok_mul (rfa_var (rfa_var rfa_nil))) rfa_nil))) (rfa_cons rf_int rfa_nil))) rfa_nil))))) rfa_nil)))))))

theorem rf__law_names {K : PySem.W.Frag} {ps__law_take : PSp} : RefS K false (t__law_names K (spP K false ps__law_take)) (p__law_names ps__law_take) := by
  unfold t__law_names p__law_names
  exact (rf_seq (rf_asg rf_str rfg_name)
    (rf_seq (rf_asg (rf_call (rfa_var (rfa_cons rf_int rfa_nil))) rfg_name)
    (rf_seq (rf_asg (rf_call (rfa_var (rfa_cons rf_int rfa_nil))) rfg_name)
    (rf_seq (rf_asg (RefF.e (rf_lc (rfi_rng1 rf_var) (rfgw_name (by decide)) rf_yes (rf_op2 ok_ix (rfa_var (rfa_cons (rf_op2 ok_mod (rfa_cons (rf_op2 ok_add (rfa_var (rfa_cons (rf_op2 ok_mul (rfa_cons rf_int (rfa_var rfa_nil))) rfa_nil))) (rfa_cons rf_int rfa_nil))) rfa_nil))))) rfg_name)
    (rf_seq (rf_if (rf_test (rf_op2 ok_eq (rfa_var (rfa_cons rf_int rfa_nil)))) (rf_seq (rf_asg (rf_call (rfa_var (rfa_cons rf_int rfa_nil))) rfg_name)
    (rf_seq (rf_asg (rf_call (rfa_var (rfa_cons (rf_op2 ok_add (rfa_var (rfa_cons rf_int rfa_nil))) rfa_nil))) rfg_name)
    (rf_seq (rf_asg (rf_m1 ok_join rf_str (rfa_cons (RefF.e (rf_lc (rfi_rng1 rf_var) (rfgw_name (by decide)) rf_yes (rf_op2 ok_ix (rfa_var (rfa_cons (rf_call (rfa_var (rfa_cons rf_int rfa_nil))) rfa_nil))))) rfa_nil)) rfg_name)
    (rf_asg (RefF.e (rf_lc (rfi_list rf_var) (rfgw_name (by decide)) rf_yes (rf_op2 ok_add (rfa_cons (rf_op2 ok_add (rfa_cons (rf_slV rf_noPart (rf_part rf_var)) (rfa_var rfa_nil))) (rfa_cons (rf_slV (rf_part rf_var) rf_noPart) rfa_nil))))) rfg_name)))) rf_next)
    (rf_seq (rf_if (rf_test (rf_op2 ok_eq (rfa_var (rfa_cons rf_int rfa_nil)))) (rf_asg (RefF.e (rf_lc (rfi_rng1 rf_var) (rfgw_name (by decide)) rf_yes (rf_op2 ok_mul (rfa_cons (rf_op2 ok_ix (rfa_var (rfa_var rfa_nil))) (rfa_cons (rf_op2 ok_add (rfa_cons rf_int (rfa_var rfa_nil))) rfa_nil))))) rfg_name) rf_next)
    (rf_seq (rf_asg (rf_call (rfa_var (rfa_cons (rf_op2 ok_add (rfa_var (rfa_cons rf_int rfa_nil))) rfa_nil))) rfg_name)
    (rf_ret (rf_op2 ok_add (rfa_cons (rf_slV (rf_part rf_var) rf_noPart) (rfa_cons (rf_slV rf_noPart (rf_part rf_var)) rfa_nil)))))))))))

theorem rf__law_worth {K : PySem.W.Frag} {ps__law_take : PSp} {ps__law_number : PSp} {ps__law_text : PSp} {ps__law_worth : PSp} {ps__law_names : PSp} : RefS K false (t__law_worth K (spP K false ps__law_take) (spP K false ps__law_number) (spP K false ps__law_text) (spP K false ps__law_worth) (spP K false ps__law_names)) (p__law_worth ps__law_take ps__law_number ps__law_text ps__law_worth ps__law_names) := by
  unfold t__law_worth p__law_worth
  exact (rf_seq (rf_asg (rf_call (rfa_var (rfa_cons rf_int rfa_nil))) rfg_name)
    (rf_seq (rf_if (rf_test (rf_op2 ok_eq (rfa_var (rfa_cons rf_int rfa_nil)))) (rf_ret rf_non) rf_next)
    (rf_seq (rf_if (rf_test (rf_op2 ok_eq (rfa_var (rfa_cons rf_int rfa_nil)))) (rf_ret (rf_op2 ok_eq (rfa_cons (rf_call (rfa_var (rfa_cons rf_int rfa_nil))) (rfa_cons rf_int rfa_nil)))) rf_next)
    (rf_seq (rf_if (rf_or (rf_test (rf_op2 ok_eq (rfa_var (rfa_cons rf_int rfa_nil)))) (rf_and (rf_test (rf_op2 ok_eq (rfa_var (rfa_cons rf_int rfa_nil)))) (rf_test (rf_op2 ok_gt (rfa_var (rfa_cons rf_int rfa_nil)))))) (rf_ret (rf_call (rfa_var rfa_nil))) rf_next)
    (rf_seq (rf_if (rf_or (rf_test (rf_op2 ok_eq (rfa_var (rfa_cons rf_int rfa_nil)))) (rf_test (rf_op2 ok_eq (rfa_var (rfa_cons rf_int rfa_nil))))) (rf_ret (rf_call (rfa_var rfa_nil))) rf_next)
    (rf_seq (rf_asg (rf_op2 ok_ix (rfa_cons (RefF.e (rf_lst (rfa_cons (rf_call (rfa_var (rfa_cons rf_int rfa_nil))) (rfa_cons (rf_call (rfa_var (rfa_cons (rf_op2 ok_ix (rfa_cons (RefF.e (rf_lst (rfa_cons rf_int (rfa_cons rf_int (rfa_cons rf_int (rfa_cons rf_int rfa_nil)))))) (rfa_cons (rf_op2 ok_sub (rfa_var (rfa_cons rf_int rfa_nil))) rfa_nil))) rfa_nil))) rfa_nil)))) (rfa_cons (rf_call (rfa_var (rfa_cons rf_int rfa_nil))) rfa_nil))) rfg_name)
    (rf_seq (rf_if (rf_test (rf_op2 ok_lt (rfa_var (rfa_cons rf_int rfa_nil)))) (rf_ret (RefF.e (rf_lc (rfi_rng1 (rf_cb ok_min2 (rfa_cons rf_int (rfa_var rfa_nil)))) (rfgw_name (by decide)) rf_yes (rf_call (rfa_var (rfa_cons (rf_op2 ok_sub (rfa_var (rfa_cons rf_int rfa_nil))) rfa_nil)))))) rf_next)
    (rf_seq (rf_own rf_dnew)
    (rf_seq (rf_for (rfi_list (rf_call (rfa_var (rfa_cons rf_var rfa_nil)))) rfg_name (rf_asg (rf_call (rfa_var (rfa_cons (rf_op2 ok_sub (rfa_var (rfa_cons rf_int rfa_nil))) rfa_nil))) (rfg_setD rf_var)))
    (rf_ret rf_var))))))))))

theorem rf__law_sort {K : PySem.W.Frag}  : RefS K false (t__law_sort K) (p__law_sort) := by
  unfold t__law_sort p__law_sort
  exact (rf_seq (rf_asg (RefF.e (rf_lst (rfa_cons (rf_op2 ok_isN (rfa_var (rfa_cons rf_non rfa_nil))) (rfa_cons (rf_cb ok_isi (rfa_var (rfa_cons rf_ty rfa_nil))) (rfa_cons (rf_cb ok_isi (rfa_var (rfa_cons rf_ty rfa_nil))) (rfa_cons (rf_cb ok_isi (rfa_var (rfa_cons rf_ty rfa_nil))) rfa_nil)))))) rfg_name)
    (rf_seq (rf_asg (RefF.e (rf_lst (rfa_cons rf_str (rfa_cons rf_str (rfa_cons rf_str (rfa_cons rf_str (rfa_cons rf_str (rfa_cons rf_str rfa_nil)))))))) rfg_name)
    (rf_ret (rf_op2 ok_ix (rfa_var (rfa_cons (rf_bmL ok_index (rf_op2 ok_add (rfa_var (rfa_cons (RefF.e (rf_lst (rfa_cons (rf_cb ok_isi (rfa_var (rfa_cons rf_ty rfa_nil))) (rfa_cons rf_bl rfa_nil)))) rfa_nil))) (rfa_cons rf_bl rfa_nil)) rfa_nil))))))

theorem rf__law_deep {K : PySem.W.Frag} {ps__law_deep : PSp} : RefS K false (t__law_deep K (spP K false ps__law_deep)) (p__law_deep ps__law_deep) := by
  unfold t__law_deep p__law_deep
  exact (rf_seq (rf_asg (RefF.e (rf_lst rfa_nil)) rfg_name)
    (rf_seq (rf_if (rf_tB (rf_cb ok_isi (rfa_var (rfa_cons rf_ty rfa_nil)))) (rf_asg rf_var rfg_name) rf_next)
    (rf_seq (rf_if (rf_tB (rf_cb ok_isi (rfa_var (rfa_cons rf_ty rfa_nil)))) (rf_asg (RefF.e (rf_listVals (rfa_var rfa_nil))) rfg_name) rf_next)
    (rf_ret (rf_op2 ok_add (rfa_cons rf_int (rfa_cons (rf_cb ok_max (rfa_cons (rf_op2 ok_add (rfa_cons (RefF.e (rf_lst (rfa_cons rf_int rfa_nil))) (rfa_cons (RefF.e (rf_lc (rfi_list rf_var) (rfgw_name (by decide)) rf_yes (rf_call (rfa_cons rf_var rfa_nil)))) rfa_nil))) rfa_nil)) rfa_nil)))))))

theorem rf__law_walk {K : PySem.W.Frag}  : RefS K false (t__law_walk K) (p__law_walk) := by
  unfold t__law_walk p__law_walk
  exact (rf_seq (rf_own (rf_lst (rfa_cons (rf_tup (rfa_cons (rf_tup rfa_nil) (rfa_cons rf_var rfa_nil))) rfa_nil)))
    (rf_seq (rf_own (rf_lst rfa_nil))
    (rf_seq (rf_while (rf_test (rf_op2 ok_ne (rfa_var (rfa_cons (RefF.e (rf_lst rfa_nil)) rfa_nil)))) (rf_seq (rf_asg rf_pop (rfg_tup (rfg_cons rfg_name (rfg_cons rfg_name rfg_nil))))
    (rf_seq (rf_append (rf_tup (rfa_cons rf_var (rfa_cons rf_var rfa_nil))))
    (rf_seq (rf_asg (RefF.e (rf_lst rfa_nil)) rfg_name)
    (rf_seq (rf_if (rf_tB (rf_cb ok_isi (rfa_var (rfa_cons rf_ty rfa_nil)))) (rf_asg (RefF.e (rf_lc (rfi_rng1 (rf_cb ok_len (rfa_var rfa_nil))) (rfgw_name (by decide)) rf_yes (rf_tup (rfa_cons (rf_op2 ok_add (rfa_var (rfa_cons (rf_tup (rfa_cons rf_var rfa_nil)) rfa_nil))) (rfa_cons (rf_op2 ok_ix (rfa_var (rfa_var rfa_nil))) rfa_nil))))) rfg_name) rf_next)
    (rf_seq (rf_if (rf_tB (rf_cb ok_isi (rfa_var (rfa_cons rf_ty rfa_nil)))) (rf_asg (RefF.e (rf_lc (rfi_list (RefF.e (rf_cbF ok_sortD (rfa_var rfa_nil)))) (rfgw_name (by decide)) rf_yes (rf_tup (rfa_cons (rf_op2 ok_add (rfa_var (rfa_cons (rf_tup (rfa_cons rf_var rfa_nil)) rfa_nil))) (rfa_cons (rf_dget (rfa_var (rfa_var rfa_nil))) rfa_nil))))) rfg_name) rf_next)
    (rf_extend (RefF.e (rf_rev (rfa_var rfa_nil))))))))))
    (rf_ret rf_var))))

theorem rf__law_led {K : PySem.W.Frag}  : RefS K false (t__law_led K) (p__law_led) := by
  unfold t__law_led p__law_led
  exact (rf_seq (rf_for (rfi_tup rf_var) rfg_name (rf_asg (rf_op2 ok_ixA (rfa_var (rfa_var rfa_nil))) rfg_name))
    (rf_ret rf_var))

theorem rf__law_at_right {K : PySem.W.Frag} {ps_worth_at : PSp} {ps__law_led : PSp} : RefS K false (t__law_at_right K (spP K false ps_worth_at) (spP K false ps__law_led)) (p__law_at_right ps_worth_at ps__law_led) := by
  unfold t__law_at_right p__law_at_right
  exact (rf_seq (rf_for (rfi_list rf_var) (rfg_tup (rfg_cons rfg_name (rfg_cons rfg_name rfg_nil))) (rf_if (rf_or (rf_test (rf_op2 ok_ne (rfa_cons (rf_cb ok_repr (rfa_cons (rf_call (rfa_cons rf_var (rfa_cons rf_var rfa_nil))) rfa_nil)) (rfa_cons (rf_cb ok_repr (rfa_var rfa_nil)) rfa_nil)))) (rf_test (rf_op2 ok_ne (rfa_cons (rf_cb ok_repr (rfa_cons (rf_call (rfa_cons rf_var (rfa_cons rf_var rfa_nil))) rfa_nil)) (rfa_cons (rf_cb ok_repr (rfa_var rfa_nil)) rfa_nil))))) (rf_ret rf_bl) rf_next))
    (rf_ret rf_bl))

theorem rf__law_case {K : PySem.W.Frag} {ps__law_take : PSp} {ps__law_worth : PSp} {ps__law_walk : PSp} {ps__law_at_right : PSp} {ps_inner : PSp} {ps_sort_of : PSp} {ps__law_sort : PSp} {ps_deep : PSp} {ps__law_deep : PSp} : RefS K false (t__law_case K (spP K false ps__law_take) (spP K false ps__law_worth) (spP K false ps__law_walk) (spP K false ps__law_at_right) (spP K false ps_inner) (spP K false ps_sort_of) (spP K false ps__law_sort) (spP K false ps_deep) (spP K false ps__law_deep)) (p__law_case ps__law_take ps__law_worth ps__law_walk ps__law_at_right ps_inner ps_sort_of ps__law_sort ps_deep ps__law_deep) := by
  unfold t__law_case p__law_case
  exact (rf_seq (rf_asg (rf_call (rfa_var (rfa_cons rf_int rfa_nil))) rfg_name)
    (rf_seq (rf_asg (rf_call (rfa_var (rfa_cons (rf_op2 ok_add (rfa_cons rf_int (rfa_cons (rf_call (rfa_var (rfa_cons rf_int rfa_nil))) rfa_nil))) rfa_nil))) rfg_name)
    (rf_seq (rf_asg (rf_call (rfa_cons rf_var rfa_nil)) rfg_name)
    (rf_seq (rf_if (rf_and (rf_test (rf_op2 ok_eq (rfa_var (rfa_cons rf_int rfa_nil)))) (rf_not (rf_tB (rf_call (rfa_cons rf_var (rfa_cons rf_var rfa_nil)))))) (rf_ret rf_bl) rf_next)
    (rf_seq (rf_asg (rf_call (rfa_cons rf_var rfa_nil)) rfg_name)
    (rf_seq (rf_if (rf_or (rf_not (rf_tB (rf_cb ok_isi (rfa_var (rfa_cons rf_ty rfa_nil))))) (rf_test (rf_op2 ok_ne (rfa_cons (rf_cb ok_repr (rfa_var rfa_nil)) (rfa_cons (rf_cb ok_repr (rfa_var rfa_nil)) rfa_nil))))) (rf_ret rf_bl) rf_next)
    (rf_seq (rf_if (rf_not (rf_tB (rf_call (rfa_cons rf_var (rfa_cons rf_var rfa_nil))))) (rf_ret rf_bl) rf_next)
    (rf_seq (rf_for (rfi_list (rf_slV rf_noPart (rf_part rf_int))) (rfg_tup (rfg_cons rfg_name (rfg_cons rfg_name rfg_nil))) (rf_if (rf_or (rf_test (rf_op2 ok_ne (rfa_cons (rf_call (rfa_cons rf_var rfa_nil)) (rfa_cons (rf_call (rfa_cons rf_var rfa_nil)) rfa_nil)))) (rf_test (rf_op2 ok_ne (rfa_cons (rf_cb ok_repr (rfa_cons (rf_call (rfa_cons rf_var rfa_nil)) rfa_nil)) (rfa_cons (rf_cb ok_repr (rfa_cons (rf_call (rfa_cons rf_var rfa_nil)) rfa_nil)) rfa_nil))))) (rf_ret rf_bl) rf_next))
    (rf_ret (rf_op2 ok_eq (rfa_cons (rf_cb ok_repr (rfa_cons (rf_call (rfa_cons rf_var rfa_nil)) rfa_nil)) (rfa_cons (rf_cb ok_repr (rfa_var rfa_nil)) rfa_nil))))))))))))

theorem rf_law {K : PySem.W.Frag} {ps__law_case : PSp} {ps__law_box : PSp} {ps__law_cell : PSp} : RefS K false (t_law K (spP K false ps__law_case) (spP K true ps__law_box) (spP K false ps__law_cell)) (p_law ps__law_case ps__law_box ps__law_cell) := by
  unfold t_law p_law
  exact (rf_seq (rf_for (rfi_rng1 (rf_cb ok_max2 (rfa_cons rf_int (rfa_cons (rf_cb ok_min2 (rfa_cons rf_int (rfa_cons (rf_cb ok_len (rfa_var rfa_nil)) rfa_nil))) rfa_nil)))) rfg_name (rf_if (rf_not (rf_tB (rf_callN (rf_callF (rfa_cons (rf_call (rfa_cons rf_var (rfa_cons rf_var rfa_nil))) rfa_nil))))) (rf_ret rf_bl) rf_next))
    (rf_ret rf_bl))
end Pu

namespace Pu
open PySem PySem.Spec PyProof.Rows L2 He Hk
def top (i : Nat) : Stmt := PySem.Challenge.pw_heapkinds_k04_worths_in_a_worth.main.body.getD i (.Pass ⟨0, 0, 0, 0⟩)
structure Txt (K : PySem.W.Frag) (mg : Str → Option Value) : Prop where
  sm : ∃ o, K.lookup sysModules = some o
  b_isinstance : mg "isinstance" = none
  b_int : mg "int" = none
  b_bool : mg "bool" = none
  b_str : mg "str" = none
  b_len : mg "len" = none
  b_all : mg "all" = none
  b_list : mg "list" = none
  b_dict : mg "dict" = none
  b_max : mg "max" = none
  b_enumerate : mg "enumerate" = none
  b_sorted : mg "sorted" = none
  b_tuple : mg "tuple" = none
  b_range : mg "range" = none
  b_min : mg "min" = none
  b_repr : mg "repr" = none
  g_LONGEST_NAME : ∃ t, mg "LONGEST_NAME" = some (.int 8 t)
  g_LETTERS : ∃ t, mg "LETTERS" = some (.str "abcdefghijklmnopqrstuvwxyz" t)
  g_BEYOND : ∃ t, mg "BEYOND" = some (.int 1000000000000000000 t)
  g_LONGEST_TEXT : ∃ t, mg "LONGEST_TEXT" = some (.int 40 t)
  g_SIGNS : ∃ t, mg "SIGNS" = some (.str " !\"#$&'()*+,-./0123456789:;<=>?@ABCDEFGHIJKLMNOPQRSTUVWXYZ[\\]^_`abcdefghijklmnopqrstuvwxyz{|}~" t)
  g_MOST_IN_ROW : ∃ t, mg "MOST_IN_ROW" = some (.int 6 t)
  g_MOST_NAMES : ∃ t, mg "MOST_NAMES" = some (.int 8 t)
  g_DEEPEST : ∃ t, mg "DEEPEST" = some (.int 4 t)
section
variable {P : Program} {w : World} {K : PySem.W.Frag} {mg : Str → Option Value} {base : Heap}
abbrev s_is_whole : Stmt := top 13
theorem sc_is_whole : FnScope ["thing"] ["thing"] (defScope s_is_whole) := ⟨rfl, rfl, rfl, by decide +kernel, rfl, by decide +kernel, by decide +kernel⟩
theorem dv_is_whole {lv : Nat} (T : Txt K mg) {cdv : Value} {A : Around} {outer : List PySem.Env} {s : Shared} {H : Hp} {E : XK} {f : Addr} (hr : RoomG lv (A.deeper (envOfC "is_whole" (defScope s_is_whole) s.heap.objs.size f cdv))) :
    PSs (cxOf CX0 P w K mg base ["thing"] "is_whole" (defScope s_is_whole) f cdv A outer s H E).nox (defBody s_is_whole) (t_is_whole K) := by
  have hu := hr.units
  have nd := sc_is_whole.nd
  exact (pss_one (ps_ret (pe_and (pe_callB call_isi (by rfl) T.b_isinstance (by decide +kernel) (pa_cons (pv 0) (pa_cons (pe_bltn (v := .ty "int") rfl T.b_int (by decide +kernel) rfl) pa_nil))) (pe_one (pe_not (pe_callB call_isi (by rfl) T.b_isinstance (by decide +kernel) (pa_cons (pv 0) (pa_cons (pe_bltn (v := .ty "bool") rfl T.b_bool (by decide +kernel) rfl) pa_nil))))))))

abbrev s_is_name : Stmt := top 14
theorem sc_is_name : FnScope ["thing", "sign"] ["thing"] (defScope s_is_name) := ⟨rfl, rfl, rfl, by decide +kernel, rfl, by decide +kernel, by decide +kernel⟩
theorem dv_is_name {lv : Nat} (T : Txt K mg) {cdv : Value} {A : Around} {outer : List PySem.Env} {s : Shared} {H : Hp} {E : XK} {f : Addr} (hr : RoomG lv (A.deeper (envOfC "is_name" (defScope s_is_name) s.heap.objs.size f cdv))) :
    PSs (cxOf CX0 P w K mg base ["thing", "sign"] "is_name" (defScope s_is_name) f cdv A outer s H E).nox (defBody s_is_name) (t_is_name K) := by
  have hu := hr.units
  have nd := sc_is_name.nd
  exact (pss_cons (ps_if (PW.pt (pw_or (pt_not (pt_val (pe_callB call_isi (by rfl) T.b_isinstance (by decide +kernel) (pa_cons (pv 0) (pa_cons (pe_bltn (v := .ty "str") rfl T.b_str (by decide +kernel) rfl) pa_nil))))) (pw_or1 (pt_not (pt_chain op_le op_le pe_int (pe_callB call_lenX (by rfl) T.b_len (by decide +kernel) (pa_cons (pv 0) pa_nil)) (pe_glob rfl T.g_LONGEST_NAME.choose_spec ⟨_, rfl⟩)))))) (pss_one (ps_ret pe_bl)) pss_nil)
      (pss_one (ps_ret (pe_callB (cr_all rfl) (by rfl) T.b_all (by decide +kernel) (pa_cons (pe_lc (own := [("sign", 1)]) (g := (gName 1)) (tt := tYes) rfl nd (pi_str (pv 0)) (blkOk_by (own := [("sign", 1)]) (N := ["thing", "sign"]) (sc := defScope s_is_name) (by decide +kernel)) (fun _ _ _ _ _ => (pg_name (i := 1) nd rfl (by first | exact Or.inl rfl | exact Or.inr rfl))) (fun _ _ _ _ _ => pts_nil) (fun _ _ _ _ _ => (pe_cmpR (Hk.oIn hu) (pv 1) (pe_glob rfl T.g_LETTERS.choose_spec ⟨_, rfl⟩) (by rfl)))) pa_nil)))))

abbrev s_is_number : Stmt := top 15
theorem sc_is_number : FnScope ["thing"] ["thing"] (defScope s_is_number) := ⟨rfl, rfl, rfl, by decide +kernel, rfl, by decide +kernel, by decide +kernel⟩
theorem dv_is_number {lv : Nat} (T : Txt K mg) {sp_is_whole : Sp} (F_is_whole : FOG P w K mg base CX0 lv "is_whole" ["thing"] sp_is_whole) {cdv : Value} {A : Around} {outer : List PySem.Env} {s : Shared} {H : Hp} {E : XK} {f : Addr} (hr : RoomG lv (A.deeper (envOfC "is_number" (defScope s_is_number) s.heap.objs.size f cdv))) :
    PSs (cxOf CX0 P w K mg base ["thing"] "is_number" (defScope s_is_number) f cdv A outer s H E).nox (defBody s_is_number) (t_is_number K sp_is_whole) := by
  have hu := hr.units
  have nd := sc_is_number.nd
  exact (pss_one (ps_ret (pe_and (pe_callG F_is_whole hr rfl pass0 (pa_cons (pv 0) pa_nil)) (pe_one (pe_chain Hk.oLt Hk.oLt (pe_un un_neg (pe_glob rfl T.g_BEYOND.choose_spec ⟨_, rfl⟩)) (pv 0) (pe_glob rfl T.g_BEYOND.choose_spec ⟨_, rfl⟩))))))

abbrev s_is_text : Stmt := top 16
theorem sc_is_text : FnScope ["thing", "sign"] ["thing"] (defScope s_is_text) := ⟨rfl, rfl, rfl, by decide +kernel, rfl, by decide +kernel, by decide +kernel⟩
theorem dv_is_text {lv : Nat} (T : Txt K mg) {cdv : Value} {A : Around} {outer : List PySem.Env} {s : Shared} {H : Hp} {E : XK} {f : Addr} (hr : RoomG lv (A.deeper (envOfC "is_text" (defScope s_is_text) s.heap.objs.size f cdv))) :
    PSs (cxOf CX0 P w K mg base ["thing", "sign"] "is_text" (defScope s_is_text) f cdv A outer s H E).nox (defBody s_is_text) (t_is_text K) := by
  have hu := hr.units
  have nd := sc_is_text.nd
  exact (pss_cons (ps_if (PW.pt (pw_or (pt_not (pt_val (pe_callB call_isi (by rfl) T.b_isinstance (by decide +kernel) (pa_cons (pv 0) (pa_cons (pe_bltn (v := .ty "str") rfl T.b_str (by decide +kernel) rfl) pa_nil))))) (pw_or1 (pt_cmpR op_gt (pe_callB call_lenX (by rfl) T.b_len (by decide +kernel) (pa_cons (pv 0) pa_nil)) (pe_glob rfl T.g_LONGEST_TEXT.choose_spec ⟨_, rfl⟩) (nomark _))))) (pss_one (ps_ret pe_bl)) pss_nil)
      (pss_one (ps_ret (pe_callB (cr_all rfl) (by rfl) T.b_all (by decide +kernel) (pa_cons (pe_lc (own := [("sign", 1)]) (g := (gName 1)) (tt := tYes) rfl nd (pi_str (pv 0)) (blkOk_by (own := [("sign", 1)]) (N := ["thing", "sign"]) (sc := defScope s_is_text) (by decide +kernel)) (fun _ _ _ _ _ => (pg_name (i := 1) nd rfl (by first | exact Or.inl rfl | exact Or.inr rfl))) (fun _ _ _ _ _ => pts_nil) (fun _ _ _ _ _ => (pe_cmpR (Hk.oIn hu) (pv 1) (pe_glob rfl T.g_SIGNS.choose_spec ⟨_, rfl⟩) (by rfl)))) pa_nil)))))

abbrev s_held_in : Stmt := top 17
theorem sc_held_in : FnScope ["thing", "name"] ["thing"] (defScope s_held_in) := ⟨rfl, rfl, rfl, by decide +kernel, rfl, by decide +kernel, by decide +kernel⟩
theorem dv_held_in {lv : Nat} (T : Txt K mg) {sp_is_name : Sp} (F_is_name : FOG P w K mg base CX0 lv "is_name" ["thing"] sp_is_name) {cdv : Value} {A : Around} {outer : List PySem.Env} {s : Shared} {H : Hp} {E : XK} {f : Addr} (hr : RoomG lv (A.deeper (envOfC "held_in" (defScope s_held_in) s.heap.objs.size f cdv))) :
    PSs (cxOf CX0 P w K mg base ["thing", "name"] "held_in" (defScope s_held_in) f cdv A outer s H E).nox (defBody s_held_in) (t_held_in K sp_is_name) := by
  have hu := hr.units
  have nd := sc_held_in.nd
  exact (pss_cons (ps_if (PW.pt (pw_and (pt_val (pe_callB call_isi (by rfl) T.b_isinstance (by decide +kernel) (pa_cons (pv 0) (pa_cons (pe_bltn (v := .ty "list") rfl T.b_list (by decide +kernel) rfl) pa_nil)))) (pw_and1 (pt_cmpR op_le (pe_callB call_lenX (by rfl) T.b_len (by decide +kernel) (pa_cons (pv 0) pa_nil)) (pe_glob rfl T.g_MOST_IN_ROW.choose_spec ⟨_, rfl⟩) (nomark _))))) (pss_one (ps_ret (pv 0))) pss_nil)
      (pss_cons (ps_if (PW.pt (pw_and (pt_val (pe_callB call_isi (by rfl) T.b_isinstance (by decide +kernel) (pa_cons (pv 0) (pa_cons (pe_bltn (v := .ty "dict") rfl T.b_dict (by decide +kernel) rfl) pa_nil)))) (pw_and (pt_cmpR op_le (pe_callB call_lenX (by rfl) T.b_len (by decide +kernel) (pa_cons (pv 0) pa_nil)) (pe_glob rfl T.g_MOST_NAMES.choose_spec ⟨_, rfl⟩) (nomark _)) (pw_and1 (pt_val (pe_callB (cr_all rfl) (by rfl) T.b_all (by decide +kernel) (pa_cons (pe_lockU (pe_lc (own := [("name", 1)]) (g := (gName 1)) (tt := tYes) rfl nd (pi_keys (pv 0)) (blkOk_by (own := [("name", 1)]) (N := ["thing", "name"]) (sc := defScope s_held_in) (by decide +kernel)) (fun _ _ _ _ _ => (pg_name (i := 1) nd rfl (by first | exact Or.inl rfl | exact Or.inr rfl))) (fun _ _ _ _ _ => pts_nil) (fun _ _ _ _ _ => (pe_callG F_is_name hr rfl pass0 (pa_cons (pv 1) pa_nil))))) pa_nil))))))) (pss_one (ps_ret (pe_listVals rfl (pv 0) rfl T.b_list (by decide +kernel)))) pss_nil)
      (pss_one (ps_ret pe_non))))

abbrev s_deepness : Stmt := top 18
theorem sc_deepness : FnScope ["thing", "held", "depths", "one"] ["thing"] (defScope s_deepness) := ⟨rfl, rfl, rfl, by decide +kernel, rfl, by decide +kernel, by decide +kernel⟩
theorem dv_deepness {lv : Nat} (T : Txt K mg) {sp_is_number : Sp} {sp_is_text : Sp} {sp_held_in : Sp} {sp_deepness : Sp} (F_is_number : FOG P w K mg base CX0 lv "is_number" ["thing"] sp_is_number) (F_is_text : FOG P w K mg base CX0 lv "is_text" ["thing"] sp_is_text) (F_held_in : FOG P w K mg base CX0 lv "held_in" ["thing"] sp_held_in) (F_deepness : FOG P w K mg base CX0 lv "deepness" ["thing"] sp_deepness) {cdv : Value} {A : Around} {outer : List PySem.Env} {s : Shared} {H : Hp} {E : XK} {f : Addr} (hr : RoomG lv (A.deeper (envOfC "deepness" (defScope s_deepness) s.heap.objs.size f cdv))) :
    PSs (cxOf CX0 P w K mg base ["thing", "held", "depths", "one"] "deepness" (defScope s_deepness) f cdv A outer s H E).nox (defBody s_deepness) (t_deepness K sp_is_number sp_is_text sp_held_in sp_deepness) := by
  have hu := hr.units
  have nd := sc_deepness.nd
  exact (pss_cons (ps_if (PW.pt (pw_or (pt_cmpR op_isN (pv 0) pe_non (nomark _)) (pw_or (pt_val (pe_callB call_isi (by rfl) T.b_isinstance (by decide +kernel) (pa_cons (pv 0) (pa_cons (pe_bltn (v := .ty "bool") rfl T.b_bool (by decide +kernel) rfl) pa_nil)))) (pw_or (pt_val (pe_callG F_is_number hr rfl pass0 (pa_cons (pv 0) pa_nil))) (pw_or1 (pt_val (pe_callG F_is_text hr rfl pass0 (pa_cons (pv 0) pa_nil)))))))) (pss_one (ps_ret pe_int)) pss_nil)
      (pss_cons (ps_set (i := 1) nd rfl (by first | exact Or.inl rfl | exact Or.inr rfl) (pe_callG F_held_in hr rfl pass0 (pa_cons (pv 0) pa_nil)))
      (pss_cons (ps_if (pt_cmpR op_isN (pv 1) pe_non (nomark _)) (pss_one (ps_ret pe_int)) pss_nil)
      (pss_cons (ps_setLc (i := 2) (own := [("one", 3)]) (g := (gName 3)) (tt := tYes) rfl nd rfl rfl (sw_true rfl rfl rfl (by decide +kernel)) (pi_list (pv 1)) (blkOk_by (own := [("one", 3)]) (N := ["thing", "held", "depths", "one"]) (sc := defScope s_deepness) (by decide +kernel)) (fun _ _ _ _ _ => (pg_name (i := 3) nd rfl (by first | exact Or.inl rfl | exact Or.inr rfl))) (fun _ _ _ _ _ => pts_nil) (fun _ _ _ _ _ => (pe_callG F_deepness hr rfl pass0 (pa_cons (pv 3) pa_nil))))
      (pss_cons (ps_if (PW.pt (pw_or (pt_cmpR (Hk.oIn hu) pe_int (pv 2) (by rfl)) (pw_or1 (pt_cmpR (Hk.oIn hu) (pe_glob rfl T.g_DEEPEST.choose_spec ⟨_, rfl⟩) (pv 2) (by rfl))))) (pss_one (ps_ret pe_int)) pss_nil)
      (pss_one (ps_ret (pe_op Hk.oAdd pe_int (pe_callB (cr_max rfl) (by rfl) T.b_max (by decide +kernel) (pa_cons (pe_op Hk.oAdd (pv 2) (pe_lst (pa_cons pe_int pa_nil))) pa_nil))))))))))

abbrev s_is_worth : Stmt := top 19
theorem sc_is_worth : FnScope ["thing"] ["thing"] (defScope s_is_worth) := ⟨rfl, rfl, rfl, by decide +kernel, rfl, by decide +kernel, by decide +kernel⟩
theorem dv_is_worth {lv : Nat} (T : Txt K mg) {sp_deepness : Sp} (F_deepness : FOG P w K mg base CX0 lv "deepness" ["thing"] sp_deepness) {cdv : Value} {A : Around} {outer : List PySem.Env} {s : Shared} {H : Hp} {E : XK} {f : Addr} (hr : RoomG lv (A.deeper (envOfC "is_worth" (defScope s_is_worth) s.heap.objs.size f cdv))) :
    PSs (cxOf CX0 P w K mg base ["thing"] "is_worth" (defScope s_is_worth) f cdv A outer s H E).nox (defBody s_is_worth) (t_is_worth K sp_deepness) := by
  have hu := hr.units
  have nd := sc_is_worth.nd
  exact (pss_one (ps_ret (pe_cmpR op_gt (pe_callG F_deepness hr rfl pass0 (pa_cons (pv 0) pa_nil)) pe_int (nomark _))))

abbrev s_need_worth : Stmt := top 20
theorem sc_need_worth : FnScope ["thing"] ["thing"] (defScope s_need_worth) := ⟨rfl, rfl, rfl, by decide +kernel, rfl, by decide +kernel, by decide +kernel⟩
theorem dv_need_worth {lv : Nat} (T : Txt K mg) {sp_is_worth : Sp} (F_is_worth : FOG P w K mg base CX0 lv "is_worth" ["thing"] sp_is_worth) {cdv : Value} {A : Around} {outer : List PySem.Env} {s : Shared} {H : Hp} {E : XK} {f : Addr} (hr : RoomG lv (A.deeper (envOfC "need_worth" (defScope s_need_worth) s.heap.objs.size f cdv))) :
    PSs (cxOf CX0 P w K mg base ["thing"] "need_worth" (defScope s_need_worth) f cdv A outer s H E).nox (defBody s_need_worth) (t_need_worth K sp_is_worth) := by
  have hu := hr.units
  have nd := sc_need_worth.nd
  exact (pss_one (ps_if (pt_not (pt_val (pe_callG F_is_worth hr rfl pass0 (pa_cons (pv 0) pa_nil)))) (pss_one ps_never) pss_nil))

abbrev s_sort_word : Stmt := top 21
theorem sc_sort_word : FnScope ["worth"] ["worth"] (defScope s_sort_word) := ⟨rfl, rfl, rfl, by decide +kernel, rfl, by decide +kernel, by decide +kernel⟩
theorem dv_sort_word {lv : Nat} (T : Txt K mg) {cdv : Value} {A : Around} {outer : List PySem.Env} {s : Shared} {H : Hp} {E : XK} {f : Addr} (hr : RoomG lv (A.deeper (envOfC "sort_word" (defScope s_sort_word) s.heap.objs.size f cdv))) :
    PSs (cxOf CX0 P w K mg base ["worth"] "sort_word" (defScope s_sort_word) f cdv A outer s H E).nox (defBody s_sort_word) (t_sort_word K) := by
  have hu := hr.units
  have nd := sc_sort_word.nd
  exact (pss_cons (ps_if (pt_cmpR op_isN (pv 0) pe_non (nomark _)) (pss_one (ps_ret pe_str)) pss_nil)
      (pss_cons (ps_if (pt_val (pe_callB call_isi (by rfl) T.b_isinstance (by decide +kernel) (pa_cons (pv 0) (pa_cons (pe_bltn (v := .ty "bool") rfl T.b_bool (by decide +kernel) rfl) pa_nil)))) (pss_one (ps_ret pe_str)) pss_nil)
      (pss_cons (ps_if (pt_val (pe_callB call_isi (by rfl) T.b_isinstance (by decide +kernel) (pa_cons (pv 0) (pa_cons (pe_bltn (v := .ty "int") rfl T.b_int (by decide +kernel) rfl) pa_nil)))) (pss_one (ps_ret pe_str)) pss_nil)
      (pss_cons (ps_if (pt_val (pe_callB call_isi (by rfl) T.b_isinstance (by decide +kernel) (pa_cons (pv 0) (pa_cons (pe_bltn (v := .ty "str") rfl T.b_str (by decide +kernel) rfl) pa_nil)))) (pss_one (ps_ret pe_str)) pss_nil)
      (pss_cons (ps_if (pt_val (pe_callB call_isi (by rfl) T.b_isinstance (by decide +kernel) (pa_cons (pv 0) (pa_cons (pe_bltn (v := .ty "list") rfl T.b_list (by decide +kernel) rfl) pa_nil)))) (pss_one (ps_ret pe_str)) pss_nil)
      (pss_one (ps_ret pe_str)))))))

abbrev s_sort_of : Stmt := top 22
theorem sc_sort_of : FnScope ["worth"] ["worth"] (defScope s_sort_of) := ⟨rfl, rfl, rfl, by decide +kernel, rfl, by decide +kernel, by decide +kernel⟩
theorem dv_sort_of {lv : Nat} (T : Txt K mg) {sp_need_worth : Sp} {sp_sort_word : Sp} (F_need_worth : FOG P w K mg base CX0 lv "need_worth" ["thing"] sp_need_worth) (F_sort_word : FOG P w K mg base CX0 lv "sort_word" ["worth"] sp_sort_word) {cdv : Value} {A : Around} {outer : List PySem.Env} {s : Shared} {H : Hp} {E : XK} {f : Addr} (hr : RoomG lv (A.deeper (envOfC "sort_of" (defScope s_sort_of) s.heap.objs.size f cdv))) :
    PSs (cxOf CX0 P w K mg base ["worth"] "sort_of" (defScope s_sort_of) f cdv A outer s H E).nox (defBody s_sort_of) (t_sort_of K sp_need_worth sp_sort_word) := by
  have hu := hr.units
  have nd := sc_sort_of.nd
  exact (pss_cons (ps_expr (pe_callG F_need_worth hr rfl pass0 (pa_cons (pv 0) pa_nil)))
      (pss_one (ps_ret (pe_callG F_sort_word hr rfl pass0 (pa_cons (pv 0) pa_nil)))))

abbrev s_deep : Stmt := top 23
theorem sc_deep : FnScope ["worth"] ["worth"] (defScope s_deep) := ⟨rfl, rfl, rfl, by decide +kernel, rfl, by decide +kernel, by decide +kernel⟩
theorem dv_deep {lv : Nat} (T : Txt K mg) {sp_need_worth : Sp} {sp_deepness : Sp} (F_need_worth : FOG P w K mg base CX0 lv "need_worth" ["thing"] sp_need_worth) (F_deepness : FOG P w K mg base CX0 lv "deepness" ["thing"] sp_deepness) {cdv : Value} {A : Around} {outer : List PySem.Env} {s : Shared} {H : Hp} {E : XK} {f : Addr} (hr : RoomG lv (A.deeper (envOfC "deep" (defScope s_deep) s.heap.objs.size f cdv))) :
    PSs (cxOf CX0 P w K mg base ["worth"] "deep" (defScope s_deep) f cdv A outer s H E).nox (defBody s_deep) (t_deep K sp_need_worth sp_deepness) := by
  have hu := hr.units
  have nd := sc_deep.nd
  exact (pss_cons (ps_expr (pe_callG F_need_worth hr rfl pass0 (pa_cons (pv 0) pa_nil)))
      (pss_one (ps_ret (pe_callG F_deepness hr rfl pass0 (pa_cons (pv 0) pa_nil)))))

abbrev s_steps_in : Stmt := top 24
theorem sc_steps_in : FnScope ["worth", "name"] ["worth"] (defScope s_steps_in) := ⟨rfl, rfl, rfl, by decide +kernel, rfl, by decide +kernel, by decide +kernel⟩
theorem dv_steps_in {lv : Nat} (T : Txt K mg) {cdv : Value} {A : Around} {outer : List PySem.Env} {s : Shared} {H : Hp} {E : XK} {f : Addr} (hr : RoomG lv (A.deeper (envOfC "steps_in" (defScope s_steps_in) s.heap.objs.size f cdv))) :
    PSs (cxOf CX0 P w K mg base ["worth", "name"] "steps_in" (defScope s_steps_in) f cdv A outer s H E).nox (defBody s_steps_in) (t_steps_in K) := by
  have hu := hr.units
  have nd := sc_steps_in.nd
  exact (pss_cons (ps_if (pt_val (pe_callB call_isi (by rfl) T.b_isinstance (by decide +kernel) (pa_cons (pv 0) (pa_cons (pe_bltn (v := .ty "list") rfl T.b_list (by decide +kernel) rfl) pa_nil)))) (pss_one (ps_ret (pe_listEn rfl (pv 0) rfl T.b_list (by decide +kernel) rfl T.b_enumerate))) pss_nil)
      (pss_cons (ps_if (pt_val (pe_callB call_isi (by rfl) T.b_isinstance (by decide +kernel) (pa_cons (pv 0) (pa_cons (pe_bltn (v := .ty "dict") rfl T.b_dict (by decide +kernel) rfl) pa_nil)))) (pss_one (ps_ret (pe_lc (own := [("name", 1)]) (g := (gName 1)) (tt := tYes) rfl nd (pi_list (pe_callB (cr_sortedD rfl) (by rfl) T.b_sorted (by decide +kernel) (pa_cons (pv 0) pa_nil))) (blkOk_by (own := [("name", 1)]) (N := ["worth", "name"]) (sc := defScope s_steps_in) (by decide +kernel)) (fun _ _ _ _ _ => (pg_name (i := 1) nd rfl (by first | exact Or.inl rfl | exact Or.inr rfl))) (fun _ _ _ _ _ => pts_nil) (fun _ _ _ _ _ => (pe_tup (pa_cons (pv 1) (pa_cons (pe_dget (lt1 hu) (pv 0) (pv 1) (fun _ _ => rfl)) pa_nil))))))) pss_nil)
      (pss_one (ps_ret (pe_lst pa_nil)))))

abbrev s_copy_of : Stmt := top 25
theorem sc_copy_of : FnScope ["worth", "one", "found", "name"] ["worth"] (defScope s_copy_of) := ⟨rfl, rfl, rfl, by decide +kernel, rfl, by decide +kernel, by decide +kernel⟩
theorem dv_copy_of {lv : Nat} (T : Txt K mg) {sp_copy_of : Sp} (F_copy_of : FOG P w K mg base CX0 lv "copy_of" ["worth"] sp_copy_of) {cdv : Value} {A : Around} {outer : List PySem.Env} {s : Shared} {H : Hp} {E : XK} {f : Addr} (hr : RoomG lv (A.deeper (envOfC "copy_of" (defScope s_copy_of) s.heap.objs.size f cdv))) :
    PSs (cxOf CX0 P w K mg base ["worth", "one", "found", "name"] "copy_of" (defScope s_copy_of) f cdv A outer s H E).nox (defBody s_copy_of) (t_copy_of K sp_copy_of) := by
  have hu := hr.units
  have nd := sc_copy_of.nd
  exact (pss_cons (ps_if (pt_val (pe_callB call_isi (by rfl) T.b_isinstance (by decide +kernel) (pa_cons (pv 0) (pa_cons (pe_bltn (v := .ty "list") rfl T.b_list (by decide +kernel) rfl) pa_nil)))) (pss_one (ps_ret (pe_lc (own := [("one", 1)]) (g := (gName 1)) (tt := tYes) rfl nd (pi_list (pv 0)) (blkOk_by (own := [("one", 1)]) (N := ["worth", "one", "found", "name"]) (sc := defScope s_copy_of) (by decide +kernel)) (fun _ _ _ _ _ => (pg_name (i := 1) nd rfl (by first | exact Or.inl rfl | exact Or.inr rfl))) (fun _ _ _ _ _ => pts_nil) (fun _ _ _ _ _ => (pe_callG F_copy_of hr rfl pass0 (pa_cons (pv 1) pa_nil)))))) pss_nil)
      (pss_cons (ps_if (pt_val (pe_callB call_isi (by rfl) T.b_isinstance (by decide +kernel) (pa_cons (pv 0) (pa_cons (pe_bltn (v := .ty "dict") rfl T.b_dict (by decide +kernel) rfl) pa_nil)))) (pss_cons (ps_set (i := 2) nd rfl (by first | exact Or.inl rfl | exact Or.inr rfl) pe_dnewK)
      (pss_cons (ps_lockU (ps_for PassesOwn.never rfl (pi_items (pv 0)) (pg_tup rfl (pgs_cons (pg_name (i := 3) nd rfl (by first | exact Or.inl rfl | exact Or.inr rfl)) (pgs_cons (pg_name (i := 1) nd rfl (by first | exact Or.inl rfl | exact Or.inr rfl)) pgs_nil))) (pss_one (ps_asg (pe_callG F_copy_of hr rfl pass0 (pa_cons (pv 1) pa_nil)) (pg_sub (pv 2) (pv 3) (set_dict (lt1 hu)))))))
      (pss_one (ps_ret (pv 2))))) pss_nil)
      (pss_one (ps_ret (pv 0)))))

abbrev s_gathered : Stmt := top 26
theorem sc_gathered : FnScope ["worth", "path", "found", "step", "held"] ["worth", "path"] (defScope s_gathered) := ⟨rfl, rfl, rfl, by decide +kernel, rfl, by decide +kernel, by decide +kernel⟩
theorem dv_gathered {lv : Nat} (T : Txt K mg) {sp_copy_of : Sp} {sp_steps_in : Sp} {sp_gathered : Sp} (F_copy_of : FOG P w K mg base CX0 lv "copy_of" ["worth"] sp_copy_of) (F_steps_in : FOG P w K mg base CX0 lv "steps_in" ["worth"] sp_steps_in) (F_gathered : FOG P w K mg base CX0 lv "gathered" ["worth", "path"] sp_gathered) {cdv : Value} {A : Around} {outer : List PySem.Env} {s : Shared} {H : Hp} {E : XK} {f : Addr} (hr : RoomG lv (A.deeper (envOfC "gathered" (defScope s_gathered) s.heap.objs.size f cdv))) :
    PSs (cxOf CX0 P w K mg base ["worth", "path", "found", "step", "held"] "gathered" (defScope s_gathered) f cdv A outer s H E).nox (defBody s_gathered) (t_gathered K sp_copy_of sp_steps_in sp_gathered) := by
  have hu := hr.units
  have nd := sc_gathered.nd
  exact (pss_cons (ps_set (i := 2) nd rfl (by first | exact Or.inl rfl | exact Or.inr rfl) (pe_lst (pa_cons (pe_tup (pa_cons (pv 1) (pa_cons (pe_callG F_copy_of hr rfl pass0 (pa_cons (pv 0) pa_nil)) pa_nil))) pa_nil)))
      (pss_cons (ps_for PassesOwn.never rfl (pi_list (pe_callG F_steps_in hr rfl pass0 (pa_cons (pv 0) pa_nil))) (pg_tup rfl (pgs_cons (pg_name (i := 3) nd rfl (by first | exact Or.inl rfl | exact Or.inr rfl)) (pgs_cons (pg_name (i := 4) nd rfl (by first | exact Or.inl rfl | exact Or.inr rfl)) pgs_nil))) (pss_one (ps_expr (pe_bm PySem.F.plainAttrs_list PySem.F.slot_list_extend PySem.F.type_list_extend mt_extend (pv 2) (pa_cons (pe_callG F_gathered hr rfl pass0 (pa_cons (pv 4) (pa_cons (pe_op Hk.oAdd (pv 1) (pe_tup (pa_cons (pv 3) pa_nil))) pa_nil))) pa_nil)))))
      (pss_one (ps_ret (pv 2)))))

abbrev s_inner : Stmt := top 27
theorem sc_inner : FnScope ["worth"] ["worth"] (defScope s_inner) := ⟨rfl, rfl, rfl, by decide +kernel, rfl, by decide +kernel, by decide +kernel⟩
theorem dv_inner {lv : Nat} (T : Txt K mg) {sp_need_worth : Sp} {sp_gathered : Sp} (F_need_worth : FOG P w K mg base CX0 lv "need_worth" ["thing"] sp_need_worth) (F_gathered : FOG P w K mg base CX0 lv "gathered" ["worth", "path"] sp_gathered) {cdv : Value} {A : Around} {outer : List PySem.Env} {s : Shared} {H : Hp} {E : XK} {f : Addr} (hr : RoomG lv (A.deeper (envOfC "inner" (defScope s_inner) s.heap.objs.size f cdv))) :
    PSs (cxOf CX0 P w K mg base ["worth"] "inner" (defScope s_inner) f cdv A outer s H E).nox (defBody s_inner) (t_inner K sp_need_worth sp_gathered) := by
  have hu := hr.units
  have nd := sc_inner.nd
  exact (pss_cons (ps_expr (pe_callG F_need_worth hr rfl pass0 (pa_cons (pv 0) pa_nil)))
      (pss_one (ps_ret (pe_callG F_gathered hr rfl pass0 (pa_cons (pv 0) (pa_cons (pe_tup pa_nil) pa_nil))))))

abbrev s_leads : Stmt := top 28
theorem sc_leads : FnScope ["worth", "step"] ["worth", "step"] (defScope s_leads) := ⟨rfl, rfl, rfl, by decide +kernel, rfl, by decide +kernel, by decide +kernel⟩
theorem dv_leads {lv : Nat} (T : Txt K mg) {sp_is_whole : Sp} (F_is_whole : FOG P w K mg base CX0 lv "is_whole" ["thing"] sp_is_whole) {cdv : Value} {A : Around} {outer : List PySem.Env} {s : Shared} {H : Hp} {E : XK} {f : Addr} (hr : RoomG lv (A.deeper (envOfC "leads" (defScope s_leads) s.heap.objs.size f cdv))) :
    PSs (cxOf CX0 P w K mg base ["worth", "step"] "leads" (defScope s_leads) f cdv A outer s H E).nox (defBody s_leads) (t_leads K sp_is_whole) := by
  have hu := hr.units
  have nd := sc_leads.nd
  exact (pss_cons (ps_if (pt_val (pe_callB call_isi (by rfl) T.b_isinstance (by decide +kernel) (pa_cons (pv 0) (pa_cons (pe_bltn (v := .ty "list") rfl T.b_list (by decide +kernel) rfl) pa_nil)))) (pss_one (ps_ret (pe_and (pe_callG F_is_whole hr rfl pass0 (pa_cons (pv 1) pa_nil)) (pe_one (pe_chain op_le Hk.oLt pe_int (pv 1) (pe_callB call_lenX (by rfl) T.b_len (by decide +kernel) (pa_cons (pv 0) pa_nil))))))) pss_nil)
      (pss_one (ps_ret (pe_and (pe_callB call_isi (by rfl) T.b_isinstance (by decide +kernel) (pa_cons (pv 0) (pa_cons (pe_bltn (v := .ty "dict") rfl T.b_dict (by decide +kernel) rfl) pa_nil))) (pe_and (pe_callB call_isi (by rfl) T.b_isinstance (by decide +kernel) (pa_cons (pv 1) (pa_cons (pe_bltn (v := .ty "str") rfl T.b_str (by decide +kernel) rfl) pa_nil))) (pe_one (pe_cmpR (Hk.oInA hu) (pv 1) (pv 0) (by rfl))))))))

abbrev s_worth_at : Stmt := top 29
theorem sc_worth_at : FnScope ["worth", "path", "found", "step"] ["worth", "path"] (defScope s_worth_at) := ⟨rfl, rfl, rfl, by decide +kernel, rfl, by decide +kernel, by decide +kernel⟩
theorem dv_worth_at {lv : Nat} (T : Txt K mg) {sp_need_worth : Sp} {sp_leads : Sp} {sp_copy_of : Sp} (F_need_worth : FOG P w K mg base CX0 lv "need_worth" ["thing"] sp_need_worth) (F_leads : FOG P w K mg base CX0 lv "leads" ["worth", "step"] sp_leads) (F_copy_of : FOG P w K mg base CX0 lv "copy_of" ["worth"] sp_copy_of) {cdv : Value} {A : Around} {outer : List PySem.Env} {s : Shared} {H : Hp} {E : XK} {f : Addr} (hr : RoomG lv (A.deeper (envOfC "worth_at" (defScope s_worth_at) s.heap.objs.size f cdv))) :
    PSs (cxOf CX0 P w K mg base ["worth", "path", "found", "step"] "worth_at" (defScope s_worth_at) f cdv A outer s H E).nox (defBody s_worth_at) (t_worth_at K sp_need_worth sp_leads sp_copy_of) := by
  have hu := hr.units
  have nd := sc_worth_at.nd
  exact (pss_cons (ps_expr (pe_callG F_need_worth hr rfl pass0 (pa_cons (pv 0) pa_nil)))
      (pss_cons (ps_if (pt_not (pt_val (pe_callB call_isi (by rfl) T.b_isinstance (by decide +kernel) (pa_cons (pv 1) (pa_cons (pe_bltn (v := .ty "tuple") rfl T.b_tuple (by decide +kernel) rfl) pa_nil))))) (pss_one ps_never) pss_nil)
      (pss_cons (ps_set (i := 2) nd rfl (by first | exact Or.inl rfl | exact Or.inr rfl) (pv 0))
      (pss_cons (ps_for PassesOwn.never rfl (pi_tup (pv 1)) (pg_name (i := 3) nd rfl (by first | exact Or.inl rfl | exact Or.inr rfl)) (pss_cons (ps_if (pt_not (pt_val (pe_callG F_leads hr rfl pass0 (pa_cons (pv 2) (pa_cons (pv 3) pa_nil))))) (pss_one ps_never) pss_nil)
      (pss_one (ps_set (i := 2) nd rfl (by first | exact Or.inl rfl | exact Or.inr rfl) (pe_ix (ixAll hu) (pv 2) (pv 3) (fun _ _ => rfl))))))
      (pss_one (ps_ret (pe_callG F_copy_of hr rfl pass0 (pa_cons (pv 2) pa_nil))))))))

abbrev s__law_cell : Stmt := top 31
theorem sc__law_cell : FnScope ["_law_script", "_law_k"] ["_law_script", "_law_k"] (defScope s__law_cell) := ⟨rfl, rfl, rfl, by decide +kernel, rfl, by decide +kernel, by decide +kernel⟩
theorem dv__law_cell {lv : Nat} (T : Txt K mg) {cdv : Value} {A : Around} {outer : List PySem.Env} {s : Shared} {H : Hp} {E : XK} {f : Addr} (hr : RoomG lv (A.deeper (envOfC "_law_cell" (defScope s__law_cell) s.heap.objs.size f cdv))) :
    PSs (cxOf CX0 P w K mg base ["_law_script", "_law_k"] "_law_cell" (defScope s__law_cell) f cdv A outer s H E).nox (defBody s__law_cell) (t__law_cell K) := by
  have hu := hr.units
  have nd := sc__law_cell.nd
  exact (pss_cons (ps_if (pt_cmpR Hk.oLt (pv 1) (pe_callB call_lenX (by rfl) T.b_len (by decide +kernel) (pa_cons (pv 0) pa_nil)) (nomark _)) (pss_one (ps_ret (pe_ix (ixAny hu) (pv 0) (pv 1) (fun _ _ => rfl)))) pss_nil)
      (pss_one (ps_ret (pe_op Hk.oAdd (pe_op Hk.oMulX pe_int (pv 1)) pe_int))))

abbrev s__law_box : Stmt := top 32
theorem sc__law_box : FnScope ["_law_cell_here"] ["_law_cell_here"] (defScope s__law_box) := ⟨rfl, rfl, rfl, by decide +kernel, rfl, by decide +kernel, by decide +kernel⟩
theorem dv__law_box {lv : Nat} (T : Txt K mg) {cdv : Value} {A : Around} {outer : List PySem.Env} {s : Shared} {H : Hp} {E : XK} {f : Addr} (hr : RoomG lv (A.deeper (envOfC "_law_box" (defScope s__law_box) s.heap.objs.size f cdv))) :
    PSs (cxOf CX0 P w K mg base ["_law_cell_here"] "_law_box" (defScope s__law_box) f cdv A outer s H E).nox (defBody s__law_box) (t__law_box K) := by
  have hu := hr.units
  have nd := sc__law_box.nd
  exact (pss_one (ps_ret (pe_lst (pa_cons (pe_callB (call_max2 rfl) (by rfl) T.b_max (by decide +kernel) (pa_cons pe_int (pa_cons (pe_op op_sub (pv 0) (pe_op op_pow pe_int pe_int)) pa_nil))) (pa_cons (pe_op op_mod (pv 0) pe_int) (pa_cons pe_int pa_nil))))))

abbrev s__law_take : Stmt := top 33
theorem sc__law_take : FnScope ["_law_box_here", "_law_many", "_law_digit", "_law_number_here"] ["_law_box_here", "_law_many"] (defScope s__law_take) := ⟨rfl, rfl, rfl, by decide +kernel, rfl, by decide +kernel, by decide +kernel⟩
theorem dv__law_take {lv : Nat} (T : Txt K mg) {cdv : Value} {A : Around} {outer : List PySem.Env} {s : Shared} {H : Hp} {E : XK} {f : Addr} (hr : RoomG lv (A.deeper (envOfC "_law_take" (defScope s__law_take) s.heap.objs.size f cdv))) :
    PSs (cxOf CX0 P w K mg base ["_law_box_here", "_law_many", "_law_digit", "_law_number_here"] "_law_take" (defScope s__law_take) f cdv A outer s H E).nox (defBody s__law_take) (t__law_take K) := by
  have hu := hr.units
  have nd := sc__law_take.nd
  exact (pss_cons (ps_if (pt_cmpR op_gt (pe_ix (ixAny hu) (pv 0) pe_int (fun _ _ => rfl)) pe_int (nomark _)) (pss_cons (ps_set (i := 2) nd rfl (by first | exact Or.inl rfl | exact Or.inr rfl) (pe_op op_mod (pe_ix (ixAny hu) (pv 0) pe_int (fun _ _ => rfl)) (pv 1)))
      (pss_cons (ps_asg (pe_op op_fdivW (pe_ix (ixAny hu) (pv 0) pe_int (fun _ _ => rfl)) (pv 1)) (pg_sub (pv 0) pe_int set_list))
      (pss_one (ps_ret (pv 2))))) pss_nil)
      (pss_cons (ps_asg (pe_op Hk.oAdd (pe_ix (ixAny hu) (pv 0) pe_int (fun _ _ => rfl)) pe_int) (pg_sub (pv 0) pe_int set_list))
      (pss_cons (ps_set (i := 3) nd rfl (by first | exact Or.inl rfl | exact Or.inr rfl) (pe_op op_mod (pe_op op_pow (pe_op Hk.oAdd (pe_op Hk.oAdd (pe_ix (ixAny hu) (pv 0) pe_int (fun _ _ => rfl)) (pe_op Hk.oMulX pe_int (pe_ix (ixAny hu) (pv 0) pe_int (fun _ _ => rfl)))) pe_int) pe_int) pe_int))
      (pss_cons (ps_set (i := 3) nd rfl (by first | exact Or.inl rfl | exact Or.inr rfl) (pe_op op_mod (pe_op op_pow (pe_op Hk.oAdd (pe_op Hk.oMulX (pv 3) (pe_op Hk.oAdd pe_int (pe_ix (ixAny hu) (pv 0) pe_int (fun _ _ => rfl)))) pe_int) pe_int) pe_int))
      (pss_one (ps_ret (pe_op op_mod (pe_op op_fdivW (pv 3) pe_int) (pv 1))))))))

abbrev s__law_signs : Stmt := top 34
theorem sc__law_signs : FnScope [] [] (defScope s__law_signs) := ⟨rfl, rfl, rfl, by decide +kernel, rfl, by decide +kernel, by decide +kernel⟩
theorem dv__law_signs {lv : Nat} (T : Txt K mg) {cdv : Value} {A : Around} {outer : List PySem.Env} {s : Shared} {H : Hp} {E : XK} {f : Addr} (hr : RoomG lv (A.deeper (envOfC "_law_signs" (defScope s__law_signs) s.heap.objs.size f cdv))) :
    PSs (cxOf CX0 P w K mg base [] "_law_signs" (defScope s__law_signs) f cdv A outer s H E).nox (defBody s__law_signs) (t__law_signs K) := by
  have hu := hr.units
  have nd := sc__law_signs.nd
  exact (pss_one (ps_ret pe_str))

abbrev s__law_number : Stmt := top 35
theorem sc__law_number : FnScope ["_law_box_here", "_law_way", "_law_number_here", "_law_k"] ["_law_box_here"] (defScope s__law_number) := ⟨rfl, rfl, rfl, by decide +kernel, rfl, by decide +kernel, by decide +kernel⟩
theorem dv__law_number {lv : Nat} (T : Txt K mg) {sp__law_take : Sp} (F__law_take : FOG P w K mg base CX0 lv "_law_take" ["_law_box_here", "_law_many"] sp__law_take) {cdv : Value} {A : Around} {outer : List PySem.Env} {s : Shared} {H : Hp} {E : XK} {f : Addr} (hr : RoomG lv (A.deeper (envOfC "_law_number" (defScope s__law_number) s.heap.objs.size f cdv))) :
    PSs (cxOf CX0 P w K mg base ["_law_box_here", "_law_way", "_law_number_here", "_law_k"] "_law_number" (defScope s__law_number) f cdv A outer s H E).nox (defBody s__law_number) (t__law_number K sp__law_take) := by
  have hu := hr.units
  have nd := sc__law_number.nd
  exact (pss_cons (ps_set (i := 1) nd rfl (by first | exact Or.inl rfl | exact Or.inr rfl) (pe_callG F__law_take hr rfl pass0 (pa_cons (pv 0) (pa_cons pe_int pa_nil))))
      (pss_cons (ps_if (pt_cmpR Hk.oLt (pv 1) pe_int (nomark _)) (pss_one (ps_ret (pe_op op_sub (pe_callG F__law_take hr rfl pass0 (pa_cons (pv 0) (pa_cons pe_int pa_nil))) pe_int))) pss_nil)
      (pss_cons (ps_if (pt_cmpR (oEqY hu) (pv 1) pe_int (nomark _)) (pss_one (ps_ret (pe_op Hk.oMulX (pe_ix (ixAny hu) (pe_lst (pa_cons pe_int (pa_cons (pe_un un_neg pe_int) pa_nil))) (pe_callG F__law_take hr rfl pass0 (pa_cons (pv 0) (pa_cons pe_int pa_nil))) (fun _ _ => rfl)) (pe_op op_sub (pe_op op_sub (pe_op op_pow pe_int pe_int) pe_int) (pe_callG F__law_take hr rfl pass0 (pa_cons (pv 0) (pa_cons pe_int pa_nil))))))) pss_nil)
      (pss_cons (ps_set (i := 2) nd rfl (by first | exact Or.inl rfl | exact Or.inr rfl) pe_int)
      (pss_cons (ps_for PassesOwn.never rfl (pi_range1 rfl T.b_range (pa_cons (pe_op Hk.oAdd pe_int (pe_callG F__law_take hr rfl pass0 (pa_cons (pv 0) (pa_cons pe_int pa_nil)))) pa_nil)) (pg_name (i := 3) nd rfl (by first | exact Or.inl rfl | exact Or.inr rfl)) (pss_one (ps_set (i := 2) nd rfl (by first | exact Or.inl rfl | exact Or.inr rfl) (pe_op Hk.oAdd (pe_op Hk.oMulX (pv 2) (pe_op op_pow pe_int pe_int)) (pe_callG F__law_take hr rfl pass0 (pa_cons (pv 0) (pa_cons (pe_op op_pow pe_int pe_int) pa_nil)))))))
      (pss_one (ps_ret (pe_op Hk.oMulX (pv 2) (pe_ix (ixAny hu) (pe_lst (pa_cons pe_int (pa_cons (pe_un un_neg pe_int) pa_nil))) (pe_callG F__law_take hr rfl pass0 (pa_cons (pv 0) (pa_cons pe_int pa_nil))) (fun _ _ => rfl))))))))))

abbrev s__law_text : Stmt := top 36
theorem sc__law_text : FnScope ["_law_box_here", "_law_signs_here", "_law_size", "_law_first", "_law_step", "_law_k"] ["_law_box_here"] (defScope s__law_text) := ⟨rfl, rfl, rfl, by decide +kernel, rfl, by decide +kernel, by decide +kernel⟩
theorem dv__law_text {lv : Nat} (T : Txt K mg) {sp__law_signs : Sp} {sp__law_take : Sp} (F__law_signs : FOG P w K mg base CX0 lv "_law_signs" [] sp__law_signs) (F__law_take : FOG P w K mg base CX0 lv "_law_take" ["_law_box_here", "_law_many"] sp__law_take) {cdv : Value} {A : Around} {outer : List PySem.Env} {s : Shared} {H : Hp} {E : XK} {f : Addr} (hr : RoomG lv (A.deeper (envOfC "_law_text" (defScope s__law_text) s.heap.objs.size f cdv))) :
    PSs (cxOf CX0 P w K mg base ["_law_box_here", "_law_signs_here", "_law_size", "_law_first", "_law_step", "_law_k"] "_law_text" (defScope s__law_text) f cdv A outer s H E).nox (defBody s__law_text) (t__law_text K sp__law_signs sp__law_take) := by
  have hu := hr.units
  have nd := sc__law_text.nd
  exact (pss_cons (ps_set (i := 1) nd rfl (by first | exact Or.inl rfl | exact Or.inr rfl) (pe_callG0 F__law_signs hr rfl pass0))
      (pss_cons (ps_set (i := 2) nd rfl (by first | exact Or.inl rfl | exact Or.inr rfl) (pe_ix (ixAny hu) (pe_lst (pa_cons (pe_callG F__law_take hr rfl pass0 (pa_cons (pv 0) (pa_cons pe_int pa_nil))) (pa_cons pe_int (pa_cons (pe_callG F__law_take hr rfl pass0 (pa_cons (pv 0) (pa_cons pe_int pa_nil))) pa_nil)))) (pe_callG F__law_take hr rfl pass0 (pa_cons (pv 0) (pa_cons pe_int pa_nil))) (fun _ _ => rfl)))
      (pss_cons (ps_set (i := 3) nd rfl (by first | exact Or.inl rfl | exact Or.inr rfl) (pe_callG F__law_take hr rfl pass0 (pa_cons (pv 0) (pa_cons pe_int pa_nil))))
      (pss_cons (ps_set (i := 4) nd rfl (by first | exact Or.inl rfl | exact Or.inr rfl) (pe_callG F__law_take hr rfl pass0 (pa_cons (pv 0) (pa_cons pe_int pa_nil))))
      (pss_one (ps_ret (pe_join pe_str (pe_lc (own := [("_law_k", 5)]) (g := (gName 5)) (tt := tYes) rfl nd (pi_range1 rfl T.b_range (pa_cons (pv 2) pa_nil)) (blkOk_by (own := [("_law_k", 5)]) (N := ["_law_box_here", "_law_signs_here", "_law_size", "_law_first", "_law_step", "_law_k"]) (sc := defScope s__law_text) (by decide +kernel)) (fun _ _ _ _ _ => (pg_name (i := 5) nd rfl (by first | exact Or.inl rfl | exact Or.inr rfl))) (fun _ _ _ _ _ => pts_nil) (fun _ _ _ _ _ => (pe_ix (ixAny hu) (pv 1) (pe_op op_mod (pe_op Hk.oAdd (pv 3) (pe_op Hk.oMulX (pv 4) (pv 5))) pe_int) (fun _ _ => rfl)))))))))))

abbrev s__law_names : Stmt := top 37
theorem sc__law_names : FnScope ["_law_box_here", "_law_many", "_law_letters", "_law_way", "_law_first", "_law_names_here", "_law_k", "_law_size", "_law_at", "_law_base", "_law_name"] ["_law_box_here", "_law_many"] (defScope s__law_names) := ⟨rfl, rfl, rfl, by decide +kernel, rfl, by decide +kernel, by decide +kernel⟩
theorem dv__law_names {lv : Nat} (T : Txt K mg) {sp__law_take : Sp} (F__law_take : FOG P w K mg base CX0 lv "_law_take" ["_law_box_here", "_law_many"] sp__law_take) {cdv : Value} {A : Around} {outer : List PySem.Env} {s : Shared} {H : Hp} {E : XK} {f : Addr} (hr : RoomG lv (A.deeper (envOfC "_law_names" (defScope s__law_names) s.heap.objs.size f cdv))) :
    PSs (cxOf CX0 P w K mg base ["_law_box_here", "_law_many", "_law_letters", "_law_way", "_law_first", "_law_names_here", "_law_k", "_law_size", "_law_at", "_law_base", "_law_name"] "_law_names" (defScope s__law_names) f cdv A outer s H E).nox (defBody s__law_names) (t__law_names K sp__law_take) := by
  have hu := hr.units
  have nd := sc__law_names.nd
  exact (pss_cons (ps_set (i := 2) nd rfl (by first | exact Or.inl rfl | exact Or.inr rfl) pe_str)
      (pss_cons (ps_set (i := 3) nd rfl (by first | exact Or.inl rfl | exact Or.inr rfl) (pe_callG F__law_take hr rfl pass0 (pa_cons (pv 0) (pa_cons pe_int pa_nil))))
      (pss_cons (ps_set (i := 4) nd rfl (by first | exact Or.inl rfl | exact Or.inr rfl) (pe_callG F__law_take hr rfl pass0 (pa_cons (pv 0) (pa_cons pe_int pa_nil))))
      (pss_cons (ps_setLc (i := 5) (own := [("_law_k", 6)]) (g := (gName 6)) (tt := tYes) rfl nd rfl rfl (sw_true rfl rfl rfl (by decide +kernel)) (pi_range1 rfl T.b_range (pa_cons (pv 1) pa_nil)) (blkOk_by (own := [("_law_k", 6)]) (N := ["_law_box_here", "_law_many", "_law_letters", "_law_way", "_law_first", "_law_names_here", "_law_k", "_law_size", "_law_at", "_law_base", "_law_name"]) (sc := defScope s__law_names) (by decide +kernel)) (fun _ _ _ _ _ => (pg_name (i := 6) nd rfl (by first | exact Or.inl rfl | exact Or.inr rfl))) (fun _ _ _ _ _ => pts_nil) (fun _ _ _ _ _ => (pe_ix (ixAny hu) (pv 2) (pe_op op_mod (pe_op Hk.oAdd (pv 4) (pe_op Hk.oMulX pe_int (pv 6))) pe_int) (fun _ _ => rfl))))
      (pss_cons (ps_if (pt_cmpR (oEqY hu) (pv 3) pe_int (nomark _)) (pss_cons (ps_set (i := 7) nd rfl (by first | exact Or.inl rfl | exact Or.inr rfl) (pe_callG F__law_take hr rfl pass0 (pa_cons (pv 0) (pa_cons pe_int pa_nil))))
      (pss_cons (ps_set (i := 8) nd rfl (by first | exact Or.inl rfl | exact Or.inr rfl) (pe_callG F__law_take hr rfl pass0 (pa_cons (pv 0) (pa_cons (pe_op Hk.oAdd (pv 7) pe_int) pa_nil))))
      (pss_cons (ps_set (i := 9) nd rfl (by first | exact Or.inl rfl | exact Or.inr rfl) (pe_join pe_str (pe_lc (own := [("_law_k", 6)]) (g := (gName 6)) (tt := tYes) rfl nd (pi_range1 rfl T.b_range (pa_cons (pv 7) pa_nil)) (blkOk_by (own := [("_law_k", 6)]) (N := ["_law_box_here", "_law_many", "_law_letters", "_law_way", "_law_first", "_law_names_here", "_law_k", "_law_size", "_law_at", "_law_base", "_law_name"]) (sc := defScope s__law_names) (by decide +kernel)) (fun _ _ _ _ _ => (pg_name (i := 6) nd rfl (by first | exact Or.inl rfl | exact Or.inr rfl))) (fun _ _ _ _ _ => pts_nil) (fun _ _ _ _ _ => (pe_ix (ixAny hu) (pv 2) (pe_callG F__law_take hr rfl pass0 (pa_cons (pv 0) (pa_cons pe_int pa_nil))) (fun _ _ => rfl))))))
      (pss_one (ps_setLc (i := 5) (own := [("_law_name", 10)]) (g := (gName 10)) (tt := tYes) rfl nd rfl rfl (sw_true rfl rfl rfl (by decide +kernel)) (pi_list (pv 5)) (blkOk_by (own := [("_law_name", 10)]) (N := ["_law_box_here", "_law_many", "_law_letters", "_law_way", "_law_first", "_law_names_here", "_law_k", "_law_size", "_law_at", "_law_base", "_law_name"]) (sc := defScope s__law_names) (by decide +kernel)) (fun _ _ _ _ _ => (pg_name (i := 10) nd rfl (by first | exact Or.inl rfl | exact Or.inr rfl))) (fun _ _ _ _ _ => pts_nil) (fun _ _ _ _ _ => (pe_op Hk.oAdd (pe_op Hk.oAdd (pe_slice slAny (pv 9) po_none (po_some (pv 8))) (pv 10)) (pe_slice slAny (pv 9) (po_some (pv 8)) po_none)))))))) pss_nil)
      (pss_cons (ps_if (pt_cmpR (oEqY hu) (pv 3) pe_int (nomark _)) (pss_one (ps_setLc (i := 5) (own := [("_law_k", 6)]) (g := (gName 6)) (tt := tYes) rfl nd rfl rfl (sw_true rfl rfl rfl (by decide +kernel)) (pi_range1 rfl T.b_range (pa_cons (pv 1) pa_nil)) (blkOk_by (own := [("_law_k", 6)]) (N := ["_law_box_here", "_law_many", "_law_letters", "_law_way", "_law_first", "_law_names_here", "_law_k", "_law_size", "_law_at", "_law_base", "_law_name"]) (sc := defScope s__law_names) (by decide +kernel)) (fun _ _ _ _ _ => (pg_name (i := 6) nd rfl (by first | exact Or.inl rfl | exact Or.inr rfl))) (fun _ _ _ _ _ => pts_nil) (fun _ _ _ _ _ => (pe_op Hk.oMulX (pe_ix (ixAny hu) (pv 2) (pv 4) (fun _ _ => rfl)) (pe_op Hk.oAdd pe_int (pv 6)))))) pss_nil)
      (pss_cons (ps_set (i := 8) nd rfl (by first | exact Or.inl rfl | exact Or.inr rfl) (pe_callG F__law_take hr rfl pass0 (pa_cons (pv 0) (pa_cons (pe_op Hk.oAdd (pv 1) pe_int) pa_nil))))
      (pss_one (ps_ret (pe_op Hk.oAdd (pe_slice slAny (pv 5) (po_some (pv 8)) po_none) (pe_slice slAny (pv 5) po_none (po_some (pv 8)))))))))))))

abbrev s__law_worth : Stmt := top 38
theorem sc__law_worth : FnScope ["_law_box_here", "_law_most", "_law_way", "_law_many", "_law_k", "_law_found", "_law_name"] ["_law_box_here", "_law_most"] (defScope s__law_worth) := ⟨rfl, rfl, rfl, by decide +kernel, rfl, by decide +kernel, by decide +kernel⟩
theorem dv__law_worth {lv : Nat} (T : Txt K mg) {sp__law_take : Sp} {sp__law_number : Sp} {sp__law_text : Sp} {sp__law_worth : Sp} {sp__law_names : Sp} (F__law_take : FOG P w K mg base CX0 lv "_law_take" ["_law_box_here", "_law_many"] sp__law_take) (F__law_number : FOG P w K mg base CX0 lv "_law_number" ["_law_box_here"] sp__law_number) (F__law_text : FOG P w K mg base CX0 lv "_law_text" ["_law_box_here"] sp__law_text) (F__law_worth : FOG P w K mg base CX0 lv "_law_worth" ["_law_box_here", "_law_most"] sp__law_worth) (F__law_names : FOG P w K mg base CX0 lv "_law_names" ["_law_box_here", "_law_many"] sp__law_names) {cdv : Value} {A : Around} {outer : List PySem.Env} {s : Shared} {H : Hp} {E : XK} {f : Addr} (hr : RoomG lv (A.deeper (envOfC "_law_worth" (defScope s__law_worth) s.heap.objs.size f cdv))) :
    PSs (cxOf CX0 P w K mg base ["_law_box_here", "_law_most", "_law_way", "_law_many", "_law_k", "_law_found", "_law_name"] "_law_worth" (defScope s__law_worth) f cdv A outer s H E).nox (defBody s__law_worth) (t__law_worth K sp__law_take sp__law_number sp__law_text sp__law_worth sp__law_names) := by
  have hu := hr.units
  have nd := sc__law_worth.nd
  exact (pss_cons (ps_set (i := 2) nd rfl (by first | exact Or.inl rfl | exact Or.inr rfl) (pe_callG F__law_take hr rfl pass0 (pa_cons (pv 0) (pa_cons pe_int pa_nil))))
      (pss_cons (ps_if (pt_cmpR (oEqY hu) (pv 2) pe_int (nomark _)) (pss_one (ps_ret pe_non)) pss_nil)
      (pss_cons (ps_if (pt_cmpR (oEqY hu) (pv 2) pe_int (nomark _)) (pss_one (ps_ret (pe_cmpR (oEqY hu) (pe_callG F__law_take hr rfl pass0 (pa_cons (pv 0) (pa_cons pe_int pa_nil))) pe_int (nomark _)))) pss_nil)
      (pss_cons (ps_if (PW.pt (pw_or (pt_cmpR (oEqY hu) (pv 2) pe_int (nomark _)) (pw_or1 (PW.pt (pw_and (pt_cmpR (oEqY hu) (pv 1) pe_int (nomark _)) (pw_and1 (pt_cmpR op_gt (pv 2) pe_int (nomark _)))))))) (pss_one (ps_ret (pe_callG F__law_number hr rfl pass0 (pa_cons (pv 0) pa_nil)))) pss_nil)
      (pss_cons (ps_if (PW.pt (pw_or (pt_cmpR (oEqY hu) (pv 2) pe_int (nomark _)) (pw_or1 (pt_cmpR (oEqY hu) (pv 1) pe_int (nomark _))))) (pss_one (ps_ret (pe_callG F__law_text hr rfl pass0 (pa_cons (pv 0) pa_nil)))) pss_nil)
      (pss_cons (ps_set (i := 3) nd rfl (by first | exact Or.inl rfl | exact Or.inr rfl) (pe_ix (ixAny hu) (pe_lst (pa_cons (pe_callG F__law_take hr rfl pass0 (pa_cons (pv 0) (pa_cons pe_int pa_nil))) (pa_cons (pe_callG F__law_take hr rfl pass0 (pa_cons (pv 0) (pa_cons (pe_ix (ixAny hu) (pe_lst (pa_cons pe_int (pa_cons pe_int (pa_cons pe_int (pa_cons pe_int pa_nil))))) (pe_op op_sub (pv 1) pe_int) (fun _ _ => rfl)) pa_nil))) pa_nil))) (pe_callG F__law_take hr rfl pass0 (pa_cons (pv 0) (pa_cons pe_int pa_nil))) (fun _ _ => rfl)))
      (pss_cons (ps_if (pt_cmpR Hk.oLt (pv 2) pe_int (nomark _)) (pss_one (ps_ret (pe_lc (own := [("_law_k", 4)]) (g := (gName 4)) (tt := tYes) rfl nd (pi_range1 rfl T.b_range (pa_cons (pe_callB (call_min2 rfl) (by rfl) T.b_min (by decide +kernel) (pa_cons pe_int (pa_cons (pv 3) pa_nil))) pa_nil)) (blkOk_by (own := [("_law_k", 4)]) (N := ["_law_box_here", "_law_most", "_law_way", "_law_many", "_law_k", "_law_found", "_law_name"]) (sc := defScope s__law_worth) (by decide +kernel)) (fun _ _ _ _ _ => (pg_name (i := 4) nd rfl (by first | exact Or.inl rfl | exact Or.inr rfl))) (fun _ _ _ _ _ => pts_nil) (fun _ _ _ _ _ => (pe_callG F__law_worth hr rfl pass0 (pa_cons (pv 0) (pa_cons (pe_op op_sub (pv 1) pe_int) pa_nil))))))) pss_nil)
      (pss_cons (ps_set (i := 5) nd rfl (by first | exact Or.inl rfl | exact Or.inr rfl) pe_dnewK)
      (pss_cons (ps_for PassesOwn.never rfl (pi_list (pe_callG F__law_names hr rfl pass0 (pa_cons (pv 0) (pa_cons (pv 3) pa_nil)))) (pg_name (i := 6) nd rfl (by first | exact Or.inl rfl | exact Or.inr rfl)) (pss_one (ps_asg (pe_callG F__law_worth hr rfl pass0 (pa_cons (pv 0) (pa_cons (pe_op op_sub (pv 1) pe_int) pa_nil))) (pg_sub (pv 5) (pv 6) (set_dict (lt1 hu))))))
      (pss_one (ps_ret (pv 5))))))))))))

abbrev s__law_sort : Stmt := top 39
theorem sc__law_sort : FnScope ["_law_worth_here", "_law_sorts", "_law_words"] ["_law_worth_here"] (defScope s__law_sort) := ⟨rfl, rfl, rfl, by decide +kernel, rfl, by decide +kernel, by decide +kernel⟩
theorem dv__law_sort {lv : Nat} (T : Txt K mg) {cdv : Value} {A : Around} {outer : List PySem.Env} {s : Shared} {H : Hp} {E : XK} {f : Addr} (hr : RoomG lv (A.deeper (envOfC "_law_sort" (defScope s__law_sort) s.heap.objs.size f cdv))) :
    PSs (cxOf CX0 P w K mg base ["_law_worth_here", "_law_sorts", "_law_words"] "_law_sort" (defScope s__law_sort) f cdv A outer s H E).nox (defBody s__law_sort) (t__law_sort K) := by
  have hu := hr.units
  have nd := sc__law_sort.nd
  exact (pss_cons (ps_set (i := 1) nd rfl (by first | exact Or.inl rfl | exact Or.inr rfl) (pe_lst (pa_cons (pe_cmpR op_isN (pv 0) pe_non (nomark _)) (pa_cons (pe_callB call_isi (by rfl) T.b_isinstance (by decide +kernel) (pa_cons (pv 0) (pa_cons (pe_bltn (v := .ty "bool") rfl T.b_bool (by decide +kernel) rfl) pa_nil))) (pa_cons (pe_callB call_isi (by rfl) T.b_isinstance (by decide +kernel) (pa_cons (pv 0) (pa_cons (pe_bltn (v := .ty "int") rfl T.b_int (by decide +kernel) rfl) pa_nil))) (pa_cons (pe_callB call_isi (by rfl) T.b_isinstance (by decide +kernel) (pa_cons (pv 0) (pa_cons (pe_bltn (v := .ty "str") rfl T.b_str (by decide +kernel) rfl) pa_nil))) pa_nil))))))
      (pss_cons (ps_set (i := 2) nd rfl (by first | exact Or.inl rfl | exact Or.inr rfl) (pe_lst (pa_cons pe_str (pa_cons pe_str (pa_cons pe_str (pa_cons pe_str (pa_cons pe_str (pa_cons pe_str pa_nil))))))))
      (pss_one (ps_ret (pe_ix (ixAny hu) (pv 2) (pe_bm PySem.F.plainAttrs_list PySem.F.slot_list_index PySem.F.type_list_index mt_index (pe_op Hk.oAdd (pv 1) (pe_lst (pa_cons (pe_callB call_isi (by rfl) T.b_isinstance (by decide +kernel) (pa_cons (pv 0) (pa_cons (pe_bltn (v := .ty "list") rfl T.b_list (by decide +kernel) rfl) pa_nil))) (pa_cons pe_bl pa_nil)))) (pa_cons pe_bl pa_nil)) (fun _ _ => rfl))))))

abbrev s__law_deep : Stmt := top 40
theorem sc__law_deep : FnScope ["_law_worth_here", "_law_carried", "_law_one"] ["_law_worth_here"] (defScope s__law_deep) := ⟨rfl, rfl, rfl, by decide +kernel, rfl, by decide +kernel, by decide +kernel⟩
theorem dv__law_deep {lv : Nat} (T : Txt K mg) {sp__law_deep : Sp} (F__law_deep : FOG P w K mg base CX0 lv "_law_deep" ["_law_worth_here"] sp__law_deep) {cdv : Value} {A : Around} {outer : List PySem.Env} {s : Shared} {H : Hp} {E : XK} {f : Addr} (hr : RoomG lv (A.deeper (envOfC "_law_deep" (defScope s__law_deep) s.heap.objs.size f cdv))) :
    PSs (cxOf CX0 P w K mg base ["_law_worth_here", "_law_carried", "_law_one"] "_law_deep" (defScope s__law_deep) f cdv A outer s H E).nox (defBody s__law_deep) (t__law_deep K sp__law_deep) := by
  have hu := hr.units
  have nd := sc__law_deep.nd
  exact (pss_cons (ps_set (i := 1) nd rfl (by first | exact Or.inl rfl | exact Or.inr rfl) (pe_lst pa_nil))
      (pss_cons (ps_if (pt_val (pe_callB call_isi (by rfl) T.b_isinstance (by decide +kernel) (pa_cons (pv 0) (pa_cons (pe_bltn (v := .ty "list") rfl T.b_list (by decide +kernel) rfl) pa_nil)))) (pss_one (ps_set (i := 1) nd rfl (by first | exact Or.inl rfl | exact Or.inr rfl) (pv 0))) pss_nil)
      (pss_cons (ps_if (pt_val (pe_callB call_isi (by rfl) T.b_isinstance (by decide +kernel) (pa_cons (pv 0) (pa_cons (pe_bltn (v := .ty "dict") rfl T.b_dict (by decide +kernel) rfl) pa_nil)))) (pss_one (ps_set (i := 1) nd rfl (by first | exact Or.inl rfl | exact Or.inr rfl) (pe_listVals rfl (pv 0) rfl T.b_list (by decide +kernel)))) pss_nil)
      (pss_one (ps_ret (pe_op Hk.oAdd pe_int (pe_callB (cr_max rfl) (by rfl) T.b_max (by decide +kernel) (pa_cons (pe_op Hk.oAdd (pe_lst (pa_cons pe_int pa_nil)) (pe_lc (own := [("_law_one", 2)]) (g := (gName 2)) (tt := tYes) rfl nd (pi_list (pv 1)) (blkOk_by (own := [("_law_one", 2)]) (N := ["_law_worth_here", "_law_carried", "_law_one"]) (sc := defScope s__law_deep) (by decide +kernel)) (fun _ _ _ _ _ => (pg_name (i := 2) nd rfl (by first | exact Or.inl rfl | exact Or.inr rfl))) (fun _ _ _ _ _ => pts_nil) (fun _ _ _ _ _ => (pe_callG F__law_deep hr rfl pass0 (pa_cons (pv 2) pa_nil))))) pa_nil))))))))

abbrev s__law_walk : Stmt := top 41
theorem sc__law_walk : FnScope ["_law_worth_here", "_law_left", "_law_found", "_law_path", "_law_one", "_law_steps", "_law_at", "_law_name"] ["_law_worth_here"] (defScope s__law_walk) := ⟨rfl, rfl, rfl, by decide +kernel, rfl, by decide +kernel, by decide +kernel⟩
theorem dv__law_walk {lv : Nat} (T : Txt K mg) {cdv : Value} {A : Around} {outer : List PySem.Env} {s : Shared} {H : Hp} {E : XK} {f : Addr} (hr : RoomG lv (A.deeper (envOfC "_law_walk" (defScope s__law_walk) s.heap.objs.size f cdv))) :
    PSs (cxOf CX0 P w K mg base ["_law_worth_here", "_law_left", "_law_found", "_law_path", "_law_one", "_law_steps", "_law_at", "_law_name"] "_law_walk" (defScope s__law_walk) f cdv A outer s H E).nox (defBody s__law_walk) (t__law_walk K) := by
  have hu := hr.units
  have nd := sc__law_walk.nd
  exact (pss_cons (ps_set (i := 1) nd rfl (by first | exact Or.inl rfl | exact Or.inr rfl) (pe_lst (pa_cons (pe_tup (pa_cons (pe_tup pa_nil) (pa_cons (pv 0) pa_nil))) pa_nil)))
      (pss_cons (ps_set (i := 2) nd rfl (by first | exact Or.inl rfl | exact Or.inr rfl) (pe_lst pa_nil))
      (pss_cons (ps_while PassesOwn.never (pt_cmpR (oNeY hu) (pv 1) (pe_lst pa_nil) (nomark _)) (pss_cons (ps_asg (pe_bm0 PySem.F.plainAttrs_list PySem.F.slot_list_pop PySem.F.type_list_pop mt_pop (pv 1)) (pg_tup rfl (pgs_cons (pg_name (i := 3) nd rfl (by first | exact Or.inl rfl | exact Or.inr rfl)) (pgs_cons (pg_name (i := 4) nd rfl (by first | exact Or.inl rfl | exact Or.inr rfl)) pgs_nil))))
      (pss_cons (ps_expr (pe_bm PySem.F.plainAttrs_list PySem.F.slot_list_append PySem.F.type_list_append mt_append (pv 2) (pa_cons (pe_tup (pa_cons (pv 3) (pa_cons (pv 4) pa_nil))) pa_nil)))
      (pss_cons (ps_set (i := 5) nd rfl (by first | exact Or.inl rfl | exact Or.inr rfl) (pe_lst pa_nil))
      (pss_cons (ps_if (pt_val (pe_callB call_isi (by rfl) T.b_isinstance (by decide +kernel) (pa_cons (pv 4) (pa_cons (pe_bltn (v := .ty "list") rfl T.b_list (by decide +kernel) rfl) pa_nil)))) (pss_one (ps_setLc (i := 5) (own := [("_law_at", 6)]) (g := (gName 6)) (tt := tYes) rfl nd rfl rfl (sw_true rfl rfl rfl (by decide +kernel)) (pi_range1 rfl T.b_range (pa_cons (pe_callB call_lenX (by rfl) T.b_len (by decide +kernel) (pa_cons (pv 4) pa_nil)) pa_nil)) (blkOk_by (own := [("_law_at", 6)]) (N := ["_law_worth_here", "_law_left", "_law_found", "_law_path", "_law_one", "_law_steps", "_law_at", "_law_name"]) (sc := defScope s__law_walk) (by decide +kernel)) (fun _ _ _ _ _ => (pg_name (i := 6) nd rfl (by first | exact Or.inl rfl | exact Or.inr rfl))) (fun _ _ _ _ _ => pts_nil) (fun _ _ _ _ _ => (pe_tup (pa_cons (pe_op Hk.oAdd (pv 3) (pe_tup (pa_cons (pv 6) pa_nil))) (pa_cons (pe_ix (ixAny hu) (pv 4) (pv 6) (fun _ _ => rfl)) pa_nil)))))) pss_nil)
      (pss_cons (ps_if (pt_val (pe_callB call_isi (by rfl) T.b_isinstance (by decide +kernel) (pa_cons (pv 4) (pa_cons (pe_bltn (v := .ty "dict") rfl T.b_dict (by decide +kernel) rfl) pa_nil)))) (pss_one (ps_setLc (i := 5) (own := [("_law_name", 7)]) (g := (gName 7)) (tt := tYes) rfl nd rfl rfl (sw_true rfl rfl rfl (by decide +kernel)) (pi_list (pe_callB (cr_sortedD rfl) (by rfl) T.b_sorted (by decide +kernel) (pa_cons (pv 4) pa_nil))) (blkOk_by (own := [("_law_name", 7)]) (N := ["_law_worth_here", "_law_left", "_law_found", "_law_path", "_law_one", "_law_steps", "_law_at", "_law_name"]) (sc := defScope s__law_walk) (by decide +kernel)) (fun _ _ _ _ _ => (pg_name (i := 7) nd rfl (by first | exact Or.inl rfl | exact Or.inr rfl))) (fun _ _ _ _ _ => pts_nil) (fun _ _ _ _ _ => (pe_tup (pa_cons (pe_op Hk.oAdd (pv 3) (pe_tup (pa_cons (pv 7) pa_nil))) (pa_cons (pe_dget (lt1 hu) (pv 4) (pv 7) (fun _ _ => rfl)) pa_nil)))))) pss_nil)
      (pss_one (ps_expr (pe_bm PySem.F.plainAttrs_list PySem.F.slot_list_extend PySem.F.type_list_extend mt_extend (pv 1) (pa_cons (pe_revL (pv 5)) pa_nil))))))))))
      (pss_one (ps_ret (pv 2))))))

abbrev s__law_led : Stmt := top 42
theorem sc__law_led : FnScope ["_law_worth_here", "_law_path", "_law_step"] ["_law_worth_here", "_law_path"] (defScope s__law_led) := ⟨rfl, rfl, rfl, by decide +kernel, rfl, by decide +kernel, by decide +kernel⟩
theorem dv__law_led {lv : Nat} (T : Txt K mg) {cdv : Value} {A : Around} {outer : List PySem.Env} {s : Shared} {H : Hp} {E : XK} {f : Addr} (hr : RoomG lv (A.deeper (envOfC "_law_led" (defScope s__law_led) s.heap.objs.size f cdv))) :
    PSs (cxOf CX0 P w K mg base ["_law_worth_here", "_law_path", "_law_step"] "_law_led" (defScope s__law_led) f cdv A outer s H E).nox (defBody s__law_led) (t__law_led K) := by
  have hu := hr.units
  have nd := sc__law_led.nd
  exact (pss_cons (ps_for PassesOwn.never rfl (pi_tup (pv 1)) (pg_name (i := 2) nd rfl (by first | exact Or.inl rfl | exact Or.inr rfl)) (pss_one (ps_set (i := 0) nd rfl (by first | exact Or.inl rfl | exact Or.inr rfl) (pe_ix (ixAll hu) (pv 0) (pv 2) (fun _ _ => rfl)))))
      (pss_one (ps_ret (pv 0))))

abbrev s__law_at_right : Stmt := top 43
theorem sc__law_at_right : FnScope ["_law_worth_here", "_law_due", "_law_path", "_law_one"] ["_law_worth_here", "_law_due"] (defScope s__law_at_right) := ⟨rfl, rfl, rfl, by decide +kernel, rfl, by decide +kernel, by decide +kernel⟩
theorem dv__law_at_right {lv : Nat} (T : Txt K mg) {sp_worth_at : Sp} {sp__law_led : Sp} (F_worth_at : FOG P w K mg base CX0 lv "worth_at" ["worth", "path"] sp_worth_at) (F__law_led : FOG P w K mg base CX0 lv "_law_led" ["_law_worth_here", "_law_path"] sp__law_led) {cdv : Value} {A : Around} {outer : List PySem.Env} {s : Shared} {H : Hp} {E : XK} {f : Addr} (hr : RoomG lv (A.deeper (envOfC "_law_at_right" (defScope s__law_at_right) s.heap.objs.size f cdv))) :
    PSs (cxOf CX0 P w K mg base ["_law_worth_here", "_law_due", "_law_path", "_law_one"] "_law_at_right" (defScope s__law_at_right) f cdv A outer s H E).nox (defBody s__law_at_right) (t__law_at_right K sp_worth_at sp__law_led) := by
  have hu := hr.units
  have nd := sc__law_at_right.nd
  exact (pss_cons (ps_for PassesOwn.never rfl (pi_list (pv 1)) (pg_tup rfl (pgs_cons (pg_name (i := 2) nd rfl (by first | exact Or.inl rfl | exact Or.inr rfl)) (pgs_cons (pg_name (i := 3) nd rfl (by first | exact Or.inl rfl | exact Or.inr rfl)) pgs_nil))) (pss_one (ps_if (PW.pt (pw_or (pt_cmpR (oNeY hu) (pe_callB (call_reprP hr T.sm.choose_spec) (by rfl) T.b_repr (by decide +kernel) (pa_cons (pe_callG F_worth_at hr rfl pass0 (pa_cons (pv 0) (pa_cons (pv 2) pa_nil))) pa_nil)) (pe_callB (call_reprP hr T.sm.choose_spec) (by rfl) T.b_repr (by decide +kernel) (pa_cons (pv 3) pa_nil)) (nomark _)) (pw_or1 (pt_cmpR (oNeY hu) (pe_callB (call_reprP hr T.sm.choose_spec) (by rfl) T.b_repr (by decide +kernel) (pa_cons (pe_callG F__law_led hr rfl pass0 (pa_cons (pv 0) (pa_cons (pv 2) pa_nil))) pa_nil)) (pe_callB (call_reprP hr T.sm.choose_spec) (by rfl) T.b_repr (by decide +kernel) (pa_cons (pv 3) pa_nil)) (nomark _))))) (pss_one (ps_ret pe_bl)) pss_nil)))
      (pss_one (ps_ret pe_bl)))

abbrev s__law_case : Stmt := top 44
theorem sc__law_case : FnScope ["_law_box_here", "_law_first", "_law_worth_here", "_law_due", "_law_found", "_law_path", "_law_one"] ["_law_box_here"] (defScope s__law_case) := ⟨rfl, rfl, rfl, by decide +kernel, rfl, by decide +kernel, by decide +kernel⟩
theorem dv__law_case {lv : Nat} (T : Txt K mg) {sp__law_take : Sp} {sp__law_worth : Sp} {sp__law_walk : Sp} {sp__law_at_right : Sp} {sp_inner : Sp} {sp_sort_of : Sp} {sp__law_sort : Sp} {sp_deep : Sp} {sp__law_deep : Sp} (F__law_take : FOG P w K mg base CX0 lv "_law_take" ["_law_box_here", "_law_many"] sp__law_take) (F__law_worth : FOG P w K mg base CX0 lv "_law_worth" ["_law_box_here", "_law_most"] sp__law_worth) (F__law_walk : FOG P w K mg base CX0 lv "_law_walk" ["_law_worth_here"] sp__law_walk) (F__law_at_right : FOG P w K mg base CX0 lv "_law_at_right" ["_law_worth_here", "_law_due"] sp__law_at_right) (F_inner : FOG P w K mg base CX0 lv "inner" ["worth"] sp_inner) (F_sort_of : FOG P w K mg base CX0 lv "sort_of" ["worth"] sp_sort_of) (F__law_sort : FOG P w K mg base CX0 lv "_law_sort" ["_law_worth_here"] sp__law_sort) (F_deep : FOG P w K mg base CX0 lv "deep" ["worth"] sp_deep) (F__law_deep : FOG P w K mg base CX0 lv "_law_deep" ["_law_worth_here"] sp__law_deep) {cdv : Value} {A : Around} {outer : List PySem.Env} {s : Shared} {H : Hp} {E : XK} {f : Addr} (hr : RoomG lv (A.deeper (envOfC "_law_case" (defScope s__law_case) s.heap.objs.size f cdv))) :
    PSs (cxOf CX0 P w K mg base ["_law_box_here", "_law_first", "_law_worth_here", "_law_due", "_law_found", "_law_path", "_law_one"] "_law_case" (defScope s__law_case) f cdv A outer s H E).nox (defBody s__law_case) (t__law_case K sp__law_take sp__law_worth sp__law_walk sp__law_at_right sp_inner sp_sort_of sp__law_sort sp_deep sp__law_deep) := by
  have hu := hr.units
  have nd := sc__law_case.nd
  exact (pss_cons (ps_set (i := 1) nd rfl (by first | exact Or.inl rfl | exact Or.inr rfl) (pe_callG F__law_take hr rfl pass0 (pa_cons (pv 0) (pa_cons pe_int pa_nil))))
      (pss_cons (ps_set (i := 2) nd rfl (by first | exact Or.inl rfl | exact Or.inr rfl) (pe_callG F__law_worth hr rfl pass0 (pa_cons (pv 0) (pa_cons (pe_op Hk.oAdd pe_int (pe_callG F__law_take hr rfl pass0 (pa_cons (pv 0) (pa_cons pe_int pa_nil)))) pa_nil))))
      (pss_cons (ps_set (i := 3) nd rfl (by first | exact Or.inl rfl | exact Or.inr rfl) (pe_callG F__law_walk hr rfl pass0 (pa_cons (pv 2) pa_nil)))
      (pss_cons (ps_if (PW.pt (pw_and (pt_cmpR (oEqY hu) (pv 1) pe_int (nomark _)) (pw_and1 (pt_not (pt_val (pe_callG F__law_at_right hr rfl pass0 (pa_cons (pv 2) (pa_cons (pv 3) pa_nil)))))))) (pss_one (ps_ret pe_bl)) pss_nil)
      (pss_cons (ps_set (i := 4) nd rfl (by first | exact Or.inl rfl | exact Or.inr rfl) (pe_callG F_inner hr rfl pass0 (pa_cons (pv 2) pa_nil)))
      (pss_cons (ps_if (PW.pt (pw_or (pt_not (pt_val (pe_callB call_isi (by rfl) T.b_isinstance (by decide +kernel) (pa_cons (pv 4) (pa_cons (pe_bltn (v := .ty "list") rfl T.b_list (by decide +kernel) rfl) pa_nil))))) (pw_or1 (pt_cmpR (oNeY hu) (pe_callB (call_reprP hr T.sm.choose_spec) (by rfl) T.b_repr (by decide +kernel) (pa_cons (pv 4) pa_nil)) (pe_callB (call_reprP hr T.sm.choose_spec) (by rfl) T.b_repr (by decide +kernel) (pa_cons (pv 3) pa_nil)) (nomark _))))) (pss_one (ps_ret pe_bl)) pss_nil)
      (pss_cons (ps_if (pt_not (pt_val (pe_callG F__law_at_right hr rfl pass0 (pa_cons (pv 2) (pa_cons (pv 3) pa_nil))))) (pss_one (ps_ret pe_bl)) pss_nil)
      (pss_cons (ps_for PassesOwn.never rfl (pi_list (pe_slice slAny (pv 3) po_none (po_some pe_int))) (pg_tup rfl (pgs_cons (pg_name (i := 5) nd rfl (by first | exact Or.inl rfl | exact Or.inr rfl)) (pgs_cons (pg_name (i := 6) nd rfl (by first | exact Or.inl rfl | exact Or.inr rfl)) pgs_nil))) (pss_one (ps_if (PW.pt (pw_or (pt_cmpR (oNeY hu) (pe_callG F_sort_of hr rfl pass0 (pa_cons (pv 6) pa_nil)) (pe_callG F__law_sort hr rfl pass0 (pa_cons (pv 6) pa_nil)) (nomark _)) (pw_or1 (pt_cmpR (oNeY hu) (pe_callB (call_reprP hr T.sm.choose_spec) (by rfl) T.b_repr (by decide +kernel) (pa_cons (pe_callG F_deep hr rfl pass0 (pa_cons (pv 6) pa_nil)) pa_nil)) (pe_callB (call_reprP hr T.sm.choose_spec) (by rfl) T.b_repr (by decide +kernel) (pa_cons (pe_callG F__law_deep hr rfl pass0 (pa_cons (pv 6) pa_nil)) pa_nil)) (nomark _))))) (pss_one (ps_ret pe_bl)) pss_nil)))
      (pss_one (ps_ret (pe_cmpR (oEqY hu) (pe_callB (call_reprP hr T.sm.choose_spec) (by rfl) T.b_repr (by decide +kernel) (pa_cons (pe_callG F_inner hr rfl pass0 (pa_cons (pv 2) pa_nil)) pa_nil)) (pe_callB (call_reprP hr T.sm.choose_spec) (by rfl) T.b_repr (by decide +kernel) (pa_cons (pv 3) pa_nil)) (nomark _))))))))))))

abbrev s_law : Stmt := top 45
theorem sc_law : FnScope ["_law_script", "_law_k"] ["_law_script"] (defScope s_law) := ⟨rfl, rfl, rfl, by decide +kernel, rfl, by decide +kernel, by decide +kernel⟩
theorem dv_law {lv : Nat} (T : Txt K mg) {sp__law_case : Sp} {sp__law_box : Sp} {sp__law_cell : Sp} (F__law_case : FOG P w K mg base CX0 lv "_law_case" ["_law_box_here"] sp__law_case) (F__law_box : FOG P w K mg base CX0 lv "_law_box" ["_law_cell_here"] sp__law_box) (F__law_cell : FOG P w K mg base CX0 lv "_law_cell" ["_law_script", "_law_k"] sp__law_cell) {cdv : Value} {A : Around} {outer : List PySem.Env} {s : Shared} {H : Hp} {E : XK} {f : Addr} (hr : RoomG lv (A.deeper (envOfC "law" (defScope s_law) s.heap.objs.size f cdv))) :
    PSs (cxOf CX0 P w K mg base ["_law_script", "_law_k"] "law" (defScope s_law) f cdv A outer s H E).nox (defBody s_law) (t_law K sp__law_case sp__law_box sp__law_cell) := by
  have hu := hr.units
  have nd := sc_law.nd
  exact (pss_cons (ps_for PassesOwn.never rfl (pi_range1 rfl T.b_range (pa_cons (pe_callB (call_max2 rfl) (by rfl) T.b_max (by decide +kernel) (pa_cons pe_int (pa_cons (pe_callB (call_min2 rfl) (by rfl) T.b_min (by decide +kernel) (pa_cons pe_int (pa_cons (pe_callB call_lenX (by rfl) T.b_len (by decide +kernel) (pa_cons (pv 0) pa_nil)) pa_nil))) pa_nil))) pa_nil)) (pg_name (i := 1) nd rfl (by first | exact Or.inl rfl | exact Or.inr rfl)) (pss_one (ps_if (pt_not (pt_val (pe_callG F__law_case hr rfl pass0 (pa_cons (pe_callG F__law_box hr rfl pass0 (pa_cons (pe_callG F__law_cell hr rfl pass0 (pa_cons (pv 0) (pa_cons (pv 1) pa_nil))) pa_nil)) pa_nil)))) (pss_one (ps_ret pe_bl)) pss_nil)))
      (pss_one (ps_ret pe_bl)))
end
end Pu

namespace Pu
open PySem PySem.Spec PyProof.Rows L2 He Hk
section
variable {P : Program} {w : World} {K : PySem.W.Frag} {mg : Str → Option Value} {base : Heap}
theorem ok_is_whole {lv : Nat} (Tx : Txt K mg) (F : ∃ fd, FnP K "is_whole" s_is_whole (ga K "is_whole") fd) (g : mg "is_whole" = some (.ref (ga K "is_whole"))) : FOG P w K mg base CX0 (lv + 1) "is_whole" ["thing"] (spP K false (psF T.Fine (fun t => .bl (wholeT t)))) :=
  mkP F g sc_is_whole (fun _ _ _ _ _ _ us hl => match us, hl with | [_], _ => rfl) (fun cdv A outer s H E hr => dv_is_whole Tx hr) rf_is_whole (fun sl P h => by first | (obtain ⟨rfl, _⟩ := h; rfl) | (obtain ⟨_, rfl, _⟩ := h; rfl) | (obtain ⟨_, _, rfl, _⟩ := h; rfl) | (obtain ⟨_, _, _, rfl, _⟩ := h; rfl) | (obtain ⟨_, _, _, _, rfl, _⟩ := h; rfl) | (obtain ⟨_, _, _, _, _, rfl, _⟩ := h; rfl) | (obtain ⟨_, _, _, _, _, _, rfl, _⟩ := h; rfl) | (obtain ⟨_, _, _, _, _, _, _, rfl, _⟩ := h; rfl)) pure_whole
theorem ok_is_name {lv : Nat} (Tx : Txt K mg) (F : ∃ fd, FnP K "is_name" s_is_name (ga K "is_name") fd) (g : mg "is_name" = some (.ref (ga K "is_name"))) : FOG P w K mg base CX0 (lv + 1) "is_name" ["thing"] (spP K false (psF T.Fine (fun t => .bl (nameT t)))) :=
  mkP F g sc_is_name (fun _ _ _ _ _ _ us hl => match us, hl with | [_], _ => rfl) (fun cdv A outer s H E hr => dv_is_name Tx hr) rf_is_name (fun sl P h => by first | (obtain ⟨rfl, _⟩ := h; rfl) | (obtain ⟨_, rfl, _⟩ := h; rfl) | (obtain ⟨_, _, rfl, _⟩ := h; rfl) | (obtain ⟨_, _, _, rfl, _⟩ := h; rfl) | (obtain ⟨_, _, _, _, rfl, _⟩ := h; rfl) | (obtain ⟨_, _, _, _, _, rfl, _⟩ := h; rfl) | (obtain ⟨_, _, _, _, _, _, rfl, _⟩ := h; rfl) | (obtain ⟨_, _, _, _, _, _, _, rfl, _⟩ := h; rfl)) pure_name
theorem ok_is_number {lv : Nat} (Tx : Txt K mg) (F : ∃ fd, FnP K "is_number" s_is_number (ga K "is_number") fd) (g : mg "is_number" = some (.ref (ga K "is_number"))) (F_is_whole : FOG P w K mg base CX0 lv "is_whole" ["thing"] (spP K false (psF T.Fine (fun t => .bl (wholeT t))))) : FOG P w K mg base CX0 (lv + 1) "is_number" ["thing"] (spP K false (psF T.Fine (fun t => .bl (numberT t)))) :=
  mkP F g sc_is_number (fun _ _ _ _ _ _ us hl => match us, hl with | [_], _ => rfl) (fun cdv A outer s H E hr => dv_is_number Tx F_is_whole hr) rf_is_number (fun sl P h => by first | (obtain ⟨rfl, _⟩ := h; rfl) | (obtain ⟨_, rfl, _⟩ := h; rfl) | (obtain ⟨_, _, rfl, _⟩ := h; rfl) | (obtain ⟨_, _, _, rfl, _⟩ := h; rfl) | (obtain ⟨_, _, _, _, rfl, _⟩ := h; rfl) | (obtain ⟨_, _, _, _, _, rfl, _⟩ := h; rfl) | (obtain ⟨_, _, _, _, _, _, rfl, _⟩ := h; rfl) | (obtain ⟨_, _, _, _, _, _, _, rfl, _⟩ := h; rfl)) pure_number
theorem ok_is_text {lv : Nat} (Tx : Txt K mg) (F : ∃ fd, FnP K "is_text" s_is_text (ga K "is_text") fd) (g : mg "is_text" = some (.ref (ga K "is_text"))) : FOG P w K mg base CX0 (lv + 1) "is_text" ["thing"] (spP K false (psF T.Fine (fun t => .bl (textT t)))) :=
  mkP F g sc_is_text (fun _ _ _ _ _ _ us hl => match us, hl with | [_], _ => rfl) (fun cdv A outer s H E hr => dv_is_text Tx hr) rf_is_text (fun sl P h => by first | (obtain ⟨rfl, _⟩ := h; rfl) | (obtain ⟨_, rfl, _⟩ := h; rfl) | (obtain ⟨_, _, rfl, _⟩ := h; rfl) | (obtain ⟨_, _, _, rfl, _⟩ := h; rfl) | (obtain ⟨_, _, _, _, rfl, _⟩ := h; rfl) | (obtain ⟨_, _, _, _, _, rfl, _⟩ := h; rfl) | (obtain ⟨_, _, _, _, _, _, rfl, _⟩ := h; rfl) | (obtain ⟨_, _, _, _, _, _, _, rfl, _⟩ := h; rfl)) pure_text
theorem ok_held_in {lv : Nat} (Tx : Txt K mg) (F : ∃ fd, FnP K "held_in" s_held_in (ga K "held_in") fd) (g : mg "held_in" = some (.ref (ga K "held_in"))) (F_is_name : FOG P w K mg base CX0 lv "is_name" ["thing"] (spP K false (psF T.Fine (fun t => .bl (nameT t))))) : FOG P w K mg base CX0 (lv + 1) "held_in" ["thing"] (spP K false (psF T.Fine heldO)) :=
  mkP F g sc_held_in (fun _ _ _ _ _ _ us hl => match us, hl with | [_], _ => rfl) (fun cdv A outer s H E hr => dv_held_in Tx F_is_name hr) rf_held_in (fun sl P h => by first | (obtain ⟨rfl, _⟩ := h; rfl) | (obtain ⟨_, rfl, _⟩ := h; rfl) | (obtain ⟨_, _, rfl, _⟩ := h; rfl) | (obtain ⟨_, _, _, rfl, _⟩ := h; rfl) | (obtain ⟨_, _, _, _, rfl, _⟩ := h; rfl) | (obtain ⟨_, _, _, _, _, rfl, _⟩ := h; rfl) | (obtain ⟨_, _, _, _, _, _, rfl, _⟩ := h; rfl) | (obtain ⟨_, _, _, _, _, _, _, rfl, _⟩ := h; rfl)) pure_held
theorem ok_deepness {lv : Nat} (Tx : Txt K mg) (F : ∃ fd, FnP K "deepness" s_deepness (ga K "deepness") fd) (g : mg "deepness" = some (.ref (ga K "deepness"))) (F_is_number : FOG P w K mg base CX0 lv "is_number" ["thing"] (spP K false (psF T.Fine (fun t => .bl (numberT t))))) (F_is_text : FOG P w K mg base CX0 lv "is_text" ["thing"] (spP K false (psF T.Fine (fun t => .bl (textT t))))) (F_held_in : FOG P w K mg base CX0 lv "held_in" ["thing"] (spP K false (psF T.Fine heldO))) : ∀ m : Nat, FOG P w K mg base CX0 (lv + m) "deepness" ["thing"] (spP K false ((fun m => psN m T.dp) m))
  | 0 => fog_no F g (fun _ _ _ _ _ _ us hl => match us, hl with | [_], _ => rfl) (fun vs H Q E h => by obtain ⟨O, sl, P, R, hps, _⟩ := h; exact no_N hps)
  | m + 1 => mkP (k := lv + m) F g sc_deepness (fun _ _ _ _ _ _ us hl => match us, hl with | [_], _ => rfl) (fun cdv A outer s H E hr => dv_deepness Tx (F_is_number.mono (by omega)) (F_is_text.mono (by omega)) (F_held_in.mono (by omega)) (ok_deepness Tx F g F_is_number F_is_text F_held_in m) hr) rf_deepness (fun sl P h => by first | (obtain ⟨rfl, _⟩ := h; rfl) | (obtain ⟨_, rfl, _⟩ := h; rfl) | (obtain ⟨_, _, rfl, _⟩ := h; rfl) | (obtain ⟨_, _, _, rfl, _⟩ := h; rfl) | (obtain ⟨_, _, _, _, rfl, _⟩ := h; rfl) | (obtain ⟨_, _, _, _, _, rfl, _⟩ := h; rfl) | (obtain ⟨_, _, _, _, _, _, rfl, _⟩ := h; rfl) | (obtain ⟨_, _, _, _, _, _, _, rfl, _⟩ := h; rfl)) pure_deepness
theorem ok_is_worth {lv : Nat} (Tx : Txt K mg) (F : ∃ fd, FnP K "is_worth" s_is_worth (ga K "is_worth") fd) (g : mg "is_worth" = some (.ref (ga K "is_worth"))) (F_deepness : FOG P w K mg base CX0 lv "deepness" ["thing"] (spP K false ((fun m => psN m T.dp) 5))) : FOG P w K mg base CX0 (lv + 1) "is_worth" ["thing"] (spP K false (psW 5)) :=
  mkP F g sc_is_worth (fun _ _ _ _ _ _ us hl => match us, hl with | [_], _ => rfl) (fun cdv A outer s H E hr => dv_is_worth Tx F_deepness hr) rf_is_worth (fun sl P h => by first | (obtain ⟨rfl, _⟩ := h; rfl) | (obtain ⟨_, rfl, _⟩ := h; rfl) | (obtain ⟨_, _, rfl, _⟩ := h; rfl) | (obtain ⟨_, _, _, rfl, _⟩ := h; rfl) | (obtain ⟨_, _, _, _, rfl, _⟩ := h; rfl) | (obtain ⟨_, _, _, _, _, rfl, _⟩ := h; rfl) | (obtain ⟨_, _, _, _, _, _, rfl, _⟩ := h; rfl) | (obtain ⟨_, _, _, _, _, _, _, rfl, _⟩ := h; rfl)) pure_worth
theorem ok_need_worth {lv : Nat} (Tx : Txt K mg) (F : ∃ fd, FnP K "need_worth" s_need_worth (ga K "need_worth") fd) (g : mg "need_worth" = some (.ref (ga K "need_worth"))) (F_is_worth : FOG P w K mg base CX0 lv "is_worth" ["thing"] (spP K false (psW 5))) : FOG P w K mg base CX0 (lv + 1) "need_worth" ["thing"] (spP K false (psF (WoD 5) (fun _ => .non))) :=
  mkP F g sc_need_worth (fun _ _ _ _ _ _ us hl => match us, hl with | [_], _ => rfl) (fun cdv A outer s H E hr => dv_need_worth Tx F_is_worth hr) rf_need_worth (fun sl P h => by first | (obtain ⟨rfl, _⟩ := h; rfl) | (obtain ⟨_, rfl, _⟩ := h; rfl) | (obtain ⟨_, _, rfl, _⟩ := h; rfl) | (obtain ⟨_, _, _, rfl, _⟩ := h; rfl) | (obtain ⟨_, _, _, _, rfl, _⟩ := h; rfl) | (obtain ⟨_, _, _, _, _, rfl, _⟩ := h; rfl) | (obtain ⟨_, _, _, _, _, _, rfl, _⟩ := h; rfl) | (obtain ⟨_, _, _, _, _, _, _, rfl, _⟩ := h; rfl)) pure_need
theorem ok_sort_word {lv : Nat} (Tx : Txt K mg) (F : ∃ fd, FnP K "sort_word" s_sort_word (ga K "sort_word") fd) (g : mg "sort_word" = some (.ref (ga K "sort_word"))) : FOG P w K mg base CX0 (lv + 1) "sort_word" ["worth"] (spP K false (psF (fun t => Wo t) (fun t => .str (sortW t)))) :=
  mkP F g sc_sort_word (fun _ _ _ _ _ _ us hl => match us, hl with | [_], _ => rfl) (fun cdv A outer s H E hr => dv_sort_word Tx hr) rf_sort_word (fun sl P h => by first | (obtain ⟨rfl, _⟩ := h; rfl) | (obtain ⟨_, rfl, _⟩ := h; rfl) | (obtain ⟨_, _, rfl, _⟩ := h; rfl) | (obtain ⟨_, _, _, rfl, _⟩ := h; rfl) | (obtain ⟨_, _, _, _, rfl, _⟩ := h; rfl) | (obtain ⟨_, _, _, _, _, rfl, _⟩ := h; rfl) | (obtain ⟨_, _, _, _, _, _, rfl, _⟩ := h; rfl) | (obtain ⟨_, _, _, _, _, _, _, rfl, _⟩ := h; rfl)) pure_sortw
theorem ok_sort_of {lv : Nat} (Tx : Txt K mg) (F : ∃ fd, FnP K "sort_of" s_sort_of (ga K "sort_of") fd) (g : mg "sort_of" = some (.ref (ga K "sort_of"))) (F_need_worth : FOG P w K mg base CX0 lv "need_worth" ["thing"] (spP K false (psF (WoD 5) (fun _ => .non)))) (F_sort_word : FOG P w K mg base CX0 lv "sort_word" ["worth"] (spP K false (psF (fun t => Wo t) (fun t => .str (sortW t))))) : FOG P w K mg base CX0 (lv + 1) "sort_of" ["worth"] (spP K false (psF (WoD 5) (fun t => .str (sortW t)))) :=
  mkP F g sc_sort_of (fun _ _ _ _ _ _ us hl => match us, hl with | [_], _ => rfl) (fun cdv A outer s H E hr => dv_sort_of Tx F_need_worth F_sort_word hr) rf_sort_of (fun sl P h => by first | (obtain ⟨rfl, _⟩ := h; rfl) | (obtain ⟨_, rfl, _⟩ := h; rfl) | (obtain ⟨_, _, rfl, _⟩ := h; rfl) | (obtain ⟨_, _, _, rfl, _⟩ := h; rfl) | (obtain ⟨_, _, _, _, rfl, _⟩ := h; rfl) | (obtain ⟨_, _, _, _, _, rfl, _⟩ := h; rfl) | (obtain ⟨_, _, _, _, _, _, rfl, _⟩ := h; rfl) | (obtain ⟨_, _, _, _, _, _, _, rfl, _⟩ := h; rfl)) pure_sorto
theorem ok_deep {lv : Nat} (Tx : Txt K mg) (F : ∃ fd, FnP K "deep" s_deep (ga K "deep") fd) (g : mg "deep" = some (.ref (ga K "deep"))) (F_need_worth : FOG P w K mg base CX0 lv "need_worth" ["thing"] (spP K false (psF (WoD 5) (fun _ => .non)))) (F_deepness : FOG P w K mg base CX0 lv "deepness" ["thing"] (spP K false ((fun m => psN m T.dp) 5))) : FOG P w K mg base CX0 (lv + 1) "deep" ["worth"] (spP K false (psF (WoD 5) (fun t => .int t.dp))) :=
  mkP F g sc_deep (fun _ _ _ _ _ _ us hl => match us, hl with | [_], _ => rfl) (fun cdv A outer s H E hr => dv_deep Tx F_need_worth F_deepness hr) rf_deep (fun sl P h => by first | (obtain ⟨rfl, _⟩ := h; rfl) | (obtain ⟨_, rfl, _⟩ := h; rfl) | (obtain ⟨_, _, rfl, _⟩ := h; rfl) | (obtain ⟨_, _, _, rfl, _⟩ := h; rfl) | (obtain ⟨_, _, _, _, rfl, _⟩ := h; rfl) | (obtain ⟨_, _, _, _, _, rfl, _⟩ := h; rfl) | (obtain ⟨_, _, _, _, _, _, rfl, _⟩ := h; rfl) | (obtain ⟨_, _, _, _, _, _, _, rfl, _⟩ := h; rfl)) pure_deep
theorem ok_steps_in {lv : Nat} (Tx : Txt K mg) (F : ∃ fd, FnP K "steps_in" s_steps_in (ga K "steps_in") fd) (g : mg "steps_in" = some (.ref (ga K "steps_in"))) : FOG P w K mg base CX0 (lv + 1) "steps_in" ["worth"] (spP K false (psF Wo stepsO)) :=
  mkP F g sc_steps_in (fun _ _ _ _ _ _ us hl => match us, hl with | [_], _ => rfl) (fun cdv A outer s H E hr => dv_steps_in Tx hr) rf_steps_in (fun sl P h => by first | (obtain ⟨rfl, _⟩ := h; rfl) | (obtain ⟨_, rfl, _⟩ := h; rfl) | (obtain ⟨_, _, rfl, _⟩ := h; rfl) | (obtain ⟨_, _, _, rfl, _⟩ := h; rfl) | (obtain ⟨_, _, _, _, rfl, _⟩ := h; rfl) | (obtain ⟨_, _, _, _, _, rfl, _⟩ := h; rfl) | (obtain ⟨_, _, _, _, _, _, rfl, _⟩ := h; rfl) | (obtain ⟨_, _, _, _, _, _, _, rfl, _⟩ := h; rfl)) pure_steps
theorem ok_copy_of {lv : Nat} (Tx : Txt K mg) (F : ∃ fd, FnP K "copy_of" s_copy_of (ga K "copy_of") fd) (g : mg "copy_of" = some (.ref (ga K "copy_of"))) : ∀ m : Nat, FOG P w K mg base CX0 (lv + m) "copy_of" ["worth"] (spP K false ((fun m => psC m) m))
  | 0 => fog_no F g (fun _ _ _ _ _ _ us hl => match us, hl with | [_], _ => rfl) (fun vs H Q E h => by obtain ⟨O, sl, P, R, hps, _⟩ := h; exact no_C hps)
  | m + 1 => mkP (k := lv + m) F g sc_copy_of (fun _ _ _ _ _ _ us hl => match us, hl with | [_], _ => rfl) (fun cdv A outer s H E hr => dv_copy_of Tx (ok_copy_of Tx F g m) hr) rf_copy_of (fun sl P h => by first | (obtain ⟨rfl, _⟩ := h; rfl) | (obtain ⟨_, rfl, _⟩ := h; rfl) | (obtain ⟨_, _, rfl, _⟩ := h; rfl) | (obtain ⟨_, _, _, rfl, _⟩ := h; rfl) | (obtain ⟨_, _, _, _, rfl, _⟩ := h; rfl) | (obtain ⟨_, _, _, _, _, rfl, _⟩ := h; rfl) | (obtain ⟨_, _, _, _, _, _, rfl, _⟩ := h; rfl) | (obtain ⟨_, _, _, _, _, _, _, rfl, _⟩ := h; rfl)) pure_copy
theorem ok_gathered {lv : Nat} (Tx : Txt K mg) (F : ∃ fd, FnP K "gathered" s_gathered (ga K "gathered") fd) (g : mg "gathered" = some (.ref (ga K "gathered"))) (F_copy_of : FOG P w K mg base CX0 lv "copy_of" ["worth"] (spP K false ((fun m => psC m) 6))) (F_steps_in : FOG P w K mg base CX0 lv "steps_in" ["worth"] (spP K false (psF Wo stepsO))) : ∀ m : Nat, FOG P w K mg base CX0 (lv + m) "gathered" ["worth", "path"] (spP K false ((fun m => psG m) m))
  | 0 => fog_no F g (fun _ _ _ _ _ _ us hl => match us, hl with | [_, _], _ => rfl) (fun vs H Q E h => by obtain ⟨O, sl, P, R, hps, _⟩ := h; exact no_G hps)
  | m + 1 => mkP (k := lv + m) F g sc_gathered (fun _ _ _ _ _ _ us hl => match us, hl with | [_, _], _ => rfl) (fun cdv A outer s H E hr => dv_gathered Tx (F_copy_of.mono (by omega)) (F_steps_in.mono (by omega)) (ok_gathered Tx F g F_copy_of F_steps_in m) hr) rf_gathered (fun sl P h => by first | (obtain ⟨rfl, _⟩ := h; rfl) | (obtain ⟨_, rfl, _⟩ := h; rfl) | (obtain ⟨_, _, rfl, _⟩ := h; rfl) | (obtain ⟨_, _, _, rfl, _⟩ := h; rfl) | (obtain ⟨_, _, _, _, rfl, _⟩ := h; rfl) | (obtain ⟨_, _, _, _, _, rfl, _⟩ := h; rfl) | (obtain ⟨_, _, _, _, _, _, rfl, _⟩ := h; rfl) | (obtain ⟨_, _, _, _, _, _, _, rfl, _⟩ := h; rfl)) pure_gathered
theorem ok_inner {lv : Nat} (Tx : Txt K mg) (F : ∃ fd, FnP K "inner" s_inner (ga K "inner") fd) (g : mg "inner" = some (.ref (ga K "inner"))) (F_need_worth : FOG P w K mg base CX0 lv "need_worth" ["thing"] (spP K false (psF (WoD 5) (fun _ => .non)))) (F_gathered : FOG P w K mg base CX0 lv "gathered" ["worth", "path"] (spP K false ((fun m => psG m) 5))) : FOG P w K mg base CX0 (lv + 1) "inner" ["worth"] (spP K false (psF (WoD 5) innerO)) :=
  mkP F g sc_inner (fun _ _ _ _ _ _ us hl => match us, hl with | [_], _ => rfl) (fun cdv A outer s H E hr => dv_inner Tx F_need_worth F_gathered hr) rf_inner (fun sl P h => by first | (obtain ⟨rfl, _⟩ := h; rfl) | (obtain ⟨_, rfl, _⟩ := h; rfl) | (obtain ⟨_, _, rfl, _⟩ := h; rfl) | (obtain ⟨_, _, _, rfl, _⟩ := h; rfl) | (obtain ⟨_, _, _, _, rfl, _⟩ := h; rfl) | (obtain ⟨_, _, _, _, _, rfl, _⟩ := h; rfl) | (obtain ⟨_, _, _, _, _, _, rfl, _⟩ := h; rfl) | (obtain ⟨_, _, _, _, _, _, _, rfl, _⟩ := h; rfl)) pure_inner
theorem ok_leads {lv : Nat} (Tx : Txt K mg) (F : ∃ fd, FnP K "leads" s_leads (ga K "leads") fd) (g : mg "leads" = some (.ref (ga K "leads"))) (F_is_whole : FOG P w K mg base CX0 lv "is_whole" ["thing"] (spP K false (psF T.Fine (fun t => .bl (wholeT t))))) : FOG P w K mg base CX0 (lv + 1) "leads" ["worth", "step"] (spP K false ps_leads) :=
  mkP F g sc_leads (fun _ _ _ _ _ _ us hl => match us, hl with | [_, _], _ => rfl) (fun cdv A outer s H E hr => dv_leads Tx F_is_whole hr) rf_leads (fun sl P h => by first | (obtain ⟨rfl, _⟩ := h; rfl) | (obtain ⟨_, rfl, _⟩ := h; rfl) | (obtain ⟨_, _, rfl, _⟩ := h; rfl) | (obtain ⟨_, _, _, rfl, _⟩ := h; rfl) | (obtain ⟨_, _, _, _, rfl, _⟩ := h; rfl) | (obtain ⟨_, _, _, _, _, rfl, _⟩ := h; rfl) | (obtain ⟨_, _, _, _, _, _, rfl, _⟩ := h; rfl) | (obtain ⟨_, _, _, _, _, _, _, rfl, _⟩ := h; rfl)) pure_leads
theorem ok_worth_at {lv : Nat} (Tx : Txt K mg) (F : ∃ fd, FnP K "worth_at" s_worth_at (ga K "worth_at") fd) (g : mg "worth_at" = some (.ref (ga K "worth_at"))) (F_need_worth : FOG P w K mg base CX0 lv "need_worth" ["thing"] (spP K false (psF (WoD 5) (fun _ => .non)))) (F_leads : FOG P w K mg base CX0 lv "leads" ["worth", "step"] (spP K false ps_leads)) (F_copy_of : FOG P w K mg base CX0 lv "copy_of" ["worth"] (spP K false ((fun m => psC m) 6))) : FOG P w K mg base CX0 (lv + 1) "worth_at" ["worth", "path"] (spP K false ps_at) :=
  mkP F g sc_worth_at (fun _ _ _ _ _ _ us hl => match us, hl with | [_, _], _ => rfl) (fun cdv A outer s H E hr => dv_worth_at Tx F_need_worth F_leads F_copy_of hr) rf_worth_at (fun sl P h => by first | (obtain ⟨rfl, _⟩ := h; rfl) | (obtain ⟨_, rfl, _⟩ := h; rfl) | (obtain ⟨_, _, rfl, _⟩ := h; rfl) | (obtain ⟨_, _, _, rfl, _⟩ := h; rfl) | (obtain ⟨_, _, _, _, rfl, _⟩ := h; rfl) | (obtain ⟨_, _, _, _, _, rfl, _⟩ := h; rfl) | (obtain ⟨_, _, _, _, _, _, rfl, _⟩ := h; rfl) | (obtain ⟨_, _, _, _, _, _, _, rfl, _⟩ := h; rfl)) pure_at
theorem ok__law_cell {lv : Nat} (Tx : Txt K mg) (F : ∃ fd, FnP K "_law_cell" s__law_cell (ga K "_law_cell") fd) (g : mg "_law_cell" = some (.ref (ga K "_law_cell"))) : FOG P w K mg base CX0 (lv + 1) "_law_cell" ["_law_script", "_law_k"] (spP K false ps_cell) :=
  mkP F g sc__law_cell (fun _ _ _ _ _ _ us hl => match us, hl with | [_, _], _ => rfl) (fun cdv A outer s H E hr => dv__law_cell Tx hr) rf__law_cell (fun sl P h => by first | (obtain ⟨rfl, _⟩ := h; rfl) | (obtain ⟨_, rfl, _⟩ := h; rfl) | (obtain ⟨_, _, rfl, _⟩ := h; rfl) | (obtain ⟨_, _, _, rfl, _⟩ := h; rfl) | (obtain ⟨_, _, _, _, rfl, _⟩ := h; rfl) | (obtain ⟨_, _, _, _, _, rfl, _⟩ := h; rfl) | (obtain ⟨_, _, _, _, _, _, rfl, _⟩ := h; rfl) | (obtain ⟨_, _, _, _, _, _, _, rfl, _⟩ := h; rfl)) pure_cell
theorem ok__law_box {lv : Nat} (Tx : Txt K mg) (F : ∃ fd, FnP K "_law_box" s__law_box (ga K "_law_box") fd) (g : mg "_law_box" = some (.ref (ga K "_law_box"))) : FOG P w K mg base CX0 (lv + 1) "_law_box" ["_law_cell_here"] (spP K true ps_box) :=
  mkP F g sc__law_box (fun _ _ _ _ _ _ us hl => match us, hl with | [_], _ => rfl) (fun cdv A outer s H E hr => dv__law_box Tx hr) rf__law_box (fun sl P h => by first | (obtain ⟨rfl, _⟩ := h; rfl) | (obtain ⟨_, rfl, _⟩ := h; rfl) | (obtain ⟨_, _, rfl, _⟩ := h; rfl) | (obtain ⟨_, _, _, rfl, _⟩ := h; rfl) | (obtain ⟨_, _, _, _, rfl, _⟩ := h; rfl) | (obtain ⟨_, _, _, _, _, rfl, _⟩ := h; rfl) | (obtain ⟨_, _, _, _, _, _, rfl, _⟩ := h; rfl) | (obtain ⟨_, _, _, _, _, _, _, rfl, _⟩ := h; rfl)) pure_box
theorem ok__law_take {lv : Nat} (Tx : Txt K mg) (F : ∃ fd, FnP K "_law_take" s__law_take (ga K "_law_take") fd) (g : mg "_law_take" = some (.ref (ga K "_law_take"))) : FOG P w K mg base CX0 (lv + 1) "_law_take" ["_law_box_here", "_law_many"] (spP K false ps_take) :=
  mkP F g sc__law_take (fun _ _ _ _ _ _ us hl => match us, hl with | [_, _], _ => rfl) (fun cdv A outer s H E hr => dv__law_take Tx hr) rf__law_take (fun sl P h => by first | (obtain ⟨rfl, _⟩ := h; rfl) | (obtain ⟨_, rfl, _⟩ := h; rfl) | (obtain ⟨_, _, rfl, _⟩ := h; rfl) | (obtain ⟨_, _, _, rfl, _⟩ := h; rfl) | (obtain ⟨_, _, _, _, rfl, _⟩ := h; rfl) | (obtain ⟨_, _, _, _, _, rfl, _⟩ := h; rfl) | (obtain ⟨_, _, _, _, _, _, rfl, _⟩ := h; rfl) | (obtain ⟨_, _, _, _, _, _, _, rfl, _⟩ := h; rfl)) pure_take
theorem ok__law_signs {lv : Nat} (Tx : Txt K mg) (F : ∃ fd, FnP K "_law_signs" s__law_signs (ga K "_law_signs") fd) (g : mg "_law_signs" = some (.ref (ga K "_law_signs"))) : FOG P w K mg base CX0 (lv + 1) "_law_signs" [] (spP K false ps_signs) :=
  mkP F g sc__law_signs (fun _ _ _ _ _ _ us hl => match us, hl with | [], _ => rfl) (fun cdv A outer s H E hr => dv__law_signs Tx hr) rf__law_signs (fun sl P h => by first | (obtain ⟨rfl, _⟩ := h; rfl) | (obtain ⟨_, rfl, _⟩ := h; rfl) | (obtain ⟨_, _, rfl, _⟩ := h; rfl) | (obtain ⟨_, _, _, rfl, _⟩ := h; rfl) | (obtain ⟨_, _, _, _, rfl, _⟩ := h; rfl) | (obtain ⟨_, _, _, _, _, rfl, _⟩ := h; rfl) | (obtain ⟨_, _, _, _, _, _, rfl, _⟩ := h; rfl) | (obtain ⟨_, _, _, _, _, _, _, rfl, _⟩ := h; rfl)) pure_signs
theorem ok__law_number {lv : Nat} (Tx : Txt K mg) (F : ∃ fd, FnP K "_law_number" s__law_number (ga K "_law_number") fd) (g : mg "_law_number" = some (.ref (ga K "_law_number"))) (F__law_take : FOG P w K mg base CX0 lv "_law_take" ["_law_box_here", "_law_many"] (spP K false ps_take)) : FOG P w K mg base CX0 (lv + 1) "_law_number" ["_law_box_here"] (spP K false ps_number) :=
  mkP F g sc__law_number (fun _ _ _ _ _ _ us hl => match us, hl with | [_], _ => rfl) (fun cdv A outer s H E hr => dv__law_number Tx F__law_take hr) rf__law_number (fun sl P h => by first | (obtain ⟨rfl, _⟩ := h; rfl) | (obtain ⟨_, rfl, _⟩ := h; rfl) | (obtain ⟨_, _, rfl, _⟩ := h; rfl) | (obtain ⟨_, _, _, rfl, _⟩ := h; rfl) | (obtain ⟨_, _, _, _, rfl, _⟩ := h; rfl) | (obtain ⟨_, _, _, _, _, rfl, _⟩ := h; rfl) | (obtain ⟨_, _, _, _, _, _, rfl, _⟩ := h; rfl) | (obtain ⟨_, _, _, _, _, _, _, rfl, _⟩ := h; rfl)) pure_lnumber
theorem ok__law_text {lv : Nat} (Tx : Txt K mg) (F : ∃ fd, FnP K "_law_text" s__law_text (ga K "_law_text") fd) (g : mg "_law_text" = some (.ref (ga K "_law_text"))) (F__law_signs : FOG P w K mg base CX0 lv "_law_signs" [] (spP K false ps_signs)) (F__law_take : FOG P w K mg base CX0 lv "_law_take" ["_law_box_here", "_law_many"] (spP K false ps_take)) : FOG P w K mg base CX0 (lv + 1) "_law_text" ["_law_box_here"] (spP K false ps_text) :=
  mkP F g sc__law_text (fun _ _ _ _ _ _ us hl => match us, hl with | [_], _ => rfl) (fun cdv A outer s H E hr => dv__law_text Tx F__law_signs F__law_take hr) rf__law_text (fun sl P h => by first | (obtain ⟨rfl, _⟩ := h; rfl) | (obtain ⟨_, rfl, _⟩ := h; rfl) | (obtain ⟨_, _, rfl, _⟩ := h; rfl) | (obtain ⟨_, _, _, rfl, _⟩ := h; rfl) | (obtain ⟨_, _, _, _, rfl, _⟩ := h; rfl) | (obtain ⟨_, _, _, _, _, rfl, _⟩ := h; rfl) | (obtain ⟨_, _, _, _, _, _, rfl, _⟩ := h; rfl) | (obtain ⟨_, _, _, _, _, _, _, rfl, _⟩ := h; rfl)) pure_ltext
theorem ok__law_names {lv : Nat} (Tx : Txt K mg) (F : ∃ fd, FnP K "_law_names" s__law_names (ga K "_law_names") fd) (g : mg "_law_names" = some (.ref (ga K "_law_names"))) (F__law_take : FOG P w K mg base CX0 lv "_law_take" ["_law_box_here", "_law_many"] (spP K false ps_take)) : FOG P w K mg base CX0 (lv + 1) "_law_names" ["_law_box_here", "_law_many"] (spP K false ps_names) :=
  mkP F g sc__law_names (fun _ _ _ _ _ _ us hl => match us, hl with | [_, _], _ => rfl) (fun cdv A outer s H E hr => dv__law_names Tx F__law_take hr) rf__law_names (fun sl P h => by first | (obtain ⟨rfl, _⟩ := h; rfl) | (obtain ⟨_, rfl, _⟩ := h; rfl) | (obtain ⟨_, _, rfl, _⟩ := h; rfl) | (obtain ⟨_, _, _, rfl, _⟩ := h; rfl) | (obtain ⟨_, _, _, _, rfl, _⟩ := h; rfl) | (obtain ⟨_, _, _, _, _, rfl, _⟩ := h; rfl) | (obtain ⟨_, _, _, _, _, _, rfl, _⟩ := h; rfl) | (obtain ⟨_, _, _, _, _, _, _, rfl, _⟩ := h; rfl)) pure_names
theorem ok__law_worth {lv : Nat} (Tx : Txt K mg) (F : ∃ fd, FnP K "_law_worth" s__law_worth (ga K "_law_worth") fd) (g : mg "_law_worth" = some (.ref (ga K "_law_worth"))) (F__law_take : FOG P w K mg base CX0 lv "_law_take" ["_law_box_here", "_law_many"] (spP K false ps_take)) (F__law_number : FOG P w K mg base CX0 lv "_law_number" ["_law_box_here"] (spP K false ps_number)) (F__law_text : FOG P w K mg base CX0 lv "_law_text" ["_law_box_here"] (spP K false ps_text)) (F__law_names : FOG P w K mg base CX0 lv "_law_names" ["_law_box_here", "_law_many"] (spP K false ps_names)) : ∀ m : Nat, FOG P w K mg base CX0 (lv + m) "_law_worth" ["_law_box_here", "_law_most"] (spP K false (ps_worth m))
  | 0 => fog_no F g (fun _ _ _ _ _ _ us hl => match us, hl with | [_, _], _ => rfl) (fun vs H Q E h => by obtain ⟨O, sl, P, R, hps, _⟩ := h; exact no_worth hps)
  | m + 1 => mkP (k := lv + m) F g sc__law_worth (fun _ _ _ _ _ _ us hl => match us, hl with | [_, _], _ => rfl) (fun cdv A outer s H E hr => dv__law_worth Tx (F__law_take.mono (by omega)) (F__law_number.mono (by omega)) (F__law_text.mono (by omega)) (ok__law_worth Tx F g F__law_take F__law_number F__law_text F__law_names m) (F__law_names.mono (by omega)) hr) rf__law_worth (fun sl P h => by first | (obtain ⟨rfl, _⟩ := h; rfl) | (obtain ⟨_, rfl, _⟩ := h; rfl) | (obtain ⟨_, _, rfl, _⟩ := h; rfl) | (obtain ⟨_, _, _, rfl, _⟩ := h; rfl) | (obtain ⟨_, _, _, _, rfl, _⟩ := h; rfl) | (obtain ⟨_, _, _, _, _, rfl, _⟩ := h; rfl) | (obtain ⟨_, _, _, _, _, _, rfl, _⟩ := h; rfl) | (obtain ⟨_, _, _, _, _, _, _, rfl, _⟩ := h; rfl)) pure_lworth
theorem ok__law_sort {lv : Nat} (Tx : Txt K mg) (F : ∃ fd, FnP K "_law_sort" s__law_sort (ga K "_law_sort") fd) (g : mg "_law_sort" = some (.ref (ga K "_law_sort"))) : FOG P w K mg base CX0 (lv + 1) "_law_sort" ["_law_worth_here"] (spP K false (psF (fun t => Wo t) (fun t => .str (sortW t)))) :=
  mkP F g sc__law_sort (fun _ _ _ _ _ _ us hl => match us, hl with | [_], _ => rfl) (fun cdv A outer s H E hr => dv__law_sort Tx hr) rf__law_sort (fun sl P h => by first | (obtain ⟨rfl, _⟩ := h; rfl) | (obtain ⟨_, rfl, _⟩ := h; rfl) | (obtain ⟨_, _, rfl, _⟩ := h; rfl) | (obtain ⟨_, _, _, rfl, _⟩ := h; rfl) | (obtain ⟨_, _, _, _, rfl, _⟩ := h; rfl) | (obtain ⟨_, _, _, _, _, rfl, _⟩ := h; rfl) | (obtain ⟨_, _, _, _, _, _, rfl, _⟩ := h; rfl) | (obtain ⟨_, _, _, _, _, _, _, rfl, _⟩ := h; rfl)) pure_lsort
theorem ok__law_deep {lv : Nat} (Tx : Txt K mg) (F : ∃ fd, FnP K "_law_deep" s__law_deep (ga K "_law_deep") fd) (g : mg "_law_deep" = some (.ref (ga K "_law_deep"))) : ∀ m : Nat, FOG P w K mg base CX0 (lv + m) "_law_deep" ["_law_worth_here"] (spP K false ((fun m => psD m) m))
  | 0 => fog_no F g (fun _ _ _ _ _ _ us hl => match us, hl with | [_], _ => rfl) (fun vs H Q E h => by obtain ⟨O, sl, P, R, hps, _⟩ := h; exact no_D hps)
  | m + 1 => mkP (k := lv + m) F g sc__law_deep (fun _ _ _ _ _ _ us hl => match us, hl with | [_], _ => rfl) (fun cdv A outer s H E hr => dv__law_deep Tx (ok__law_deep Tx F g m) hr) rf__law_deep (fun sl P h => by first | (obtain ⟨rfl, _⟩ := h; rfl) | (obtain ⟨_, rfl, _⟩ := h; rfl) | (obtain ⟨_, _, rfl, _⟩ := h; rfl) | (obtain ⟨_, _, _, rfl, _⟩ := h; rfl) | (obtain ⟨_, _, _, _, rfl, _⟩ := h; rfl) | (obtain ⟨_, _, _, _, _, rfl, _⟩ := h; rfl) | (obtain ⟨_, _, _, _, _, _, rfl, _⟩ := h; rfl) | (obtain ⟨_, _, _, _, _, _, _, rfl, _⟩ := h; rfl)) pure_kdeep
theorem ok__law_walk {lv : Nat} (Tx : Txt K mg) (F : ∃ fd, FnP K "_law_walk" s__law_walk (ga K "_law_walk") fd) (g : mg "_law_walk" = some (.ref (ga K "_law_walk"))) : FOG P w K mg base CX0 (lv + 1) "_law_walk" ["_law_worth_here"] (spP K false ps_walk) :=
  mkP F g sc__law_walk (fun _ _ _ _ _ _ us hl => match us, hl with | [_], _ => rfl) (fun cdv A outer s H E hr => dv__law_walk Tx hr) rf__law_walk (fun sl P h => by first | (obtain ⟨rfl, _⟩ := h; rfl) | (obtain ⟨_, rfl, _⟩ := h; rfl) | (obtain ⟨_, _, rfl, _⟩ := h; rfl) | (obtain ⟨_, _, _, rfl, _⟩ := h; rfl) | (obtain ⟨_, _, _, _, rfl, _⟩ := h; rfl) | (obtain ⟨_, _, _, _, _, rfl, _⟩ := h; rfl) | (obtain ⟨_, _, _, _, _, _, rfl, _⟩ := h; rfl) | (obtain ⟨_, _, _, _, _, _, _, rfl, _⟩ := h; rfl)) pure_walk
theorem ok__law_led {lv : Nat} (Tx : Txt K mg) (F : ∃ fd, FnP K "_law_led" s__law_led (ga K "_law_led") fd) (g : mg "_law_led" = some (.ref (ga K "_law_led"))) : FOG P w K mg base CX0 (lv + 1) "_law_led" ["_law_worth_here", "_law_path"] (spP K false ps_at) :=
  mkP F g sc__law_led (fun _ _ _ _ _ _ us hl => match us, hl with | [_, _], _ => rfl) (fun cdv A outer s H E hr => dv__law_led Tx hr) rf__law_led (fun sl P h => by first | (obtain ⟨rfl, _⟩ := h; rfl) | (obtain ⟨_, rfl, _⟩ := h; rfl) | (obtain ⟨_, _, rfl, _⟩ := h; rfl) | (obtain ⟨_, _, _, rfl, _⟩ := h; rfl) | (obtain ⟨_, _, _, _, rfl, _⟩ := h; rfl) | (obtain ⟨_, _, _, _, _, rfl, _⟩ := h; rfl) | (obtain ⟨_, _, _, _, _, _, rfl, _⟩ := h; rfl) | (obtain ⟨_, _, _, _, _, _, _, rfl, _⟩ := h; rfl)) pure_led
theorem ok__law_at_right {lv : Nat} (Tx : Txt K mg) (F : ∃ fd, FnP K "_law_at_right" s__law_at_right (ga K "_law_at_right") fd) (g : mg "_law_at_right" = some (.ref (ga K "_law_at_right"))) (F_worth_at : FOG P w K mg base CX0 lv "worth_at" ["worth", "path"] (spP K false ps_at)) (F__law_led : FOG P w K mg base CX0 lv "_law_led" ["_law_worth_here", "_law_path"] (spP K false ps_at)) : FOG P w K mg base CX0 (lv + 1) "_law_at_right" ["_law_worth_here", "_law_due"] (spP K false ps_aright) :=
  mkP F g sc__law_at_right (fun _ _ _ _ _ _ us hl => match us, hl with | [_, _], _ => rfl) (fun cdv A outer s H E hr => dv__law_at_right Tx F_worth_at F__law_led hr) rf__law_at_right (fun sl P h => by first | (obtain ⟨rfl, _⟩ := h; rfl) | (obtain ⟨_, rfl, _⟩ := h; rfl) | (obtain ⟨_, _, rfl, _⟩ := h; rfl) | (obtain ⟨_, _, _, rfl, _⟩ := h; rfl) | (obtain ⟨_, _, _, _, rfl, _⟩ := h; rfl) | (obtain ⟨_, _, _, _, _, rfl, _⟩ := h; rfl) | (obtain ⟨_, _, _, _, _, _, rfl, _⟩ := h; rfl) | (obtain ⟨_, _, _, _, _, _, _, rfl, _⟩ := h; rfl)) pure_aright
theorem ok__law_case {lv : Nat} (Tx : Txt K mg) (F : ∃ fd, FnP K "_law_case" s__law_case (ga K "_law_case") fd) (g : mg "_law_case" = some (.ref (ga K "_law_case"))) (F__law_take : FOG P w K mg base CX0 lv "_law_take" ["_law_box_here", "_law_many"] (spP K false ps_take)) (F__law_worth : FOG P w K mg base CX0 lv "_law_worth" ["_law_box_here", "_law_most"] (spP K false (ps_worth 4))) (F__law_walk : FOG P w K mg base CX0 lv "_law_walk" ["_law_worth_here"] (spP K false ps_walk)) (F__law_at_right : FOG P w K mg base CX0 lv "_law_at_right" ["_law_worth_here", "_law_due"] (spP K false ps_aright)) (F_inner : FOG P w K mg base CX0 lv "inner" ["worth"] (spP K false (psF (WoD 5) innerO))) (F_sort_of : FOG P w K mg base CX0 lv "sort_of" ["worth"] (spP K false (psF (WoD 5) (fun t => .str (sortW t))))) (F__law_sort : FOG P w K mg base CX0 lv "_law_sort" ["_law_worth_here"] (spP K false (psF (fun t => Wo t) (fun t => .str (sortW t))))) (F_deep : FOG P w K mg base CX0 lv "deep" ["worth"] (spP K false (psF (WoD 5) (fun t => .int t.dp)))) (F__law_deep : FOG P w K mg base CX0 lv "_law_deep" ["_law_worth_here"] (spP K false ((fun m => psD m) 5))) : FOG P w K mg base CX0 (lv + 1) "_law_case" ["_law_box_here"] (spP K false ps_case) :=
  mkP F g sc__law_case (fun _ _ _ _ _ _ us hl => match us, hl with | [_], _ => rfl) (fun cdv A outer s H E hr => dv__law_case Tx F__law_take F__law_worth F__law_walk F__law_at_right F_inner F_sort_of F__law_sort F_deep F__law_deep hr) rf__law_case (fun sl P h => by first | (obtain ⟨rfl, _⟩ := h; rfl) | (obtain ⟨_, rfl, _⟩ := h; rfl) | (obtain ⟨_, _, rfl, _⟩ := h; rfl) | (obtain ⟨_, _, _, rfl, _⟩ := h; rfl) | (obtain ⟨_, _, _, _, rfl, _⟩ := h; rfl) | (obtain ⟨_, _, _, _, _, rfl, _⟩ := h; rfl) | (obtain ⟨_, _, _, _, _, _, rfl, _⟩ := h; rfl) | (obtain ⟨_, _, _, _, _, _, _, rfl, _⟩ := h; rfl)) pure_case
theorem okLaw {fd : FuncData} {lv : Nat} (Tx : Txt K mg) (F : FnP K "law" s_law (ga K "law") fd) (F__law_case : FOG P w K mg base CX0 lv "_law_case" ["_law_box_here"] (spP K false ps_case)) (F__law_box : FOG P w K mg base CX0 lv "_law_box" ["_law_cell_here"] (spP K true ps_box)) (F__law_cell : FOG P w K mg base CX0 lv "_law_cell" ["_law_script", "_law_k"] (spP K false ps_cell)) : FnG P w K mg base CX0 (lv + 1) (ga K "law") fd ["_law_script"] (spP K false ps_law) :=
  fnG_of F sc_law (spP_len (fun sl P h => by first | (obtain ⟨rfl, _⟩ := h; rfl) | (obtain ⟨_, rfl, _⟩ := h; rfl) | (obtain ⟨_, _, rfl, _⟩ := h; rfl) | (obtain ⟨_, _, _, rfl, _⟩ := h; rfl) | (obtain ⟨_, _, _, _, rfl, _⟩ := h; rfl) | (obtain ⟨_, _, _, _, _, rfl, _⟩ := h; rfl) | (obtain ⟨_, _, _, _, _, _, rfl, _⟩ := h; rfl) | (obtain ⟨_, _, _, _, _, _, _, rfl, _⟩ := h; rfl))) fun cdv A outer s H vs Q E hr h => ⟨_, (dv_law Tx F__law_case F__law_box F__law_cell hr).nox, body_ok rf_law (n := 1) (fun sl P h => by first | (obtain ⟨rfl, _⟩ := h; rfl) | (obtain ⟨_, rfl, _⟩ := h; rfl) | (obtain ⟨_, _, rfl, _⟩ := h; rfl) | (obtain ⟨_, _, _, rfl, _⟩ := h; rfl) | (obtain ⟨_, _, _, _, rfl, _⟩ := h; rfl) | (obtain ⟨_, _, _, _, _, rfl, _⟩ := h; rfl) | (obtain ⟨_, _, _, _, _, _, rfl, _⟩ := h; rfl) | (obtain ⟨_, _, _, _, _, _, _, rfl, _⟩ := h; rfl)) pure_law h⟩
end
def d_is_whole : He.DefD := ⟨("is_whole", none), "is_whole", "is_whole", defArgs s_is_whole, defBody s_is_whole, defScope s_is_whole, [], []⟩
def d_is_name : He.DefD := ⟨("is_name", none), "is_name", "is_name", defArgs s_is_name, defBody s_is_name, defScope s_is_name, [], []⟩
def d_is_number : He.DefD := ⟨("is_number", none), "is_number", "is_number", defArgs s_is_number, defBody s_is_number, defScope s_is_number, [], []⟩
def d_is_text : He.DefD := ⟨("is_text", none), "is_text", "is_text", defArgs s_is_text, defBody s_is_text, defScope s_is_text, [], []⟩
def d_held_in : He.DefD := ⟨("held_in", none), "held_in", "held_in", defArgs s_held_in, defBody s_held_in, defScope s_held_in, [], []⟩
def d_deepness : He.DefD := ⟨("deepness", none), "deepness", "deepness", defArgs s_deepness, defBody s_deepness, defScope s_deepness, [], []⟩
def d_is_worth : He.DefD := ⟨("is_worth", none), "is_worth", "is_worth", defArgs s_is_worth, defBody s_is_worth, defScope s_is_worth, [], []⟩
def d_need_worth : He.DefD := ⟨("need_worth", none), "need_worth", "need_worth", defArgs s_need_worth, defBody s_need_worth, defScope s_need_worth, [], []⟩
def d_sort_word : He.DefD := ⟨("sort_word", none), "sort_word", "sort_word", defArgs s_sort_word, defBody s_sort_word, defScope s_sort_word, [], []⟩
def d_sort_of : He.DefD := ⟨("sort_of", none), "sort_of", "sort_of", defArgs s_sort_of, defBody s_sort_of, defScope s_sort_of, [], []⟩
def d_deep : He.DefD := ⟨("deep", none), "deep", "deep", defArgs s_deep, defBody s_deep, defScope s_deep, [], []⟩
def d_steps_in : He.DefD := ⟨("steps_in", none), "steps_in", "steps_in", defArgs s_steps_in, defBody s_steps_in, defScope s_steps_in, [], []⟩
def d_copy_of : He.DefD := ⟨("copy_of", none), "copy_of", "copy_of", defArgs s_copy_of, defBody s_copy_of, defScope s_copy_of, [], []⟩
def d_gathered : He.DefD := ⟨("gathered", none), "gathered", "gathered", defArgs s_gathered, defBody s_gathered, defScope s_gathered, [], []⟩
def d_inner : He.DefD := ⟨("inner", none), "inner", "inner", defArgs s_inner, defBody s_inner, defScope s_inner, [], []⟩
def d_leads : He.DefD := ⟨("leads", none), "leads", "leads", defArgs s_leads, defBody s_leads, defScope s_leads, [], []⟩
def d_worth_at : He.DefD := ⟨("worth_at", none), "worth_at", "worth_at", defArgs s_worth_at, defBody s_worth_at, defScope s_worth_at, [], []⟩
def d__law_cell : He.DefD := ⟨("_law_cell", none), "_law_cell", "_law_cell", defArgs s__law_cell, defBody s__law_cell, defScope s__law_cell, [], []⟩
def d__law_box : He.DefD := ⟨("_law_box", none), "_law_box", "_law_box", defArgs s__law_box, defBody s__law_box, defScope s__law_box, [], []⟩
def d__law_take : He.DefD := ⟨("_law_take", none), "_law_take", "_law_take", defArgs s__law_take, defBody s__law_take, defScope s__law_take, [], []⟩
def d__law_signs : He.DefD := ⟨("_law_signs", none), "_law_signs", "_law_signs", defArgs s__law_signs, defBody s__law_signs, defScope s__law_signs, [], []⟩
def d__law_number : He.DefD := ⟨("_law_number", none), "_law_number", "_law_number", defArgs s__law_number, defBody s__law_number, defScope s__law_number, [], []⟩
def d__law_text : He.DefD := ⟨("_law_text", none), "_law_text", "_law_text", defArgs s__law_text, defBody s__law_text, defScope s__law_text, [], []⟩
def d__law_names : He.DefD := ⟨("_law_names", none), "_law_names", "_law_names", defArgs s__law_names, defBody s__law_names, defScope s__law_names, [], []⟩
def d__law_worth : He.DefD := ⟨("_law_worth", none), "_law_worth", "_law_worth", defArgs s__law_worth, defBody s__law_worth, defScope s__law_worth, [], []⟩
def d__law_sort : He.DefD := ⟨("_law_sort", none), "_law_sort", "_law_sort", defArgs s__law_sort, defBody s__law_sort, defScope s__law_sort, [], []⟩
def d__law_deep : He.DefD := ⟨("_law_deep", none), "_law_deep", "_law_deep", defArgs s__law_deep, defBody s__law_deep, defScope s__law_deep, [], []⟩
def d__law_walk : He.DefD := ⟨("_law_walk", none), "_law_walk", "_law_walk", defArgs s__law_walk, defBody s__law_walk, defScope s__law_walk, [], []⟩
def d__law_led : He.DefD := ⟨("_law_led", none), "_law_led", "_law_led", defArgs s__law_led, defBody s__law_led, defScope s__law_led, [], []⟩
def d__law_at_right : He.DefD := ⟨("_law_at_right", none), "_law_at_right", "_law_at_right", defArgs s__law_at_right, defBody s__law_at_right, defScope s__law_at_right, [], []⟩
def d__law_case : He.DefD := ⟨("_law_case", none), "_law_case", "_law_case", defArgs s__law_case, defBody s__law_case, defScope s__law_case, [], []⟩
def d_law : He.DefD := ⟨("law", none), "law", "law", defArgs s_law, defBody s_law, defScope s_law, [], []⟩
def fn : List He.DefD := [d_is_whole, d_is_name, d_is_number, d_is_text, d_held_in, d_deepness, d_is_worth, d_need_worth, d_sort_word, d_sort_of, d_deep, d_steps_in, d_copy_of, d_gathered, d_inner, d_leads, d_worth_at, d__law_cell, d__law_box, d__law_take, d__law_signs, d__law_number, d__law_text, d__law_names, d__law_worth, d__law_sort, d__law_deep, d__law_walk, d__law_led, d__law_at_right, d__law_case, d_law]
def fa : List He.Fa := [.free "isinstance", .free "int", .free "bool", .free "str", .free "len", .free "all", .free "list", .free "dict", .free "max", .free "enumerate", .free "sorted", .free "tuple", .free "range", .free "min", .free "repr", .int "LONGEST_NAME" 8, .str "LETTERS" "abcdefghijklmnopqrstuvwxyz", .int "BEYOND" 1000000000000000000, .int "LONGEST_TEXT" 40, .str "SIGNS" " !\"#$&'()*+,-./0123456789:;<=>?@ABCDEFGHIJKLMNOPQRSTUVWXYZ[\\]^_`abcdefghijklmnopqrstuvwxyz{|}~", .int "MOST_IN_ROW" 6, .int "MOST_NAMES" 8, .int "DEEPEST" 4, .glo "is_whole", .glo "is_name", .glo "is_number", .glo "is_text", .glo "held_in", .glo "deepness", .glo "is_worth", .glo "need_worth", .glo "sort_word", .glo "sort_of", .glo "deep", .glo "steps_in", .glo "copy_of", .glo "gathered", .glo "inner", .glo "leads", .glo "worth_at", .glo "_law_cell", .glo "_law_box", .glo "_law_take", .glo "_law_signs", .glo "_law_number", .glo "_law_text", .glo "_law_names", .glo "_law_worth", .glo "_law_sort", .glo "_law_deep", .glo "_law_walk", .glo "_law_led", .glo "_law_at_right", .glo "_law_case", .glo "law"]
def loose0 : List PySem.Str := ["LETTERS", "SIGNS", "BEYOND", "LONGEST_NAME", "LONGEST_TEXT", "MOST_IN_ROW", "MOST_NAMES", "DEEPEST", "HeapError", "NoWorth", "NoPath", "is_whole", "is_name", "is_number", "is_text", "held_in", "deepness", "is_worth", "need_worth", "sort_word"]
def loose1 : List PySem.Str := ["sort_of", "deep", "steps_in", "copy_of", "gathered", "inner", "leads", "worth_at", "_law_cell", "_law_box", "_law_take", "_law_signs", "_law_number", "_law_text", "_law_names", "_law_worth", "_law_sort", "_law_deep", "_law_walk", "_law_led"]
def loose2 : List PySem.Str := ["_law_at_right", "_law_case"]
def loose : List PySem.Str := loose0 ++ loose1 ++ loose2
abbrev R : PySem.W.OpenRow := PySem.W.OpenLaw.row PySem.Challenge.rw_heapkinds_k04_worths_in_a_worth
abbrev hk : PySem.W.Hook := hookX 4 fa fn (fun _ => true)
def ob (s : PySem.W.SharedT) : Bool × He.AlD := obsX 4 fa fn (fun _ => true) (HandSHeadRun.getT s)
theorem ob_eq (s : PySem.W.SharedT) : ob s = hk.obs s.abs := obsX_eq (HandSHeadRun.getT_eq s)
theorem run (w : World) : HandSHeadRun.RunEq R (PySem.W.view R.prog [45]) hk ob 6000 loose w := by
  intro os
  kernel_rfl
theorem facts {P : Program} {w : World} {K : PySem.W.Frag} {h : Heap} {mg : Str → Option Value} {f : Addr} (X : K.In h) (G : h.Ns mainGlobals mg) (hfa : mg ("law" : Str) = some (.ref f)) (cx : SaysX fa fn (fun _ => true) K) :
    ∃ fd : FuncData, (∀ (s : Shared) (v : Value), BindsTo s fd ⟨[v], []⟩ [("_law_script", v)]) ∧ ∀ base : Heap, K.In base → base.Ns mainGlobals mg → FnG P w K mg base CX0 14 f fd ["_law_script"] (spP K false ps_law) := by
  obtain ⟨hsm, hex, c⟩ := cx
  have Tx : Txt K mg := ⟨hsm, He.free_ok X G (c.fact 0 rfl), He.free_ok X G (c.fact 1 rfl), He.free_ok X G (c.fact 2 rfl), He.free_ok X G (c.fact 3 rfl), He.free_ok X G (c.fact 4 rfl), He.free_ok X G (c.fact 5 rfl), He.free_ok X G (c.fact 6 rfl), He.free_ok X G (c.fact 7 rfl), He.free_ok X G (c.fact 8 rfl), He.free_ok X G (c.fact 9 rfl), He.free_ok X G (c.fact 10 rfl), He.free_ok X G (c.fact 11 rfl), He.free_ok X G (c.fact 12 rfl), He.free_ok X G (c.fact 13 rfl), He.free_ok X G (c.fact 14 rfl), He.int_ok X G (c.fact 15 rfl), He.str_ok X G (c.fact 16 rfl), He.int_ok X G (c.fact 17 rfl), He.int_ok X G (c.fact 18 rfl), He.str_ok X G (c.fact 19 rfl), He.int_ok X G (c.fact 20 rfl), He.int_ok X G (c.fact 21 rfl), He.int_ok X G (c.fact 22 rfl)⟩
  have g_is_whole := He.glo_ok X G (c.fact 23 (f := .glo "is_whole") rfl)
  have D_is_whole := c.def_ 0 (d := d_is_whole) rfl
  have g_is_name := He.glo_ok X G (c.fact 24 (f := .glo "is_name") rfl)
  have D_is_name := c.def_ 1 (d := d_is_name) rfl
  have g_is_number := He.glo_ok X G (c.fact 25 (f := .glo "is_number") rfl)
  have D_is_number := c.def_ 2 (d := d_is_number) rfl
  have g_is_text := He.glo_ok X G (c.fact 26 (f := .glo "is_text") rfl)
  have D_is_text := c.def_ 3 (d := d_is_text) rfl
  have g_held_in := He.glo_ok X G (c.fact 27 (f := .glo "held_in") rfl)
  have D_held_in := c.def_ 4 (d := d_held_in) rfl
  have g_deepness := He.glo_ok X G (c.fact 28 (f := .glo "deepness") rfl)
  have D_deepness := c.def_ 5 (d := d_deepness) rfl
  have g_is_worth := He.glo_ok X G (c.fact 29 (f := .glo "is_worth") rfl)
  have D_is_worth := c.def_ 6 (d := d_is_worth) rfl
  have g_need_worth := He.glo_ok X G (c.fact 30 (f := .glo "need_worth") rfl)
  have D_need_worth := c.def_ 7 (d := d_need_worth) rfl
  have g_sort_word := He.glo_ok X G (c.fact 31 (f := .glo "sort_word") rfl)
  have D_sort_word := c.def_ 8 (d := d_sort_word) rfl
  have g_sort_of := He.glo_ok X G (c.fact 32 (f := .glo "sort_of") rfl)
  have D_sort_of := c.def_ 9 (d := d_sort_of) rfl
  have g_deep := He.glo_ok X G (c.fact 33 (f := .glo "deep") rfl)
  have D_deep := c.def_ 10 (d := d_deep) rfl
  have g_steps_in := He.glo_ok X G (c.fact 34 (f := .glo "steps_in") rfl)
  have D_steps_in := c.def_ 11 (d := d_steps_in) rfl
  have g_copy_of := He.glo_ok X G (c.fact 35 (f := .glo "copy_of") rfl)
  have D_copy_of := c.def_ 12 (d := d_copy_of) rfl
  have g_gathered := He.glo_ok X G (c.fact 36 (f := .glo "gathered") rfl)
  have D_gathered := c.def_ 13 (d := d_gathered) rfl
  have g_inner := He.glo_ok X G (c.fact 37 (f := .glo "inner") rfl)
  have D_inner := c.def_ 14 (d := d_inner) rfl
  have g_leads := He.glo_ok X G (c.fact 38 (f := .glo "leads") rfl)
  have D_leads := c.def_ 15 (d := d_leads) rfl
  have g_worth_at := He.glo_ok X G (c.fact 39 (f := .glo "worth_at") rfl)
  have D_worth_at := c.def_ 16 (d := d_worth_at) rfl
  have g__law_cell := He.glo_ok X G (c.fact 40 (f := .glo "_law_cell") rfl)
  have D__law_cell := c.def_ 17 (d := d__law_cell) rfl
  have g__law_box := He.glo_ok X G (c.fact 41 (f := .glo "_law_box") rfl)
  have D__law_box := c.def_ 18 (d := d__law_box) rfl
  have g__law_take := He.glo_ok X G (c.fact 42 (f := .glo "_law_take") rfl)
  have D__law_take := c.def_ 19 (d := d__law_take) rfl
  have g__law_signs := He.glo_ok X G (c.fact 43 (f := .glo "_law_signs") rfl)
  have D__law_signs := c.def_ 20 (d := d__law_signs) rfl
  have g__law_number := He.glo_ok X G (c.fact 44 (f := .glo "_law_number") rfl)
  have D__law_number := c.def_ 21 (d := d__law_number) rfl
  have g__law_text := He.glo_ok X G (c.fact 45 (f := .glo "_law_text") rfl)
  have D__law_text := c.def_ 22 (d := d__law_text) rfl
  have g__law_names := He.glo_ok X G (c.fact 46 (f := .glo "_law_names") rfl)
  have D__law_names := c.def_ 23 (d := d__law_names) rfl
  have g__law_worth := He.glo_ok X G (c.fact 47 (f := .glo "_law_worth") rfl)
  have D__law_worth := c.def_ 24 (d := d__law_worth) rfl
  have g__law_sort := He.glo_ok X G (c.fact 48 (f := .glo "_law_sort") rfl)
  have D__law_sort := c.def_ 25 (d := d__law_sort) rfl
  have g__law_deep := He.glo_ok X G (c.fact 49 (f := .glo "_law_deep") rfl)
  have D__law_deep := c.def_ 26 (d := d__law_deep) rfl
  have g__law_walk := He.glo_ok X G (c.fact 50 (f := .glo "_law_walk") rfl)
  have D__law_walk := c.def_ 27 (d := d__law_walk) rfl
  have g__law_led := He.glo_ok X G (c.fact 51 (f := .glo "_law_led") rfl)
  have D__law_led := c.def_ 28 (d := d__law_led) rfl
  have g__law_at_right := He.glo_ok X G (c.fact 52 (f := .glo "_law_at_right") rfl)
  have D__law_at_right := c.def_ 29 (d := d__law_at_right) rfl
  have g__law_case := He.glo_ok X G (c.fact 53 (f := .glo "_law_case") rfl)
  have D__law_case := c.def_ 30 (d := d__law_case) rfl
  have g_law := He.glo_ok X G (c.fact 54 (f := .glo "law") rfl)
  have D_law := c.def_ 31 (d := d_law) rfl
  have e := hfa.symm.trans g_law
  cases e
  obtain ⟨fd, F⟩ := id D_law
  have b := FunD.bindsA (ps := ["_law_script"]) F fun _ _ _ _ _ _ us hl => match us, hl with | [_], _ => rfl
  refine ⟨fd, fun s v => b s [v] rfl, fun base _ _ => ?_⟩
  have F_is_whole : FOG P w K mg base CX0 1 "is_whole" ["thing"] (spP K false (psF T.Fine (fun t => .bl (wholeT t)))) := ok_is_whole (lv := 0) Tx D_is_whole g_is_whole
  have F_is_name : FOG P w K mg base CX0 1 "is_name" ["thing"] (spP K false (psF T.Fine (fun t => .bl (nameT t)))) := ok_is_name (lv := 0) Tx D_is_name g_is_name
  have F_is_number : FOG P w K mg base CX0 2 "is_number" ["thing"] (spP K false (psF T.Fine (fun t => .bl (numberT t)))) := ok_is_number (lv := 1) Tx D_is_number g_is_number (F_is_whole.mono (by decide))
  have F_is_text : FOG P w K mg base CX0 1 "is_text" ["thing"] (spP K false (psF T.Fine (fun t => .bl (textT t)))) := ok_is_text (lv := 0) Tx D_is_text g_is_text
  have F_held_in : FOG P w K mg base CX0 2 "held_in" ["thing"] (spP K false (psF T.Fine heldO)) := ok_held_in (lv := 1) Tx D_held_in g_held_in (F_is_name.mono (by decide))
  have F_deepness : FOG P w K mg base CX0 7 "deepness" ["thing"] (spP K false ((fun m => psN m T.dp) 5)) := (ok_deepness (lv := 2) Tx D_deepness g_deepness (F_is_number.mono (by decide)) (F_is_text.mono (by decide)) (F_held_in.mono (by decide)) 5).mono (by decide)
  have F_is_worth : FOG P w K mg base CX0 8 "is_worth" ["thing"] (spP K false (psW 5)) := ok_is_worth (lv := 7) Tx D_is_worth g_is_worth (F_deepness.mono (by decide))
  have F_need_worth : FOG P w K mg base CX0 9 "need_worth" ["thing"] (spP K false (psF (WoD 5) (fun _ => .non))) := ok_need_worth (lv := 8) Tx D_need_worth g_need_worth (F_is_worth.mono (by decide))
  have F_sort_word : FOG P w K mg base CX0 1 "sort_word" ["worth"] (spP K false (psF (fun t => Wo t) (fun t => .str (sortW t)))) := ok_sort_word (lv := 0) Tx D_sort_word g_sort_word
  have F_sort_of : FOG P w K mg base CX0 10 "sort_of" ["worth"] (spP K false (psF (WoD 5) (fun t => .str (sortW t)))) := ok_sort_of (lv := 9) Tx D_sort_of g_sort_of (F_need_worth.mono (by decide)) (F_sort_word.mono (by decide))
  have F_deep : FOG P w K mg base CX0 10 "deep" ["worth"] (spP K false (psF (WoD 5) (fun t => .int t.dp))) := ok_deep (lv := 9) Tx D_deep g_deep (F_need_worth.mono (by decide)) (F_deepness.mono (by decide))
  have F_steps_in : FOG P w K mg base CX0 1 "steps_in" ["worth"] (spP K false (psF Wo stepsO)) := ok_steps_in (lv := 0) Tx D_steps_in g_steps_in
  have F_copy_of : FOG P w K mg base CX0 6 "copy_of" ["worth"] (spP K false ((fun m => psC m) 6)) := (ok_copy_of (lv := 0) Tx D_copy_of g_copy_of 6).mono (by decide)
  have F_gathered : FOG P w K mg base CX0 11 "gathered" ["worth", "path"] (spP K false ((fun m => psG m) 5)) := (ok_gathered (lv := 6) Tx D_gathered g_gathered (F_copy_of.mono (by decide)) (F_steps_in.mono (by decide)) 5).mono (by decide)
  have F_inner : FOG P w K mg base CX0 12 "inner" ["worth"] (spP K false (psF (WoD 5) innerO)) := ok_inner (lv := 11) Tx D_inner g_inner (F_need_worth.mono (by decide)) (F_gathered.mono (by decide))
  have F_leads : FOG P w K mg base CX0 2 "leads" ["worth", "step"] (spP K false ps_leads) := ok_leads (lv := 1) Tx D_leads g_leads (F_is_whole.mono (by decide))
  have F_worth_at : FOG P w K mg base CX0 10 "worth_at" ["worth", "path"] (spP K false ps_at) := ok_worth_at (lv := 9) Tx D_worth_at g_worth_at (F_need_worth.mono (by decide)) (F_leads.mono (by decide)) (F_copy_of.mono (by decide))
  have F__law_cell : FOG P w K mg base CX0 1 "_law_cell" ["_law_script", "_law_k"] (spP K false ps_cell) := ok__law_cell (lv := 0) Tx D__law_cell g__law_cell
  have F__law_box : FOG P w K mg base CX0 1 "_law_box" ["_law_cell_here"] (spP K true ps_box) := ok__law_box (lv := 0) Tx D__law_box g__law_box
  have F__law_take : FOG P w K mg base CX0 1 "_law_take" ["_law_box_here", "_law_many"] (spP K false ps_take) := ok__law_take (lv := 0) Tx D__law_take g__law_take
  have F__law_signs : FOG P w K mg base CX0 1 "_law_signs" [] (spP K false ps_signs) := ok__law_signs (lv := 0) Tx D__law_signs g__law_signs
  have F__law_number : FOG P w K mg base CX0 2 "_law_number" ["_law_box_here"] (spP K false ps_number) := ok__law_number (lv := 1) Tx D__law_number g__law_number (F__law_take.mono (by decide))
  have F__law_text : FOG P w K mg base CX0 2 "_law_text" ["_law_box_here"] (spP K false ps_text) := ok__law_text (lv := 1) Tx D__law_text g__law_text (F__law_signs.mono (by decide)) (F__law_take.mono (by decide))
  have F__law_names : FOG P w K mg base CX0 2 "_law_names" ["_law_box_here", "_law_many"] (spP K false ps_names) := ok__law_names (lv := 1) Tx D__law_names g__law_names (F__law_take.mono (by decide))
  have F__law_worth : FOG P w K mg base CX0 6 "_law_worth" ["_law_box_here", "_law_most"] (spP K false (ps_worth 4)) := (ok__law_worth (lv := 2) Tx D__law_worth g__law_worth (F__law_take.mono (by decide)) (F__law_number.mono (by decide)) (F__law_text.mono (by decide)) (F__law_names.mono (by decide)) 4).mono (by decide)
  have F__law_sort : FOG P w K mg base CX0 1 "_law_sort" ["_law_worth_here"] (spP K false (psF (fun t => Wo t) (fun t => .str (sortW t)))) := ok__law_sort (lv := 0) Tx D__law_sort g__law_sort
  have F__law_deep : FOG P w K mg base CX0 5 "_law_deep" ["_law_worth_here"] (spP K false ((fun m => psD m) 5)) := (ok__law_deep (lv := 0) Tx D__law_deep g__law_deep 5).mono (by decide)
  have F__law_walk : FOG P w K mg base CX0 1 "_law_walk" ["_law_worth_here"] (spP K false ps_walk) := ok__law_walk (lv := 0) Tx D__law_walk g__law_walk
  have F__law_led : FOG P w K mg base CX0 1 "_law_led" ["_law_worth_here", "_law_path"] (spP K false ps_at) := ok__law_led (lv := 0) Tx D__law_led g__law_led
  have F__law_at_right : FOG P w K mg base CX0 11 "_law_at_right" ["_law_worth_here", "_law_due"] (spP K false ps_aright) := ok__law_at_right (lv := 10) Tx D__law_at_right g__law_at_right (F_worth_at.mono (by decide)) (F__law_led.mono (by decide))
  have F__law_case : FOG P w K mg base CX0 13 "_law_case" ["_law_box_here"] (spP K false ps_case) := ok__law_case (lv := 12) Tx D__law_case g__law_case (F__law_take.mono (by decide)) (F__law_worth.mono (by decide)) (F__law_walk.mono (by decide)) (F__law_at_right.mono (by decide)) (F_inner.mono (by decide)) (F_sort_of.mono (by decide)) (F__law_sort.mono (by decide)) (F_deep.mono (by decide)) (F__law_deep.mono (by decide))
  exact okLaw (lv := 13) Tx F (F__law_case.mono (by decide)) (F__law_box.mono (by decide)) (F__law_cell.mono (by decide))
theorem law_start {K : PySem.W.Frag} {H : Hp} {a : Addr} {ns : List Int} (hS : SqL K H a (ns.map V.int)) (h : ps_law [.val (.scr ns)] fun t _ => t = .bl true) : spP K false ps_law [.ref a] H (fun v _ => v = .bl true) fun _ _ _ => False := by
  refine ⟨fun _ => False, [.val (.scr ns)], fun t _ => t = .bl true, ⟨rfl, fun i s e => ?_, fun i j s u a e1 e2 r1 r2 => ?_, fun a z => z.elim, fun a z => z.elim⟩, h, fun t sl' v H' p _ _ _ at' _ => ?_⟩
  · match i, e with
    | 0, e =>
      cases e
      refine ⟨_, rfl, ?_⟩
      rcases hS with hS | hS
      · exact .scr (fun z => by rcases z with z | ⟨i, s, e, r⟩; exact z; match i, e with | 0, e => cases e; cases r) hS
      · exact .scrK hS
  · match i, e1 with
    | 0, e1 => cases e1; cases r1
  · subst p; cases at'; rfl
end Pu
open PySem PySem.W PySem.Calls PyProof.Rows
set_option maxRecDepth 100000 in
set_option maxHeartbeats 0 in
theorem PySem.Challenge.cw_heapkinds_k04_worths_in_a_worth_holds : PySem.Challenge.rw_heapkinds_k04_worths_in_a_worth.Holds := by
  w_on; o_law
  refine HandSHeadRun.head_any (r := OpenLaw.row PySem.Challenge.rw_heapkinds_k04_worths_in_a_worth) (q := view (OpenLaw.row PySem.Challenge.rw_heapkinds_k04_worths_in_a_worth).prog [45]) (H := Pu.hk) (ob := Pu.ob) (M := 6000) (loose := Pu.loose) (d := HandSHeadRun.topDef (OpenLaw.row PySem.Challenge.rw_heapkinds_k04_worths_in_a_worth).prog 45) (kwd := []) Pu.ob_eq
    (by kernel_rfl) (fun s => by kernel_rfl) Pu.run (by kernel_rfl) (by kernel_rfl) (by kernel_rfl) (by rfl) (by first | assumption | decide +kernel) (by decide +kernel) ⟨rfl, rfl, rfl, rfl, rfl, by decide +kernel⟩ ?hw ?hc
  case hw => w_witness2
  case hc =>
    refine Hk.walk_G (l := PySem.Challenge.rw_heapkinds_k04_worths_in_a_worth) (n := 63) (k := 14) (x := "_law_script") (CX := L2.CX0) rfl (by decide) (by kernel_rfl) ⟨rfl, by decide, by decide⟩ ?F (fun _ _ _ _ z => z)
    intro w mg fa h Y G hmg0
    obtain ⟨K, KX, c⟩ := Y
    have hmg : mg ("law" : PySem.Str) = some (.ref fa) := by
      have e : (HandSHeadRun.topDef (OpenLaw.row PySem.Challenge.rw_heapkinds_k04_worths_in_a_worth).prog 45).name = ("law" : PySem.Str) := by kernel_rfl
      rw [← e]
      exact hmg0
    obtain ⟨fd, hb, hF⟩ := Pu.facts (P := (PySem.Challenge.rw_heapkinds_k04_worths_in_a_worth).prog) (w := w) KX G hmg c
    exact ⟨K, fd, Pu.spP K false Pu.ps_law, KX, hb, fun H a ns hl _ hS => Pu.law_start hS ⟨ns, rfl, rfl⟩, hF⟩

