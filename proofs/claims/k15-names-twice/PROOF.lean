import PyProof.Rows.All
import Wide.All
import OpenK.AllK
import Wide.FinOn
import KE.KStateDown
import Lean
import HandS.ForMost
import HandS.Exc
import HandS.More
import HandS.WordsExc
import HandS.Defaults
import HandS.IsInst
import HandS.Wide
import HandS.TupAny
import HandS.Deep
import HandS.Walk
import HandS.StrMore
import HandS.Head0
import HandS.Head1
import HandS.Head2
import HandS.HeadEnd
import HandS.HeadHook1
import HandS.HeadHook2
import HandS.HeadHook3
import KE.KIsAll
import HandS.ExcInit
import HandS.ExcIs
import HandS.ExcField
import HandS.ExcOwn
import KE.KExcIs
import KE.KDictList
import KE.KEqNest
import HandS.ListItems
import HandS.Small
import HandS.Lambda
import KE.DataEq
import KE.KItemsList
import PyProof.Rows.StrMeet
import HandS.Style
import KE.KRevSl
import HandS.Strs
import HandS.SortKw
import KE.DataMinMax
import HandS.SortInts
import HandS.Text
import PyProof.Rows.RuleB_bool
import PyProof.EqKinds
import HandS.Set
import HandS.SetFor
import HandS.SetBool
import HandS.SetKeys
import HandS.SortOrd
import KE.LtData
import PyProof.SumAny
import PyProof.Rows.SeqMore
import HandS.NoneIn
import HandS.Iter
import HandS.TryMany
import HandS.ReplaceLit
import KE.SortKeyHeap
import KE.KDictSum
import HandS.HeadHook4
import HandS.NestedK
import PyProof.OldK
import PyProof.TupleOfSeq
import PyProof.MaxThree
import HandS.Flt
import PySem.Challenge.RW_heapkinds_k15_names_twice_in_texts
set_option Elab.async false
set_option linter.all false
set_option maxRecDepth 100000
set_option maxHeartbeats 4000000
namespace Hk
open PySem PySem.Spec PyProof.Rows L2 He
def FOk (P : Program) (w : World) (K : PySem.W.Frag) (mg : Str → Option Value) (base : Heap) (CX : CXT) (k : Nat) (x : Str) (ps : List Str) (sp : Sp) : Prop :=
  mg x = some (.ref (ga K x)) ∧ PySem.W.keepIn K (.ref (ga K x)) = true ∧ ∃ fd, Binds K fd ps [] ∧ FnOk P w K mg base CX k (ga K x) fd ps sp
section
variable {P : Program} {w : World} {K : PySem.W.Frag} {mg : Str → Option Value} {base : Heap}
theorem FOk.mono {CX : CXT} {j k : Nat} {x : Str} {ps : List Str} {sp : Sp} (F : FOk P w K mg base CX j x ps sp) (h : j ≤ k) : FOk P w K mg base CX k x ps sp := by
  obtain ⟨a, b, fd, c, d⟩ := F
  exact ⟨a, b, fd, c, d.mono h⟩
theorem FOk.imp {CX : CXT} {k : Nat} {x : Str} {ps : List Str} {sp sp' : Sp} (F : FOk P w K mg base CX k x ps sp) (h : ∀ vs H Q E, sp' vs H Q E → sp vs H Q E) : FOk P w K mg base CX k x ps sp' := by
  obtain ⟨a, b, fd, c, d⟩ := F
  exact ⟨a, b, fd, c, d.imp h⟩
end
section
variable {X : Cx}
def rSub : R2 := rI0 fun i j => .int (i - j)
def rDiv : R2 := rI CDivW fun i j => .int (i / j)
def rMod : R2 := rI (fun _ j => 0 < j) fun i j => .int (i % j)
def rPow : R2 := rI CPow fun i j => .int (i ^ j.toNat)
def rAddI : R2 := rI0 fun i j => .int (i + j)
def rAddT : R2 := fun x y H Q => ∃ i j, x = .str i ∧ y = .str j ∧ i.length + j.length ≤ sizeLine ∧ Q (.str (i ++ j)) H
def rAdd (K : PySem.W.Frag) : R2 := fun x y H Q => rAddI x y H Q ∨ rAddT x y H Q ∨ rCat x y H Q ∨ rCatA K x y H Q
theorem oAdd : OpR X (binaryOp .Add) (rAdd X.K) := OpR.or op_add (OpR.or op_add_str (OpR.or op_cat op_catA))
def rMulI : R2 := rI CMulW fun i j => .int (i * j)
def rMul (K : PySem.W.Frag) : R2 := fun x y H Q => rMulI x y H Q ∨ rRep x y H Q
theorem oMul : OpR X (binaryOp .Mult) (rMul X.K) := OpR.or op_mulW op_rep
def rGtI : R2 := rI0 fun i j => .bl (decide (j < i))
def rLtI : R2 := rI0 fun i j => .bl (decide (i < j))
def rLtS : R2 := fun x y H Q => ∃ i j, x = .str i ∧ y = .str j ∧ Q (.bl (decide (i.cps.toList < j.cps.toList))) H
def rLtU : R2 := fun x y H Q => rLtI x y H Q ∨ rLtS x y H Q
theorem oLt : OpR X (compareOp .Lt) rLtU := OpR.or op_lt op_lt_str
def rEqU (K : PySem.W.Frag) : R2 := fun x y H Q => rEq x y H Q ∨ rEqD K x y H Q
theorem oEq (hu : X.A.units + 64 < cLine) : OpR X (compareOp .Eq) (rEqU X.K) := OpR.or op_eq (op_eqD hu)
def rNeU (K : PySem.W.Frag) : R2 := fun x y H Q => rNe x y H Q ∨ rNeD K x y H Q
theorem oNe (hu : X.A.units + 64 < cLine) : OpR X (compareOp .NotEq) (rNeU X.K) := OpR.or op_ne (op_neD hu)
def rInT : R2 := fun x y H Q => ∃ (c : Nat) (z : Str), x = .str ⟨#[c]⟩ ∧ y = .str z ∧ Q (.bl (decide (c ∈ z.cps.toList))) H
def rNotInT : R2 := fun x y H Q => ∃ (c : Nat) (z : Str), x = .str ⟨#[c]⟩ ∧ y = .str z ∧ Q (.bl (!decide (c ∈ z.cps.toList))) H
def rInU (K : PySem.W.Frag) : R2 := fun x y H Q => rInT x y H Q ∨ rIn K false x y H Q
theorem oIn (hu : X.A.units + 64 < cLine) : OpR X (compareOp .In) (rInU X.K) := OpR.or op_in_sign op_in_seq
def rNotInU (K : PySem.W.Frag) : R2 := fun x y H Q => rNotInT x y H Q ∨ rIn K true x y H Q
theorem oNotIn (hu : X.A.units + 64 < cLine) : OpR X (compareOp .NotIn) (rNotInU X.K) := OpR.or op_notIn_sign op_notIn_seq
def rIxU (K : PySem.W.Frag) : R2 := fun x y H Q => rIxL K x y H Q ∨ rIxT K x y H Q ∨ rIxS x y H Q
theorem ixAny (hu : X.A.units + 64 < cLine) : IxR X (rIxU X.K) := ix_seq
def rSlU (K : PySem.W.Frag) : V → Option Int → Option Int → Hp → VK → Prop := fun x lo hi H Q => rSlS x lo hi H Q ∨ rSlL K x lo hi H Q ∨ rSlA K x lo hi H Q
theorem slAny : SlR X (rSlU X.K) := SlR.or sl_str (SlR.or sl_list sl_tupA)
def rLenU (K : PySem.W.Frag) : List V → Hp → VK → Prop := fun xs H Q => (∃ x n, xs = [x] ∧ LenV K x H n ∧ Q (.int n) H) ∨ ∃ a kvs, xs = [V.ref a] ∧ H a = some (.dK kvs) ∧ Q (.int kvs.length) H
theorem call_lenU : CallR X (.builtin "len") (rLenU X.K) := CallR.or call_len call_lenD
def rMax2 : List V → Hp → VK → Prop := fun xs H Q => ∃ i j, xs = [.int i, .int j] ∧ Q (.int (if j > i then j else i)) H
def rMin2 : List V → Hp → VK → Prop := fun xs H Q => ∃ i j, xs = [.int i, .int j] ∧ Q (.int (if j < i then j else i)) H
def rJoin (K : PySem.W.Frag) : V → List V → Hp → VK → Prop := fun x xs H Q => ∃ a p, ∃ ys : List Str, x = .str a ∧ xs = [.ref p] ∧ (SqL K H p (ys.map V.str) ∨ SqT K H p (ys.map V.str)) ∧ (ys.map (·.length)).sum + ys.length * a.length ≤ 16777216 ∧ Q (.str (Txt.join a ys)) H
end
end Hk

namespace Hk
open PySem PySem.Spec PyProof.Rows L2 He
structure RoomG (k : Nat) (A : Around) : Prop where
  room : Room k A
  free : A.guards = some []
theorem RoomG.mono {j k : Nat} {A : Around} (r : RoomG k A) (h : j ≤ k) : RoomG j A := ⟨r.room.mono h, r.free⟩
theorem RoomG.units {k : Nat} {A : Around} (r : RoomG k A) : A.units + 64 < cLine := r.room.units
structure FnG (P : Program) (w : World) (K : PySem.W.Frag) (mg : Str → Option Value) (base : Heap) (CX : CXT) (k : Nat) (f : Addr) (fd : FuncData) (ps : List Str) (sp : Sp) : Prop where
  len : ∀ vs H Q E, sp vs H Q E → vs.length = ps.length
  go : ∀ (A : Around) (outer : List Env) (s : Shared) (H : Hp) (args : Args) (us : List Value) (vs : List V) (Q : VK) (E : XK), RoomG k A → Env0 P w K mg base A outer s H →
    BindsTo s fd args (ps.zip us) → Vals vs us → sp vs H Q E → codeAny (model P w) A (.call (.ref f) args) (CR CX outer P w H s Q E) s
section
variable {P : Program} {w : World} {K : PySem.W.Frag} {mg : Str → Option Value} {base : Heap} {CX : CXT} {j k : Nat} {f : Addr} {fd : FuncData} {ps : List Str} {sp : Sp}
theorem FnG.of (F : FnOk P w K mg base CX k f fd ps sp) : FnG P w K mg base CX k f fd ps sp := ⟨F.len, fun A outer s H args us vs Q E g => F.run A outer s H args us vs Q E g.room⟩
theorem FnG.mono (F : FnG P w K mg base CX j f fd ps sp) (h : j ≤ k) : FnG P w K mg base CX k f fd ps sp := ⟨F.len, fun A outer s H args us vs Q E g => F.go A outer s H args us vs Q E (g.mono h)⟩
/-- the rule for a def: its body by a derivation, its reading -/
theorem fnG_of {x qual : Str} {params : Arguments} {body : List Stmt} {scope : Scope} {dvs : List V} {kws : List (Str × V)} {N : List Str} (F : FunD K x qual params body scope dvs kws f fd) (S : FnScope N ps scope)
    (len : ∀ vs H Q E, sp vs H Q E → vs.length = ps.length)
    (hbody : ∀ (cdv : Value) (A : Around) (outer : List Env) (s : Shared) (H : Hp) (vs : List V) (Q : VK) (E : XK), RoomG k (A.deeper (envOfC qual scope s.heap.objs.size f cdv)) → sp vs H Q E →
      ∃ t, PSs (cxOf CX P w K mg base N qual scope f cdv A outer s H E) body t ∧ t { nx := fun _ H' => Q .non H', rt := Q } (start N vs) H) : FnG P w K mg base CX (k + 1) f fd ps sp := by
  obtain ⟨oc, od, dV, kV, doc, pm, an, cdv, ct, osl, rfl, lk, hcd, _, _⟩ := F.ex
  refine ⟨len, fun A outer s H args us vs Q E g e0 hb r hsp => ?_⟩
  have n1 := len _ _ _ _ hsp
  have kin : K.In s.heap := e0.mod.kin.keeps fun b o e => (e0.bs b o e).1
  have nol : s.heap.NoLimit := e0.mod.nolimit.keeps fun b o e => (e0.bs b o e).1
  have kinds : ∀ y ∈ ps.zip us, scope.names.lookup y.1 = some .local ∨ (scope.names.lookup y.1 = some .cell ∧ ((cellsFrom (s.heap.objs.size + 1) scope.names []).lookup y.1).isSome = true) := by
    rintro ⟨nm, v⟩ hy
    rcases S.par nm (List.of_mem_zip hy).1 with q | q
    · left; exact q
    · right; exact ⟨q, PySem.W.cellsFrom_some _ _ _ (.inl q)⟩
  refine codeAny_call_function g.room.depth (kin _ _ lk) rfl S.co S.gen rfl (PySem.W.codeRec_of kin hcd) (hb _ _ _ _ ?_)
  refine wpAny_newFunctionEnv_cells S.kind kinds fun env he s1 y => ?_
  subst he
  refine ⟨nol.keeps y.toInCall.keep, codeAny_func ?_⟩
  obtain ⟨t, ht, hq⟩ := hbody cdv A outer s H vs Q E ⟨g.room.deeper _, g.free⟩ hsp
  have inv := inv_start (CX := CX) (E := E) S g.room.hd e0 n1 r y
  refine wpAny_mono (ht.run [] s1 (start N vs) H _ inv hq) (fun fl s' z => ?_) fun e s' z => z
  cases fl
  case ret u => obtain ⟨v, σ', H', J, rv, q⟩ := z; exact ⟨v, H', J.os, J.bare, J.base, J.hok, rv, q⟩
  case next => obtain ⟨σ', H', J, q⟩ := z; exact ⟨.non, H', J.os, J.bare, J.base, J.hok, rfl, q⟩
  case brk => obtain ⟨_, _, _, q⟩ := z; exact q.elim
  case cont => obtain ⟨_, _, _, q⟩ := z; exact q.elim
end
section
variable {X : Cx} {CX : CXT} {k : Nat} {f : Addr} {fd : FuncData} {ps : List Str} {sp : Sp} {E : XK}
theorem run_fnG {pins : List (Addr × Obj)} {σ : L2.St} {H : Hp} {s : Shared} {Q : VK} {us : List Value} {vs : List V} (F : FnG X.prog X.w X.K X.mg X.base CX k f fd ps sp) (g : RoomG k X.A) (hb : Binds X.K fd ps []) (hx : Passes CX X E)
    (I : Inv X pins σ H s) (r : Vals vs us) (h : sp (vs ++ []) H Q E) : wpAny (model X.prog X.w) X.A (call (.ref f) us) (EP X pins σ Q) X.xe s := by
  rw [List.append_nil] at h
  have n1 : us.length = ps.length := by rw [← r.length]; exact F.len _ _ _ _ h
  have b1 := hb s us I.kIn (by rw [List.append_nil]; exact n1)
  rw [List.append_nil] at b1
  refine wpAny_call (codeAny_mono (F.go X.A X.stack s H ⟨us, []⟩ us vs Q E g I.env0 b1 r h) fun r s' z => ?_)
  cases r with
  | error e => exact hx pins σ H s e s' I z
  | ok fl => cases fl <;> first | exact I.after z | exact False.elim z
end
/-- a def packed -/
def FOG (P : Program) (w : World) (K : PySem.W.Frag) (mg : Str → Option Value) (base : Heap) (CX : CXT) (k : Nat) (x : Str) (ps : List Str) (sp : Sp) : Prop :=
  mg x = some (.ref (ga K x)) ∧ PySem.W.keepIn K (.ref (ga K x)) = true ∧ ∃ fd, Binds K fd ps [] ∧ FnG P w K mg base CX k (ga K x) fd ps sp
section
variable {P : Program} {w : World} {K : PySem.W.Frag} {mg : Str → Option Value} {base : Heap}
theorem FOG.mono {CX : CXT} {j k : Nat} {x : Str} {ps : List Str} {sp : Sp} (F : FOG P w K mg base CX j x ps sp) (h : j ≤ k) : FOG P w K mg base CX k x ps sp := by
  obtain ⟨a, b, fd, c, d⟩ := F
  exact ⟨a, b, fd, c, d.mono h⟩
theorem FOG.of {CX : CXT} {k : Nat} {x : Str} {ps : List Str} {sp : Sp} (F : FOk P w K mg base CX k x ps sp) : FOG P w K mg base CX k x ps sp := by
  obtain ⟨a, b, fd, c, d⟩ := F
  exact ⟨a, b, fd, c, .of d⟩
end
section
variable {X : Cx} {CX : CXT} {k : Nat} {x : Str} {ps : List Str} {sp : Sp} {E : XK} {e : Expr} {es : List Expr} {t : TA} {p pos : Pos}
theorem pe_callG (F : FOG X.prog X.w X.K X.mg X.base CX k x ps sp) (g : RoomG k X.A) (hg : Gl X x) (hx : Passes CX X E) (ha : PA X (e :: es) t)
    (hdb : (x == ("__debug__" : Str)) = false := by decide) (he : starEach (e :: es) X.env = (false, eval e X.env) :: starEach es X.env := by rfl) (hpl : (backTo pos (starEach es X.env)).any (·.1) = false := by rfl) :
    PE X (.Call (.Name x p) (e :: es) [] pos) (tCall sp [] E t) := by
  obtain ⟨a, b, fd, c, d⟩ := F
  refine ⟨fun pins s σ H Q I h => wpAny_Call_Name_kw (ld_glob I hg a ?_ hdb)⟩
  refine PySem.W.callWith_K (h₀ := X.base) I.ok.mod.kin b (thn (ha.run pos pins s σ H _ I h) fun us s1 ⟨vs, H1, I1, r, q⟩ => ⟨I1.kIn, ?_⟩) he hpl
  exact run_fnG d g c hx I1 r q
end
section
variable {P : Program} {w : World} {K : PySem.W.Frag} {mg : Str → Option Value} {base : Heap}
abbrev FnP (K : PySem.W.Frag) (x : Str) (st : Stmt) (f : Addr) (fd : FuncData) : Prop := FunD K x x (defArgs st) (defBody st) (defScope st) [] [] f fd
theorem mkG {x : Str} {st : Stmt} {N ps : List Str} {k : Nat} {sp : Sp} (F : ∃ fd, FnP K x st (ga K x) fd) (g : mg x = some (.ref (ga K x))) (sc : FnScope N ps (defScope st)) (len : ∀ vs H Q E, sp vs H Q E → vs.length = ps.length)
    (hb : ∀ (kV doc pm : Value) (an : Option Addr) (cdv ct : Value) (us : List Value), us.length = ps.length → bindArgs (PySem.W.fnOf x x (defArgs st) (defBody st) (defScope st) .none kV doc pm an cdv ct) ⟨us, []⟩ = pure (ps.zip us))
    (hbody : ∀ (cdv : Value) (A : Around) (outer : List Env) (s : Shared) (H : Hp) (vs : List V) (Q : VK) (E : XK), RoomG k (A.deeper (envOfC x (defScope st) s.heap.objs.size (ga K x) cdv)) → sp vs H Q E →
      ∃ t, PSs (cxOf CX0 P w K mg base N x (defScope st) (ga K x) cdv A outer s H E).nox (defBody st) t ∧ t { nx := fun _ H' => Q .non H', rt := Q } (start N vs) H) : FOG P w K mg base CX0 (k + 1) x ps sp := by
  obtain ⟨fd, F⟩ := F
  refine ⟨g, F.kp, fd, F.bindsN hb, fnG_of F sc len fun cdv A outer s H vs Q E hr h => ?_⟩
  obtain ⟨t, h1, h2⟩ := hbody cdv A outer s H vs Q E hr h
  exact ⟨t, h1.nox, h2⟩
end
theorem law_callG {P : Program} {w : World} {K : PySem.W.Frag} {mg mb : Str → Option Value} {CX : CXT} {k : Nat} {fa a : Addr} {fd : FuncData} {x : Str} {sp : Sp} {s₁ : Shared} {vs : List Value} {ns : List Int}
    (kin : K.In s₁.heap) (hns : s₁.heap.Ns mainGlobals mg) (hb : s₁.heap.Ns builtinsNs mb) (hbb : ∀ x : Str, x ≠ "__name__" → mb x = bootBuiltins x) (hlim : s₁.heap.NoLimit) (hg : s₁.gens = #[])
    (ha : s₁.heap.get? a = some { cls := .type "list", data := .seq vs.toArray }) (hi : IntsAre vs ns) (hl : ns.length ≤ sizeLine) (hr : Room k callerA)
    (F : ∀ base : Heap, K.In base → base.Ns mainGlobals mg → FnG P w K mg base CX k fa fd [x] sp) (hbind : ∀ (s : Shared) (u : Value), BindsTo s fd ⟨[u], []⟩ [(x, u)])
    (hsp : ∀ H : Hp, Only H → SqL K H a (ns.map V.int) → sp [.ref a] H (fun v _ => v = .bl true) fun _ _ _ => False) (hCX : ∀ H e s', CX [] H s₁ (fun _ _ _ => False) e s' → False) :
    codeAny (model P w) callerA (.call (.ref fa) ⟨[.ref a], []⟩) (fun r s' => r = .ok (.ret (.bool true)) ∧ OldK s₁.heap s'.heap ∧ s'.os = s₁.os ∧ AllBare s'.gens) s₁ := by
  have rv := vals_ints hi
  have lv := hi.length
  have nil_mem : ∀ {b : Addr}, b ∈ ([] : List Addr) → False := fun z => by simp at z
  have main : ∀ H : Hp, Only H → SqL K H a (ns.map V.int) → HOk P w H s₁.heap → (∀ b u, H b = some u → b = a ∧ K.lookup a = none) →
      codeAny (model P w) callerA (.call (.ref fa) ⟨[.ref a], []⟩) (fun r s' => r = .ok (.ret (.bool true)) ∧ OldK s₁.heap s'.heap ∧ s'.os = s₁.os ∧ AllBare s'.gens) s₁ := by
    intro H hO hS ok only
    have free : ∀ {b : Addr}, (b = a → False) → H b = none := fun {b} n => by
      cases q : H b with
      | none => rfl
      | some u => exact (n (only b u q).1).elim
    have nsH : ∀ {b : Addr} {m : Str → Option Value}, s₁.heap.Ns b m → (hidT s₁.heap H).Ns b m := by
      rintro b m ⟨o, es, ep, e, d, r⟩
      refine ⟨o, es, ep, hidT_get e (free fun z => ?_), d, r⟩
      subst z
      rw [ha] at e
      cases e
      cases (show Data.seq vs.toArray _ = Data.dict es ep from d)
    have kinH : K.In (hidT s₁.heap H) := fun b o e => hidT_get (kin b o e) (by
      cases q : H b with
      | none => rfl
      | some u =>
        obtain ⟨z, n⟩ := only b u q
        subst z
        rw [n] at e
        cases e)
    have modH : Mod K mg (hidT s₁.heap H) := by
      obtain ⟨mc, h1, h2⟩ := hlim
      exact ⟨kinH, nsH hns, ⟨mb, nsH hb, hbb⟩, ⟨mc, nsH h1, h2⟩⟩
    have env : Env0 P w K mg (hidT s₁.heap H) callerA [] s₁ H :=
      ⟨rfl, modH, fun b o e => of_hidT e, Nat.le_of_eq (hidT_size _ _), trivial, fun b z => (nil_mem z).elim, ok, .of_eq hg⟩
    have run := (F _ kinH (nsH hns)).go callerA [] s₁ H ⟨[.ref a], []⟩ [.ref a] [.ref a] _ _ ⟨hr, rfl⟩ env (hbind s₁ (.ref a)) (.cons rfl .nil) (hsp H hO hS)
    refine codeAny_mono run fun r s' h => ?_
    cases r with
    | error e => exact (hCX H e s' h).elim
    | ok fl =>
      cases fl with
      | ret u =>
        obtain ⟨v, H', os, bare, un, ok', r', q⟩ := h
        obtain rfl : v = .bl true := q
        obtain rfl : u = Value.bool true := r'
        refine ⟨rfl, OldK.of_keep fun b o e => ?_, os, bare⟩
        rcases hO b with z | ⟨ob, xs, z⟩
        · exact un.keep b o e z (fun z => nil_mem z) (fun z => nil_mem z)
        · have e1 := (ok b _ z).1
          have e2 := (ok' b _ (un.frzs b ob _ z)).1
          rw [e] at e1
          cases e1
          exact e2
      | _ => exact h.elim
  cases hk : K.lookup a with
  | some o =>
    have e := kin a o hk
    rw [ha] at e
    cases e
    exact main (fun _ => none) (fun _ => .inl rfl) (.inr ⟨_, vs.toArray, _, hk, rfl, rfl, rfl, by rw [List.size_toArray, lv]; exact hl, by simpa using rv⟩) (fun b u z => by cases (show (none : Option HO) = some u from z)) (fun b u z => by cases (show (none : Option HO) = some u from z))
  | none =>
    let o : Obj := { cls := .type "list", data := .seq vs.toArray }
    let H0 : Hp := fun b => if b = a then some (.frz o (.lst (ns.map V.int))) else none
    have at_a : ∀ {b u}, H0 b = some u → b = a ∧ u = .frz o (.lst (ns.map V.int)) := by
      intro b u z
      by_cases q : b = a
      · exact ⟨q, (Option.some.inj ((if_pos q).symm.trans z)).symm⟩
      · cases (if_neg q).symm.trans z
    refine main H0 (fun b => ?_) (.inl (.inr ⟨o, if_pos rfl⟩)) (fun b u z => ?_) (fun b u z => ⟨(at_a z).1, hk⟩)
    · by_cases q : b = a
      · exact .inr ⟨_, _, if_pos q⟩
      · exact .inl (if_neg q)
    · obtain ⟨rfl, rfl⟩ := at_a z
      exact ⟨ha, by rw [List.length_map]; exact hl, vs, _, rv, ha⟩
theorem walk_G {l : PySem.W.OpenLaw} {n k : Nat} {q : Program} {loose : List Str} {XP : (Str → Option Value) → Heap → Prop} {YP : World → Heap → Prop} {d : DefRec} {CX : CXT} {x : Str}
    (hn : l.most = some n) (hn2 : n ≤ sizeLine) (hdf : d.params.defaults = []) (hr : Room k callerA)
    (F : ∀ (w : World) (mg : Str → Option Value) (fa : Addr) (h : Heap), YP w h → h.Ns mainGlobals mg → mg d.name = some (.ref fa) →
      ∃ (K : PySem.W.Frag) (fd : FuncData) (sp : Sp), K.In h ∧ (∀ (s : Shared) (u : Value), BindsTo s fd ⟨[u], []⟩ [(x, u)]) ∧
        (∀ (H : Hp) (a : Addr) (ns : List Int), ns.length ≤ n → Only H → SqL K H a (ns.map V.int) → sp [.ref a] H (fun v _ => v = .bl true) fun _ _ _ => False) ∧
        ∀ base : Heap, K.In base → base.Ns mainGlobals mg → FnG l.prog w K mg base CX k fa fd [x] sp)
    (hCX : ∀ (H : Hp) (s : Shared) (e : Value) (s' : Shared), CX [] H s (fun _ _ _ => False) e s' → False) :
    PySem.W.WalkO q loose XP YP l.row.toRowW d [] (fun f vs => PySem.call f vs) := by
  refine Att.attach_call hn hdf fun w s₀ s₁ mg mb fa o pm cd doc a vs ns G Y ho hd hcd hmg hobj hints hlen hg => ?_
  obtain ⟨K, fd, sp, kx, hb, hsp, hF⟩ := F w mg fa _ Y G.T.g hmg
  exact law_callG kx G.T.g G.T.b G.T.builtins G.T.nolimit hg hobj hints (Nat.le_trans hlen hn2) hr hF hb (fun H hO hS => hsp H a ns hlen hO hS) fun H e s' => hCX H s₁ e s'
end Hk


namespace Hk
open PySem PySem.Spec PyProof.Rows L2 He
/-- the table that is watched: that of the code object at K's head, where there is one, and the name of what is made by a lambda there -/
def tbF (vs : Array Value) : List (Addr × Str) := match vs.getD 11 .none, vs.getD 1 .none with
  | .ref P, .str q _ => [(P, q ++ ".<locals>." ++ "<lambda>")]
  | _, _ => []
def tbO (o : Obj) : List (Addr × Str) := match o.data with
  | .fields vs => tbF vs
  | _ => []
def TbK (K : PySem.W.Frag) : List (Addr × Str) := match K with
  | (_, o) :: _ => tbO o
  | [] => []
/-- what an object names, a class's bases left out (they are names of the module's own) -/
def refsZ (o : Obj) : List Addr := refV o.cls ++ (match o.data with
  | .seq its _ => its.toList.flatMap refV
  | .dict es _ => es.toList.flatMap fun e => refV e.val
  | .func fd => refV fd.code ++ (refV fd.defaults ++ (refV fd.kwdefaults ++ fd.closure.map (·.2)))
  | .cls cd => [cd.ns]
  | .fields vs => vs.toList.flatMap refV
  | .cell (some v) => refV v
  | _ => []) ++ match o.dict with
  | some d => [d]
  | none => []
def layZ (g : Addr → Option Obj) : Nat → List Addr → List Addr
  | 0, f => f
  | n + 1, f => f ++ layZ g n (f.flatMap fun a => match g a with
    | some o => refsZ o
    | none => [])
def frY (n : Nat) (g : Addr → Option Obj) : PySem.W.Frag := frG g (cStatics :: sysModules :: layZ g n [mainGlobals])
end Hk

namespace Hk
open PySem PySem.Spec PyProof.Rows L2 He
def obsZ (n : Nat) (fa : List Fa) (fn : List DefD) (ts : List Tab) (ex : PySem.W.Frag → Bool) (g : Addr → Option Obj) : Bool × AlT := ((((frY n g).lookup sysModules).isSome && ex (frY n g)), obsT fa fn ts (frY n g))
def SaysZ (fa : List Fa) (fn : List DefD) (ts : List Tab) (ex : PySem.W.Frag → Bool) (w : World) (K : PySem.W.Frag) : Prop := (∃ o, K.lookup sysModules = some o) ∧ ex K = true ∧ SaysT fa fn ts w K
theorem saysZ_of {fa : List Fa} {fn : List DefD} {ts : List Tab} {ex : PySem.W.Frag → Bool} {n : Nat} {w : World} {g : Addr → Option Obj} (e : obsZ n fa fn ts ex g = (true, He.valT fn ts w)) : SaysZ fa fn ts ex w (frY n g) := by
  have e1 := congrArg Prod.fst e
  have e2 := congrArg Prod.snd e
  obtain ⟨h1, h2⟩ := Bool.and_eq_true_iff.mp e1
  exact ⟨Option.isSome_iff_exists.mp h1, h2, e2⟩
def hookZ (n : Nat) (fa : List Fa) (fn : List DefD) (ts : List Tab) (ex : PySem.W.Frag → Bool) : PySem.W.Hook where
  α := Bool × AlT
  obs := fun s => obsZ n fa fn ts ex s.heap.get?
  val := fun w => (true, He.valT fn ts w)
  says := fun w h => ∃ K : PySem.W.Frag, K.In h ∧ SaysZ fa fn ts ex w K
  of := fun _ s e => ⟨frY n s.heap.get?, frG_in, saysZ_of e⟩
  keeps := fun _ _ _ ⟨K, hK, c⟩ k => ⟨K, PySem.W.Frag.In.keeps hK k, c⟩
theorem obsZ_eq {n : Nat} {fa : List Fa} {fn : List DefD} {ts : List Tab} {ex : PySem.W.Frag → Bool} {g : Addr → Option Obj} {s : Shared} (h : ∀ a, g a = s.heap.get? a) : obsZ n fa fn ts ex g = (hookZ n fa fn ts ex).obs s := by
  obtain rfl : g = s.heap.get? := funext h
  rfl
def clsQ (K : PySem.W.Frag) (C : Addr) : Bool := PySem.W.plainGet K C Str.empty && (PySem.W.hasDictIn K C && (PySem.W.plainOver K C && decide (PySem.W.findIn K (.ref C) "__setattr__" = some (some (.builtin "object.__setattr__")))))
def noQ (K : PySem.W.Frag) (C : Addr) (m : Str) : Bool := decide (PySem.W.findIn K (.ref C) m = some none)
def methQ (K : PySem.W.Frag) (C : Addr) (m : Str) (f : Addr) : Bool := decide (PySem.W.findIn K (.ref C) m = some (some (.ref f))) && (PySem.W.isFn K (.ref f) && PySem.W.keepIn K (.ref f))
def mkQ (K : PySem.W.Frag) (C f : Addr) : Bool := PySem.W.makesIn K C && (decide (PySem.W.findIn K (.ref C) "__init__" = some (some (.ref f))) && (PySem.W.isFn K (.ref f) && PySem.W.keepIn K (.ref C)))
end Hk

namespace Hk
open PySem PySem.Spec PyProof.Rows L2 He
theorem RoomG.mk' {k : Nat} {A : Around} (r : RoomG (k + 1) A) (C : Addr) (us : List Value) : RoomG k (A.under (.builtin "type.__call__" ⟨.ref C :: us, []⟩)) := ⟨r.room.make C us [], r.free⟩
/-- what stands in the text of an error's class -/
structure ErrC (K : PySem.W.Frag) (C fI : Addr) (f : Str) : Prop where
  oex : OexC K C
  xf : XfC K C
  isi : ExcC K C
  no : PySem.W.findIn K (.ref C) f = some none
  ini : PySem.W.findIn K (.ref C) "__init__" = some (some (.ref fI))
  tini : PySem.W.typeIn K (.ref fI) = some (.type "function")
def oexB (K : PySem.W.Frag) (C : Addr) : Bool := match K.lookup C with
  | some ⟨cl, _, .cls ⟨_, _, .ref C' :: bm, _, _, hd, _, _, _, _, hdel⟩, sl⟩ => (match sl.toList with
    | [_, _, _, _, some (.builtin n), _] => decide (cl = .type "type") && (decide (C' = C) && (decide (n = "ValueError.__new__") && (hd && (!hdel && PySem.HandSPX.refsVE bm))))
    | _ => false)
  | _ => false
theorem oexB_ok {K : PySem.W.Frag} {C : Addr} (h : oexB K C = true) : ∃ nm q N bs bm sn sub ab col dd k0 k1 k2 k3 k5, K.lookup C = some (excClassObj nm q C N bs bm true sn sub ab col dd k0 k1 k2 k3 k5 "ValueError.__new__") ∧ PySem.HandSPX.refsVE bm = true := by
  unfold oexB at h
  split at h
  · rename_i cl dd nm bs C' bm N q hd sn sub ab col hdel sl e
    split at h
    · rename_i k0 k1 k2 k3 n k5 e2
      simp only [Bool.and_eq_true, decide_eq_true_eq] at h
      obtain ⟨h1, h2, h3, h4, h5, h6⟩ := h
      subst h1 h2 h3 h4
      have h5' : hdel = false := by simpa using h5
      subst h5'
      refine ⟨nm, q, N, bs, bm, sn, sub, ab, col, dd, k0, k1, k2, k3, k5, ?_, h6⟩
      rw [e]
      have e3 : sl = #[k0, k1, k2, k3, some (.builtin "ValueError.__new__"), k5] := by
        apply Array.ext'
        simpa using e2
      rw [e3]
    · cases h
  · cases h
def errB (K : PySem.W.Frag) (C fI : Addr) (f : Str) : Bool :=
  oexB K C && (decide (PySem.W.findIn K (.ref C) "__setattr__" = some (some (.builtin "object.__setattr__"))) && (decide (PySem.W.subIn K (.ref C) (.type "BaseException") = some true) && (decide (PySem.W.typeIn K (.ref C) = some (.type "type")) && (PySem.W.keepIn K (.ref C) &&
  (xfB K C && (decide (PySem.W.findIn K (.ref C) "__class__" = some (some (.builtin "object.__class__"))) && (decide (PySem.W.specialIn K (.builtin "object.__class__") "__get__" = some (some (.builtin "getset_descriptor.__get__"))) &&
  (decide (PySem.W.takesIn K (.builtin "object.__class__") = some true) && (decide (PySem.W.mroIn K C (.type "object") = some true) && (decide (PySem.W.findIn K (.ref C) f = some none) &&
  (decide (PySem.W.findIn K (.ref C) "__init__" = some (some (.ref fI))) && decide (PySem.W.typeIn K (.ref fI) = some (.type "function")))))))))))))
theorem errB_ok {K : PySem.W.Frag} {C fI : Addr} {f : Str} (h : errB K C fI f = true) : ErrC K C fI f := by
  unfold errB at h
  simp only [Bool.and_eq_true, decide_eq_true_eq] at h
  obtain ⟨h1, h2, h3, h4, h5, h6, h7, h8, h9, h10, h11, h12, h13⟩ := h
  have x := xfB_ok h6
  exact ⟨⟨oexB_ok h1, h2, h3, h4, h5⟩, x, ⟨x.ga, x.gg, h3, x.hdC, h7, h8, h9, h10⟩, h11, h12, h13⟩
/-- the base class's own __init__, asked of the class -/
structure BasC (K : PySem.W.Frag) (C : Addr) : Prop where
  rd : PySem.W.readsIn K C (.type "type") = true
  ga : PySem.W.specialIn K (.ref C) "__getattribute__" = some (some (.builtin "type.__getattribute__"))
  ini : PySem.W.findCls K (.ref C) (.type "type") "__init__" = some (.val (.builtin "ValueError.__init__"))
def basB (K : PySem.W.Frag) (C : Addr) : Bool := PySem.W.readsIn K C (.type "type") && (decide (PySem.W.specialIn K (.ref C) "__getattribute__" = some (some (.builtin "type.__getattribute__"))) && (match PySem.W.findCls K (.ref C) (.type "type") "__init__" with | some (.val (.builtin n)) => decide (n = "ValueError.__init__") | _ => false))
theorem basB_ok {K : PySem.W.Frag} {C : Addr} (h : basB K C = true) : BasC K C := by
  unfold basB at h
  simp only [Bool.and_eq_true, decide_eq_true_eq] at h
  obtain ⟨h1, h2, h3⟩ := h
  refine ⟨h1, h2, ?_⟩
  split at h3
  · rename_i n e
    rw [e, of_decide_eq_true h3]
  · cases h3
section
variable {X : Cx} {e : Expr} {es : List Expr} {ta : TA} {p1 p2 pos : Pos}
theorem pe_baseinit {x : Str} {CH : Addr} {pl : Sem Bool} (hg : Gl X x) (hm : X.mg x = some (.ref CH)) (B : BasC X.K CH) (ha : PA X (e :: es) ta) (hdb : (x == ("__debug__" : Str)) = false := by decide)
    (hc : eval (.Call (.Attribute (.Name x p1) "__init__" p2) (e :: es) [] pos) X.env = (do
      let ov ← eval (.Name x p1) X.env
      standAt p2.atName
      let (f, first) ← holding [ov] (getMethod ov "__init__" pl)
      callWith pos f first (backTo pos (starEach (e :: es) X.env)) (backToKw pos (keywordEach [] X.env))) := by rfl)
    (he : starEach (e :: es) X.env = (false, eval e X.env) :: starEach es X.env := by rfl) (hpl : (backTo pos (starEach es X.env)).any (·.1) = false := by rfl) :
    PE X (.Call (.Attribute (.Name x p1) "__init__" p2) (e :: es) [] pos) (tVeI X.K ta) := by
  refine ⟨fun pins s σ H Q I h => ?_⟩
  refine PySem.W.methodCall_KW (ld_glob I hg hm ?_ hdb) hc
  refine PySem.W.method_cls I.kIn B.ga (PySem.W.cls_value I.kIn B.rd B.ini (by decide +kernel) ?_)
  refine PyProof.Rows.callWith_method1 (thn (ha.run pos pins _ σ H _ (I.tok _) h) fun us s1 hh => ?_) he hpl
  obtain ⟨vs, H1, I1, r1, a, C, ws, ev, hl, T, ea, q⟩ := hh
  subst ev
  cases r1 with
  | @cons _ u0 _ ur ra rr =>
    cases (show u0 = Value.ref a from ra)
    exact oinit_ok T I1 ea (by rw [← Paired.length rr, sizeLine_eq]; omega) fun s' J => ⟨.non, H1, J, rfl, q⟩
end
/-- an error's __init__: the base's, then the one field -/
def spIni (C : Addr) (f : Str) : Sp := fun vs H Q _ => ∃ (a : Addr) (y : V), vs = [.ref a, y] ∧ H a = some (exo a C none) ∧ ∀ dx, H dx = none → dx ≠ a → Q .non (upd (upd H dx (exd dx [(f, y)])) a (exo a C (some dx)))
def tIni (K : PySem.W.Frag) (f msg : Str) : TS := tSeq (tDrop (tVeI K (tCons (tVar 0) (tCons (tC (.str msg)) tNil)))) (tOst K f (tVar 0) (tVar 1))
theorem ini_ok {K : PySem.W.Frag} {C fI : Addr} {f msg : Str} (T : ErrC K C fI f) {vs : List V} {H : Hp} {Q : VK} {E : XK} {N : List Str} (hN : N.length = 2) (h : spIni C f vs H Q E) : tIni K f msg { nx := fun _ H' => Q .non H', rt := Q } (start N vs) H := by
  obtain ⟨a, y, rfl, ha, q⟩ := h
  have e0 : (start N [.ref a, y])[0]? = some (some (V.ref a)) := by
    match N, hN with
    | [_, _], _ => rfl
  have e1 : (start N [.ref a, y])[1]? = some (some y) := by
    match N, hN with
    | [_, _], _ => rfl
  refine ⟨_, e0, a, C, [.str msg], rfl, by show 1 ≤ 1000; decide, T.oex, ha, ?_⟩
  exact ⟨_, e1, _, e0, a, C, rfl, T.oex, T.no, .inl ⟨ha, fun dx h1 h2 => q dx h1 h2⟩⟩
def tMk1 (C : Addr) (f : Str) (ta : TA) : L2.St → Hp → XK → Prop := fun σ H Q => ta σ H fun vs H1 => ∃ y, vs = [y] ∧ ∀ d, H1 d = none → Q (.ref C) (some d) (upd H1 d (.xd [(f, y)]))
/-- packed: the class, its __init__ -/
def ErrG (P : Program) (w : World) (K : PySem.W.Frag) (mg : Str → Option Value) (base : Heap) (k : Nat) (x : Str) (f : Str) : Prop :=
  mg x = some (.ref (ga K x)) ∧ ErrC K (ga K x) (fAd K (x, some "__init__")) f ∧ ∃ fd ps, Binds K fd ps [] ∧ FnG P w K mg base CX0 k (fAd K (x, some "__init__")) fd ps (spIni (ga K x) f)
theorem ErrG.mono {P : Program} {w : World} {K : PySem.W.Frag} {mg : Str → Option Value} {base : Heap} {j k : Nat} {x f : Str} (F : ErrG P w K mg base j x f) (h : j ≤ k) : ErrG P w K mg base k x f := by
  obtain ⟨a, b, fd, ps, c, d⟩ := F
  exact ⟨a, b, fd, ps, c, d.mono h⟩
section
variable {X : Cx} {e : Expr} {es : List Expr} {ta : TA} {p pos : Pos} {x f : Str} {k : Nat}
theorem del_upd {H : Hp} {a d : Addr} {o1 o2 o3 o4 : HO} (na : H a = none) (hd : d ≠ a) : upd (del (upd (upd (upd H a o1) d o2) a o3) a) d o4 = upd H d o4 := by
  funext b
  by_cases h1 : b = d
  · rw [h1, upd_same, upd_same]
  · rw [upd_ne h1, upd_ne h1]
    by_cases h2 : b = a
    · rw [h2, del_same, na]
    · rw [del_ne h2, upd_ne h2, upd_ne h1, upd_ne h2]
theorem pmk1 (G : ErrG X.prog X.w X.K X.mg X.base k x f) (hr : RoomG (k + 1) X.A) (hg : Gl X x) (ha : PA X (e :: es) ta)
    (hdb : (x == ("__debug__" : Str)) = false := by decide) (he : starEach (e :: es) X.env = (false, eval e X.env) :: starEach es X.env := by rfl) (hpl : (backTo pos (starEach es X.env)).any (·.1) = false := by rfl) :
    PMk X (.Call (.Name x p) (e :: es) [] pos) (tMk1 (ga X.K x) f ta) := by
  intro pins s σ H Q I h
  obtain ⟨hm, T, fd, ps, hb, F1⟩ := G
  obtain ⟨nm, q, N, bs, bm, sn, sub, ab, col, dd, k0, k1, k2, k3, k5, hC, hbm⟩ := T.oex.cls
  generalize ga X.K x = C at *
  generalize fAd X.K (x, some "__init__") = fI at *
  refine wpAny_Call_Name_kw (ld_glob I hg hm ?_ hdb)
  refine PySem.W.callWith_K (h₀ := X.base) I.ok.mod.kin T.oex.kC (thn (ha.run pos pins s σ H _ I h) fun us s1 hh => ⟨?_, ?_⟩) he hpl
  · obtain ⟨vs, H1, I1, _⟩ := hh
    exact I1.kIn
  obtain ⟨vs, H1, I1, r1, y, rfl, q1⟩ := hh
  cases r1 with
  | @cons _ u _ ur ry rr =>
  cases rr
  show wpAny _ _ (call (.ref C) [u]) _ _ _
  obtain ⟨hp, g, dr, tk, os⟩ := s1
  generalize ez : hp.objs.size + 1 = z
  have hz : hp.objs.size ≤ z := by omega
  have hn : H1 z = none := I1.hok.fresh hz
  generalize eg : (hp.push (PySem.W.kdv_tup [u])).push (PySem.HandSPX.excO C hp.objs.size) = hp2
  have kk : ∀ b o, hp.get? b = some o → hp2.get? b = some o := fun b o e => by rw [← eg]; exact Heap.get?_push_of_some _ (Heap.get?_push_of_some _ e)
  have gz : hp2.get? z = some (PySem.HandSPX.excO C hp.objs.size) := by rw [← eg, ← ez]; heap_get
  have I2 : L2.Inv X pins σ (upd H1 z (exo z C none)) ⟨hp2, g, dr, tk, os⟩ := I1.laid (t' := tk) kk hz (exo_ok gz)
  have r2 : Vals [V.ref z, y] [Value.ref z, u] := .cons rfl (.cons ry .nil)
  have hsp : spIni C f [.ref z, y] (upd H1 z (exo z C none)) (fun v H2 => v = .non ∧ ∃ d fs, H2 z = some (exo z C (some d)) ∧ H2 d = some (exd d fs) ∧ H1 d = none ∧ Q (.ref C) (some d) (upd (del H2 z) d (.xd fs))) (fun _ _ _ => False) := by
    refine ⟨z, y, rfl, upd_same, fun dx h1 h2 => ⟨rfl, dx, [(f, y)], upd_same, ?_, ?_, ?_⟩⟩
    · rw [upd_ne h2, upd_same]
    · rwa [upd_ne h2] at h1
    · rw [del_upd hn h2]
      exact q1 dx (by rwa [upd_ne h2] at h1)
  have hl : [Value.ref z, u].length = ps.length := by rw [← r2.length]; exact F1.len _ _ _ _ hsp
  have bnd := hb ⟨hp2, g, dr, tk, os⟩ [Value.ref z, u] I2.kIn (by rw [List.append_nil]; exact hl)
  rw [List.append_nil] at bnd
  have run := F1.go _ X.stack _ _ ⟨[Value.ref z, u], []⟩ _ _ _ (fun _ _ _ => False) (hr.mk' C [u]) (I2.env0.make C [u] []) bnd r2 hsp
  subst ez eg
  refine wpAny_call (PySem.HandSPX.call_own F.excBase_ValueError (fun Y => PySem.HandSPX.refsVE_contains Y bm hbm) (I1.kIn _ _ hC) (PySem.W.looks_findIn I1.kIn T.ini) (fun self => PySem.W.bind_fn I1.kIn self T.tini) (by rw [sizeLine_eq]; show 1 ≤ _; omega) (codeAny_mono run fun r s' hq' => ?_))
  cases r with
  | error er => exact hq'.elim
  | ok fl =>
    cases fl with
    | ret u2 =>
      obtain ⟨v, H2, os2, bare2, un2, hok2, rv, ev, d, fs, ea, ed, hd1, q2⟩ := hq'
      subst ev
      obtain ⟨h2, g2, d2, t2, os'⟩ := s'
      exact ⟨rv, mk_end (raises_own T.oex.exC T.oex.tyC) I1 hz kk un2 hok2 os2 bare2 ea ed hd1 q2⟩
    | _ => exact hq'.elim
end
end Hk

namespace Pu
open PySem PySem.Spec PyProof.Rows L2 He Hk
def top (i : Nat) : Stmt := PySem.Challenge.pw_heapkinds_k15_names_twice_in_texts.main.body.getD i (.Pass ⟨0, 0, 0, 0⟩)
def clsB : Stmt → List Stmt
  | .ClassDef (body := b) .. => b
  | _ => []
abbrev s_law : Stmt := top 28
abbrev s__law_asked : Stmt := top 23
abbrev s_read_worth : Stmt := top 16
abbrev s_Reader__read_any : Stmt := (clsB (top 15)).getD 4 (.Pass ⟨0, 0, 0, 0⟩)
abbrev s_Reader__read_number : Stmt := (clsB (top 15)).getD 5 (.Pass ⟨0, 0, 0, 0⟩)
abbrev s_Reader__take : Stmt := (clsB (top 15)).getD 2 (.Pass ⟨0, 0, 0, 0⟩)
abbrev s_Reader__ahead : Stmt := (clsB (top 15)).getD 1 (.Pass ⟨0, 0, 0, 0⟩)
abbrev s_Reader__take_all : Stmt := (clsB (top 15)).getD 3 (.Pass ⟨0, 0, 0, 0⟩)
abbrev s_Reader__read_fields : Stmt := (clsB (top 15)).getD 9 (.Pass ⟨0, 0, 0, 0⟩)
abbrev s_Reader__read_field : Stmt := (clsB (top 15)).getD 10 (.Pass ⟨0, 0, 0, 0⟩)
abbrev s_Reader__read_row : Stmt := (clsB (top 15)).getD 8 (.Pass ⟨0, 0, 0, 0⟩)
abbrev s_Reader__read_quoted : Stmt := (clsB (top 15)).getD 7 (.Pass ⟨0, 0, 0, 0⟩)
abbrev s_is_sign : Stmt := top 14
abbrev s_Reader__ends : Stmt := (clsB (top 15)).getD 6 (.Pass ⟨0, 0, 0, 0⟩)
abbrev s_Reader____init__ : Stmt := (clsB (top 15)).getD 0 (.Pass ⟨0, 0, 0, 0⟩)
abbrev s__law_right : Stmt := top 27
abbrev s__law_loose : Stmt := top 22
abbrev s__law_twice : Stmt := top 26
abbrev s__law_written : Stmt := top 25
abbrev s__law_tree : Stmt := top 24
abbrev s__law_names : Stmt := top 21
abbrev s__law_take : Stmt := top 20
abbrev s__law_cell : Stmt := top 18
abbrev s__law_box : Stmt := top 19
abbrev m_NoText : Stmt := (clsB (top 2)).getD 0 (.Pass ⟨0, 0, 0, 0⟩)
abbrev m_BadText : Stmt := (clsB (top 3)).getD 0 (.Pass ⟨0, 0, 0, 0⟩)
abbrev m_Doubled : Stmt := (clsB (top 4)).getD 0 (.Pass ⟨0, 0, 0, 0⟩)
end Pu

namespace Pu
open PySem PySem.Spec PyProof.Rows L2 He Hk
def ex0 (K : PySem.W.Frag) : Bool := errB K (ga K "NoText") (fAd K ("NoText", some "__init__")) "found" && (errB K (ga K "BadText") (fAd K ("BadText", some "__init__")) "place" && (errB K (ga K "Doubled") (fAd K ("Doubled", some "__init__")) "name" && (basB K (ga K "HeapError") && (clsQ K (ga K "Reader") && (noQ K (ga K "Reader") "all_signs" && (noQ K (ga K "Reader") "stands_at" && (noQ K (ga K "Reader") "first_twice")))))))
def ex1 (K : PySem.W.Frag) : Bool := methQ K (ga K "Reader") "read_any" (fAd K ("Reader", some "read_any")) && (methQ K (ga K "Reader") "ahead" (fAd K ("Reader", some "ahead")) && (methQ K (ga K "Reader") "read_quoted" (fAd K ("Reader", some "read_quoted")) && (methQ K (ga K "Reader") "read_row" (fAd K ("Reader", some "read_row")) && (methQ K (ga K "Reader") "read_fields" (fAd K ("Reader", some "read_fields")) && (methQ K (ga K "Reader") "take_all" (fAd K ("Reader", some "take_all")) && (methQ K (ga K "Reader") "read_number" (fAd K ("Reader", some "read_number")) && (methQ K (ga K "Reader") "take" (fAd K ("Reader", some "take")))))))))
def ex2 (K : PySem.W.Frag) : Bool := methQ K (ga K "Reader") "read_field" (fAd K ("Reader", some "read_field")) && (methQ K (ga K "Reader") "ends" (fAd K ("Reader", some "ends")) && (mkQ K (ga K "Reader") (fAd K ("Reader", some "__init__")) && (decide (PySem.W.exmOne K (.ref (ga K "NoText")) (.ref (ga K "NoText")) = some true) && (decide (PySem.W.exmOne K (.ref (ga K "BadText")) (.ref (ga K "NoText")) = some false) && (decide (PySem.W.exmOne K (.ref (ga K "BadText")) (.ref (ga K "BadText")) = some true) && (decide (PySem.W.exmOne K (.ref (ga K "Doubled")) (.ref (ga K "NoText")) = some false) && (decide (PySem.W.exmOne K (.ref (ga K "Doubled")) (.ref (ga K "BadText")) = some false))))))))
def ex3 (K : PySem.W.Frag) : Bool := decide (PySem.W.exmOne K (.ref (ga K "Doubled")) (.ref (ga K "Doubled")) = some true)
def exB (K : PySem.W.Frag) : Bool := (TbK K).isEmpty && (ex0 K && (ex1 K && (ex2 K && (ex3 K))))
def tabs : List He.Tab := []
def d_Reader____init__ : He.DefD := ⟨("Reader", some "__init__"), "__init__", "Reader.__init__", defArgs s_Reader____init__, defBody s_Reader____init__, defScope s_Reader____init__, [], []⟩
def d_Reader__ahead : He.DefD := ⟨("Reader", some "ahead"), "ahead", "Reader.ahead", defArgs s_Reader__ahead, defBody s_Reader__ahead, defScope s_Reader__ahead, [], []⟩
def d_Reader__take : He.DefD := ⟨("Reader", some "take"), "take", "Reader.take", defArgs s_Reader__take, defBody s_Reader__take, defScope s_Reader__take, [], []⟩
def d_Reader__ends : He.DefD := ⟨("Reader", some "ends"), "ends", "Reader.ends", defArgs s_Reader__ends, defBody s_Reader__ends, defScope s_Reader__ends, [], []⟩
def d_is_sign : He.DefD := ⟨("is_sign", none), "is_sign", "is_sign", defArgs s_is_sign, defBody s_is_sign, defScope s_is_sign, [], []⟩
def d_Reader__read_quoted : He.DefD := ⟨("Reader", some "read_quoted"), "read_quoted", "Reader.read_quoted", defArgs s_Reader__read_quoted, defBody s_Reader__read_quoted, defScope s_Reader__read_quoted, [], []⟩
def d_Reader__take_all : He.DefD := ⟨("Reader", some "take_all"), "take_all", "Reader.take_all", defArgs s_Reader__take_all, defBody s_Reader__take_all, defScope s_Reader__take_all, [], []⟩
def d_Reader__read_number : He.DefD := ⟨("Reader", some "read_number"), "read_number", "Reader.read_number", defArgs s_Reader__read_number, defBody s_Reader__read_number, defScope s_Reader__read_number, [], []⟩
def d_Reader__read_any : He.DefD := ⟨("Reader", some "read_any"), "read_any", "Reader.read_any", defArgs s_Reader__read_any, defBody s_Reader__read_any, defScope s_Reader__read_any, [], []⟩
def d_Reader__read_row : He.DefD := ⟨("Reader", some "read_row"), "read_row", "Reader.read_row", defArgs s_Reader__read_row, defBody s_Reader__read_row, defScope s_Reader__read_row, [], []⟩
def d_Reader__read_fields : He.DefD := ⟨("Reader", some "read_fields"), "read_fields", "Reader.read_fields", defArgs s_Reader__read_fields, defBody s_Reader__read_fields, defScope s_Reader__read_fields, [], []⟩
def d_Reader__read_field : He.DefD := ⟨("Reader", some "read_field"), "read_field", "Reader.read_field", defArgs s_Reader__read_field, defBody s_Reader__read_field, defScope s_Reader__read_field, [], []⟩
def d_read_worth : He.DefD := ⟨("read_worth", none), "read_worth", "read_worth", defArgs s_read_worth, defBody s_read_worth, defScope s_read_worth, [], []⟩
def d__law_asked : He.DefD := ⟨("_law_asked", none), "_law_asked", "_law_asked", defArgs s__law_asked, defBody s__law_asked, defScope s__law_asked, [], []⟩
def d__law_loose : He.DefD := ⟨("_law_loose", none), "_law_loose", "_law_loose", defArgs s__law_loose, defBody s__law_loose, defScope s__law_loose, [], []⟩
def d__law_right : He.DefD := ⟨("_law_right", none), "_law_right", "_law_right", defArgs s__law_right, defBody s__law_right, defScope s__law_right, [], []⟩
def d__law_twice : He.DefD := ⟨("_law_twice", none), "_law_twice", "_law_twice", defArgs s__law_twice, defBody s__law_twice, defScope s__law_twice, [], []⟩
def d__law_written : He.DefD := ⟨("_law_written", none), "_law_written", "_law_written", defArgs s__law_written, defBody s__law_written, defScope s__law_written, [], []⟩
def d__law_take : He.DefD := ⟨("_law_take", none), "_law_take", "_law_take", defArgs s__law_take, defBody s__law_take, defScope s__law_take, [], []⟩
def d__law_names : He.DefD := ⟨("_law_names", none), "_law_names", "_law_names", defArgs s__law_names, defBody s__law_names, defScope s__law_names, [], []⟩
def d__law_tree : He.DefD := ⟨("_law_tree", none), "_law_tree", "_law_tree", defArgs s__law_tree, defBody s__law_tree, defScope s__law_tree, [], []⟩
def d__law_cell : He.DefD := ⟨("_law_cell", none), "_law_cell", "_law_cell", defArgs s__law_cell, defBody s__law_cell, defScope s__law_cell, [], []⟩
def d__law_box : He.DefD := ⟨("_law_box", none), "_law_box", "_law_box", defArgs s__law_box, defBody s__law_box, defScope s__law_box, [], []⟩
def d_law : He.DefD := ⟨("law", none), "law", "law", defArgs s_law, defBody s_law, defScope s_law, [], []⟩
def d_i_NoText : He.DefD := ⟨("NoText", some "__init__"), "__init__", "NoText.__init__", defArgs m_NoText, defBody m_NoText, defScope m_NoText, [], []⟩
def d_i_BadText : He.DefD := ⟨("BadText", some "__init__"), "__init__", "BadText.__init__", defArgs m_BadText, defBody m_BadText, defScope m_BadText, [], []⟩
def d_i_Doubled : He.DefD := ⟨("Doubled", some "__init__"), "__init__", "Doubled.__init__", defArgs m_Doubled, defBody m_Doubled, defScope m_Doubled, [], []⟩
def fn : List He.DefD := [d_Reader____init__, d_Reader__ahead, d_Reader__take, d_Reader__ends, d_is_sign, d_Reader__read_quoted, d_Reader__take_all, d_Reader__read_number, d_Reader__read_any, d_Reader__read_row, d_Reader__read_fields, d_Reader__read_field, d_read_worth, d__law_asked, d__law_loose, d__law_right, d__law_twice, d__law_written, d__law_take, d__law_names, d__law_tree, d__law_cell, d__law_box, d_law, d_i_NoText, d_i_BadText, d_i_Doubled]
def fa : List He.Fa := [.free "range", .free "max", .free "min", .free "len", .free "repr", .free "isinstance", .free "str", .free "int", .free "ord", .free "bool", .free "list", .free "dict", .str "FIGURES" "0123456789", .int "MOST_FIGURES" 18, .int "MOST_DEEP" 4, .int "MOST_NAMES" 8, .str "LETTERS" "abcdefghijklmnopqrstuvwxyz", .int "MOST_LETTERS" 8, .int "MOST_IN_ROW" 6, .int "MOST_SIGNS" 40, .glo "NoText", .glo "BadText", .glo "Doubled", .glo "HeapError", .glo "Reader", .glo "is_sign", .glo "read_worth", .glo "_law_asked", .glo "_law_loose", .glo "_law_right", .glo "_law_twice", .glo "_law_written", .glo "_law_take", .glo "_law_names", .glo "_law_tree", .glo "_law_cell", .glo "_law_box", .glo "law"]
def loose0 : List PySem.Str := ["FIGURES", "LETTERS", "MOST_DEEP", "MOST_IN_ROW", "MOST_NAMES", "MOST_FIGURES", "MOST_SIGNS", "MOST_LETTERS", "HeapError", "NoText", "BadText", "Doubled", "Reader", "is_sign", "read_worth", "_law_cell", "_law_box", "_law_take", "_law_names", "_law_loose"]
def loose1 : List PySem.Str := ["_law_asked", "_law_tree", "_law_written", "_law_twice", "_law_right"]
def loose : List PySem.Str := loose0 ++ loose1
abbrev R : PySem.W.OpenRow := PySem.W.OpenLaw.row PySem.Challenge.rw_heapkinds_k15_names_twice_in_texts
abbrev hk : PySem.W.Hook := hookZ 4 fa fn tabs exB
def ob (s : PySem.W.SharedT) : Bool × He.AlT := obsZ 4 fa fn tabs exB (HandSHeadRun.getT s)
theorem ob_eq (s : PySem.W.SharedT) : ob s = hk.obs s.abs := obsZ_eq (HandSHeadRun.getT_eq s)
theorem run_f (w : World) : HandSHeadRun.RunEq R (PySem.W.view R.prog [28]) hk ob 20000 loose (w.withFollow "special-get-raises" false) := by
  intro os
  kernel_rfl
theorem run_t (w : World) : HandSHeadRun.RunEq R (PySem.W.view R.prog [28]) hk ob 20000 loose (w.withFollow "special-get-raises" true) := by
  intro os
  kernel_rfl
theorem run (w : World) : HandSHeadRun.RunEq R (PySem.W.view R.prog [28]) hk ob 20000 loose w :=
  PySem.W.byRow2 "special-get-raises" (P := fun w => HandSHeadRun.RunEq R (PySem.W.view R.prog [28]) hk ob 20000 loose w) run_f run_t w
end Pu

namespace Hk
open PySem PySem.Spec PyProof.Rows L2 He
/-- all but what stands at b is as it was -/
def Keep (b : Addr) (H H' : Hp) : Prop := ∀ a o, a ≠ b → H a = some o → H' a = some o
section
variable {K : PySem.W.Frag} {σ : L2.St} {H H' : Hp} {D : Ends} {Q : VK} {ta tb tc te : TE} {t u : TS} {x y v : V}
theorem w_seq (h : t { D with nx := u D } σ H) : tSeq t u D σ H := h
theorem w_asg {g : TG} (h : te σ H fun x H1 => g x σ H1 D.nx) : tAsg te g D σ H := h
theorem w_name {i : Nat} {R : L2.St → Hp → Prop} (h : R (σ.set i (some v)) H) : gName i v σ H R := h
theorem w_ret (h : te σ H D.rt) : tRet te D σ H := h
theorem w_drop (h : te σ H fun _ H1 => D.nx σ H1) : tDrop te D σ H := h
theorem w_next (h : D.nx σ H) : tNext D σ H := h
theorem w_if {c : TT} (h : c σ H fun b H1 => if b = true then t D σ H1 else u D σ H1) : tIfS c t u D σ H := h
theorem w_var {i : Nat} (e : σ[i]? = some (some v)) (h : Q v H) : tVar i σ H Q := ⟨v, e, h⟩
theorem w_c (h : Q v H) : tC v σ H Q := h
theorem w_op {r : R2} (h : ta σ H fun x H1 => tb σ H1 fun y H2 => r x y H2 Q) : tOp r ta tb σ H Q := h
theorem w_call {sp : Sp} {dvs : List V} {E : XK} {a : TA} (h : a σ H fun vs H1 => sp (vs ++ dvs) H1 Q E) : tCall sp dvs E a σ H Q := h
theorem w_nil {R : List V → Hp → Prop} (h : R [] H) : tNil σ H R := h
theorem w_cons {a : TA} {R : List V → Hp → Prop} (h : ta σ H fun x H1 => a σ H1 fun xs H2 => R (x :: xs) H2) : tCons ta a σ H R := h
def NewO (n : Nat) (o : HO) (H : Hp) (Q : VK) : Prop := n ≤ sizeLine ∧ ∀ p, H p = none → Q (.ref p) (upd H p o)
theorem w_lst {a : TA} (h : a σ H fun xs H1 => NewO xs.length (.lst xs) H1 Q) : tLst a σ H Q := h
theorem w_tup {a : TA} (h : a σ H fun xs H1 => NewO xs.length (.tup xs) H1 Q) : tTup a σ H Q := h
theorem w_test {R : Bool → Hp → Prop} (h : te σ H fun x H' => ∃ k, x = .bl k ∧ R k H') : tTest te σ H R := h
theorem w_and {c d : TT} {R : Bool → Hp → Prop} (h : c σ H fun b H1 => if b = true then d σ H1 R else R false H1) : tAnd c d σ H R := h
theorem w_or {c d : TT} {R : Bool → Hp → Prop} (h : c σ H fun b H1 => if b = true then R true H1 else d σ H1 R) : tOr c d σ H R := h
theorem w_not {c : TT} {R : Bool → Hp → Prop} (h : c σ H fun b H1 => R (!b) H1) : tNot c σ H R := h
theorem w_andV (h : ta σ H fun x H1 => ∃ c, x = .bl c ∧ if c = true then tb σ H1 Q else Q (.bl false) H1) : tAndV ta tb σ H Q := h
theorem w_orV (h : ta σ H fun x H1 => ∃ c, x = .bl c ∧ if c = true then Q (.bl true) H1 else tb σ H1 Q) : tOrV ta tb σ H Q := h
theorem w_chain {r r' : R2} (h : ta σ H fun x H1 => tb σ H1 fun y H2 => r x y H2 fun z H3 => ∃ k, z = .bl k ∧ (if k = true then tc σ H3 fun w' H4 => r' y w' H4 Q else Q (.bl false) H3)) : tChain r r' ta tb tc σ H Q := h
theorem w_ifE {c : TT} (h : c σ H fun b H1 => if b = true then ta σ H1 Q else tb σ H1 Q) : tIf c ta tb σ H Q := h
theorem w_sl {r : V → Option Int → Option Int → Hp → VK → Prop} {tl th : TO} (h : te σ H fun x H1 => tl σ H1 fun l H2 => th σ H2 fun u H3 => r x l u H3 Q) : tSl r te tl th σ H Q := h
theorem w_noPart {R : Option Int → Hp → Prop} (h : R none H) : tNoPart σ H R := h
theorem w_part {R : Option Int → Hp → Prop} (h : te σ H fun x H1 => ∃ i, x = .int i ∧ R (some i) H1) : tPart te σ H R := h
theorem iteTrue {b : Bool} {A B : Prop} (hb : b = true) (h : A) : if b = true then A else B := by subst hb; rw [if_pos rfl]; exact h
theorem iteFalse {b : Bool} {A B : Prop} (hb : b = false) (h : B) : if b = true then A else B := by subst hb; rw [if_neg Bool.false_ne_true]; exact h
/-- both ways of a test -/
theorem iteB {b : Bool} {A B : Prop} (h1 : b = true → A) (h2 : b = false → B) : if b = true then A else B := by
  cases b with
  | true => rw [if_pos rfl]; exact h1 rfl
  | false => rw [if_neg Bool.false_ne_true]; exact h2 rfl
def DEnd (p : Addr) (ps : List (V × V)) (H2 : Hp) (Q : VK) : Prop := H2 p = some (.dK []) ∧ ∃ kvs : List (Key × V), ps = kvs.map (fun kv => (kV kv.1, kv.2)) ∧ kvs.length ≤ 15 ∧ Q (.ref p) (upd H2 p (.dK (mergeK [] kvs)))
theorem w_disp {trs : List (TE × TE)} (h : ∀ p H1, H p = none → Same H H1 → H1 p = some (.dK []) → tPairs trs σ H1 fun ps H2 => DEnd p ps H2 Q) : tDisp trs σ H Q := fun p hp => h p _ hp (fun a u e => by rw [upd_ne (ne_of_none e hp)]; exact e) upd_same
theorem w_pnil {R : List (V × V) → Hp → Prop} (h : R [] H) : tPairs [] σ H R := h
theorem w_pcons {r : List (TE × TE)} {R : List (V × V) → Hp → Prop} (h : ta σ H fun x H1 => tb σ H1 fun y H2 => tPairs r σ H2 fun ps H3 => R ((x, y) :: ps) H3) : tPairs ((ta, tb) :: r) σ H R := h
theorem w_dnew (h : ∀ p H1, H p = none → Same H H1 → H1 p = some (.dK []) → Q (.ref p) H1) : tDNewK σ H Q := fun p hp => h p _ hp (fun a u e => by rw [upd_ne (ne_of_none e hp)]; exact e) upd_same
theorem v_addI {i j : Int} (h : Q (.int (i + j)) H) : rAdd K (.int i) (.int j) H Q := Or.inl ⟨i, j, rfl, rfl, h⟩
theorem v_addT {i j : Str} (hz : i.length + j.length ≤ sizeLine) (h : Q (.str (i ++ j)) H) : rAdd K (.str i) (.str j) H Q := Or.inr (Or.inl ⟨i, j, rfl, rfl, hz, h⟩)
theorem v_sub {i j : Int} (h : Q (.int (i - j)) H) : rSub (.int i) (.int j) H Q := ⟨i, j, rfl, rfl, h⟩
theorem v_mulI {i j : Int} (c : CMulW i j) (h : Q (.int (i * j)) H) : rMul K (.int i) (.int j) H Q := Or.inl ⟨i, j, rfl, rfl, c, h⟩
theorem v_div {i j : Int} (c : CDivW i j) (h : Q (.int (i / j)) H) : rDiv (.int i) (.int j) H Q := ⟨i, j, rfl, rfl, c, h⟩
theorem v_mod {i j : Int} (c : 0 < j) (h : Q (.int (i % j)) H) : rMod (.int i) (.int j) H Q := ⟨i, j, rfl, rfl, c, h⟩
theorem v_pow {i j : Int} (c : CPow i j) (h : Q (.int (i ^ j.toNat)) H) : rPow (.int i) (.int j) H Q := ⟨i, j, rfl, rfl, c, h⟩
theorem v_gt {i j : Int} (h : Q (.bl (decide (j < i))) H) : rGtI (.int i) (.int j) H Q := ⟨i, j, rfl, rfl, h⟩
theorem v_lt {i j : Int} (h : Q (.bl (decide (i < j))) H) : rLtU (.int i) (.int j) H Q := Or.inl ⟨i, j, rfl, rfl, h⟩
theorem v_ixL {p : Addr} {xs : List V} {i : Int} (hp : H p = some (.lst xs)) (ha : atI xs i = some v) (h : Q v H) : rIxU K (.ref p) (.int i) H Q := Or.inl ⟨p, xs, i, v, rfl, rfl, .inl (.inl hp), ha, h⟩
theorem v_ixQ {p : Addr} {xs : List V} {i : Int} (hp : SqL K H p xs) (ha : atI xs i = some v) (h : Q v H) : rIxU K (.ref p) (.int i) H Q := Or.inl ⟨p, xs, i, v, rfl, rfl, hp, ha, h⟩
theorem v_ixT {p : Addr} {xs : List V} {i : Int} (hp : H p = some (.tup xs)) (ha : atI xs i = some v) (h : Q v H) : rIxU K (.ref p) (.int i) H Q := Or.inr (Or.inl ⟨p, xs, i, v, rfl, rfl, .inl (.inl hp), ha, h⟩)
theorem v_ixS {z : Str} {i : Int} {c : Nat} (hz : z.length ≤ sizeLine) (ha : atI z.cps.toList i = some c) (h : Q (.str ⟨#[c]⟩) H) : rIxU K (.str z) (.int i) H Q := Or.inr (Or.inr ⟨z, i, c, rfl, rfl, hz, ha, h⟩)
theorem v_slS {z : Str} {lo hi : Option Int} (hz : z.length ≤ sizeLine) (h : Q (.str (cutS z lo hi)) H) : rSlU K (.str z) lo hi H Q := Or.inl ⟨z, rfl, hz, h⟩
theorem v_lenS {z : Str} (hz : z.length ≤ sizeLine) (h : Q (.int z.length) H) : rLenU K [.str z] H Q := Or.inl ⟨.str z, z.length, rfl, ⟨hz, rfl⟩, h⟩
theorem v_lenL {p : Addr} {xs : List V} (hp : H p = some (.lst xs)) (h : Q (.int xs.length) H) : rLenU K [.ref p] H Q := Or.inl ⟨.ref p, xs.length, rfl, Or.inl ⟨xs, .inl (.inl hp), rfl⟩, h⟩
theorem v_lenQ {p : Addr} {xs : List V} (hp : SqL K H p xs) (h : Q (.int xs.length) H) : rLenU K [.ref p] H Q := Or.inl ⟨.ref p, xs.length, rfl, Or.inl ⟨xs, hp, rfl⟩, h⟩
theorem v_isi {T : String} {ty : Value} {b : Bool} (tx : TyX K H x ty) (k : PySem.W.kitOne K ty (.type T) = some b) (h : Q (.bl b) H) : rIsi K [x, .ty T] H Q := ⟨x, .ty T, ty, .type T, b, rfl, ClsV.ty T, tx, k, h⟩
theorem v_max2 {i j : Int} (h : Q (.int (if j > i then j else i)) H) : rMax2 [.int i, .int j] H Q := ⟨i, j, rfl, h⟩
theorem v_min2 {i j : Int} (h : Q (.int (if j < i then j else i)) H) : rMin2 [.int i, .int j] H Q := ⟨i, j, rfl, h⟩
end
section
variable {K : PySem.W.Frag} {H : Hp} {Q : VK}
theorem atI_in {α : Type} {xs : List α} {i : Int} (h0 : 0 ≤ i) (h1 : i < (xs.length : Int)) : ∃ v, atI xs i = some v ∧ xs[i.toNat]? = some v ∧ v ∈ xs := by
  have h2 : i.toNat < xs.length := by omega
  refine ⟨xs[i.toNat], ?_, by simp [h2], List.getElem_mem h2⟩
  have e : i = ((i.toNat : Nat) : Int) := by omega
  have z : atI xs ((i.toNat : Nat) : Int) = some xs[i.toNat] := atI_nat (by simp [h2])
  rw [← e] at z
  exact z
/-- an item at an open place -/
theorem v_ixLo {p : Addr} {xs : List V} {i : Int} (hp : H p = some (.lst xs)) (h0 : 0 ≤ i) (h1 : i < (xs.length : Int)) (h : ∀ v, v ∈ xs → xs[i.toNat]? = some v → Q v H) : rIxU K (.ref p) (.int i) H Q := by
  obtain ⟨v, e, e2, m⟩ := atI_in h0 h1
  exact v_ixL hp e (h v m e2)
theorem cutS_le (z : Str) (lo hi : Option Int) : (cutS z lo hi).length ≤ z.length := by
  show (List.toArray _).size ≤ _
  rw [List.size_toArray, List.length_take, List.length_drop, Array.length_toList]
  show _ ≤ z.cps.size
  omega
theorem str_app (x y : Str) : (x ++ y).length = x.length + y.length := by
  show (x.cps ++ y.cps).size = _
  rw [Array.size_append]; rfl
theorem len_app {x y : Str} {N : Nat} (hx : x.length ≤ N / 2) (hy : y.length ≤ N / 2) : (x ++ y).length ≤ N := by rw [str_app]; omega
theorem len_cut {z : Str} {lo hi : Option Int} {N : Nat} (h : z.length ≤ N) : (cutS z lo hi).length ≤ N := Nat.le_trans (cutS_le z lo hi) h
theorem len_one {c N : Nat} (h : 1 ≤ N) : (⟨#[c]⟩ : Str).length ≤ N := h
end
theorem s_mul {i j : Int} (h1 : -18446744073709551616 < i ∧ i < 18446744073709551616) (h2 : -18446744073709551616 < j ∧ j < 18446744073709551616) : CMulW i j :=
  wide_mul (a := 64) (b := 64) (by omega) (by omega) (by decide) (by decide) (by decide)
theorem s_div {i j : Int} (h1 : 0 < j) (h2 : j < 18446744073709551616) : CDivW i j := wide_div h1 (b := 64) (by omega) (by decide) (by decide)
theorem s_pow {i j : Int} (h1 : 0 ≤ j) (h2 : j ≤ 1000000) (h3 : -18446744073709551616 < i ∧ i < 18446744073709551616) : CPow i j := ⟨h1, h2, by omega⟩
theorem Keep.refl (b : Addr) (H : Hp) : Keep b H H := fun _ _ _ e => e
theorem Keep.trans {b : Addr} {H H1 H2 : Hp} (x : Keep b H H1) (y : Keep b H1 H2) : Keep b H H2 := fun a o n e => y a o n (x a o n e)
theorem Keep.after {b : Addr} {H H1 H2 : Hp} (y : Keep b H1 H2) (x : Keep b H H1) : Keep b H H2 := x.trans y
theorem Keep.of {b : Addr} {H H' : Hp} (s : Same H H') : Keep b H H' := fun a o _ e => s a o e
theorem Keep.same {b : Addr} {H H' : Hp} (s : Keep b H H') (hb : H b = none) : Same H H' := fun a o e => s a o (ne_of_none e hb) e
theorem Keep.free {b : Addr} {H H' : Hp} (s : Keep b H H') {p : Addr} (hp : H' p = none) (hb : H' b ≠ none) : H p = none := by
  cases e : H p with
  | none => rfl
  | some o =>
    by_cases h : p = b
    · subst h; exact absurd hp hb
    · rw [s p o h e] at hp; cases hp
end Hk

namespace Hk
open PySem PySem.Spec PyProof.Rows L2 He
section
variable {K : PySem.W.Frag} {σ : L2.St} {H : Hp} {Q : VK} {J : It} {src : List V} {G : Hp → Prop} {tt : TT} {te : TE} {vs : List Nat} {g : TG} {j : Nat}
def LcD (J : It) (g : TG) (tt : TT) (te : TE) (vs : List Nat) (σ : L2.St) (H1 : Hp) (Q : VK) : Prop := ∀ D, H1 D = none → ∃ W : Nat → Nat → Hp → Prop, (∃ m, W 0 m (upd H1 D (.lst []))) ∧ ∀ i m H, W i m H →
  (J.stop i H ∧ Q (.ref D) H) ∨ (J.go i H ∧ ∃ Nx : Hp → Prop, (∀ H', Nx H' → ∃ m', m' < m ∧ W (i + 1) m' H') ∧ ∀ x H', J.yld i H x H' → g x (wipe σ vs) H' fun σ2 H2 => wipe σ2 vs = wipe σ vs ∧ tt σ2 H2 fun b H3 =>
    if b = true then te σ2 H3 fun y H4 => ∃ acc, H4 D = some (.lst acc) ∧ acc.length < sizeLine ∧ Nx (upd H4 D (.lst (acc ++ [y]))) else Nx H3)
theorem w_lc {wi : TI} (h : wi σ H fun J H1 => LcD J g tt te vs σ H1 Q) : tLc wi g tt te vs σ H Q := h
/-- a comprehension by an invariant over the turn, the list so far and the heap -/
def LcI (D : Addr) (Pv : Nat → List V → Hp → Prop) (i : Nat) (H : Hp) : Prop := ∃ acc, H D = some (.lst acc) ∧ acc.length ≤ i ∧ Pv i acc H
def LcPut (D : Addr) (Pv : Nat → List V → Hp → Prop) (i : Nat) (y : V) (H : Hp) : Prop := ∃ acc, H D = some (.lst acc) ∧ acc.length < sizeLine ∧ LcI D Pv (i + 1) (upd H D (.lst (acc ++ [y])))
theorem LcPut.mk {D : Addr} {Pv : Nat → List V → Hp → Prop} {i : Nat} {y : V} {acc : List V} (e : H D = some (.lst acc)) (hl : acc.length ≤ i) (hz : i ≤ 1000000) (h : ∀ H', Keep D H H' → H' D = some (.lst (acc ++ [y])) → Pv (i + 1) (acc ++ [y]) H') : LcPut D Pv i y H :=
  ⟨acc, e, Nat.lt_of_le_of_lt (Nat.le_trans hl hz) (by decide), acc ++ [y], upd_same, by simp; exact hl, h _ (fun a u n e => by rw [upd_ne n]; exact e) upd_same⟩
end
section
variable {K : PySem.W.Frag} {H : Hp} {Q : VK} {T : String} {b : Bool}
theorem kb_bool_bool : kitB "bool" "bool" = some true := by decide +kernel
theorem kb_int_int : kitB "int" "int" = some true := by decide +kernel
theorem kb_int_bool : kitB "int" "bool" = some false := by decide +kernel
theorem kb_str_int : kitB "str" "int" = some false := by decide +kernel
theorem kb_str_bool : kitB "str" "bool" = some false := by decide +kernel
theorem kb_str_str : kitB "str" "str" = some true := by decide +kernel
theorem kb_list_int : kitB "list" "int" = some false := by decide +kernel
theorem kb_list_bool : kitB "list" "bool" = some false := by decide +kernel
theorem kb_list_str : kitB "list" "str" = some false := by decide +kernel
theorem kb_list_list : kitB "list" "list" = some true := by decide +kernel
theorem kb_dict_int : kitB "dict" "int" = some false := by decide +kernel
theorem kb_dict_bool : kitB "dict" "bool" = some false := by decide +kernel
theorem kb_dict_str : kitB "dict" "str" = some false := by decide +kernel
theorem kb_dict_list : kitB "dict" "list" = some false := by decide +kernel
theorem kb_dict_dict : kitB "dict" "dict" = some true := by decide +kernel
end
section
variable {K : PySem.W.Frag} {σ : L2.St} {H : Hp} {D : Ends} {J : It} {src : List V} {G : Hp → Prop} {tb : TS} {g : TG} {j : Nat}
def ForD (J : It) (g : TG) (tb : TS) (D : Ends) (σ : L2.St) (H1 : Hp) : Prop := ∃ W : Nat → Nat → L2.St → Hp → Prop, (∃ m, W 0 m σ H1) ∧ ∀ i m σ H, W i m σ H →
  (J.stop i H ∧ D.nx σ H) ∨ (J.go i H ∧ ∃ N : L2.St → Hp → Prop, (∀ σ' H', N σ' H' → ∃ m', m' < m ∧ W (i + 1) m' σ' H') ∧ ∀ x H', J.yld i H x H' → g x σ H' fun σ2 H2 => tb { D with nx := N, ct := N, bk := D.nx } σ2 H2)
theorem w_for {wi : TI} (h : wi σ H fun J H1 => ForD J g tb D σ H1) : tFor wi g tb D σ H := h
end
end Hk

namespace Hk
open PySem PySem.Spec PyProof.Rows L2 He
def Cs (P : Nat → Prop) (z : Str) : Prop := ∀ c, c ∈ z.cps.toList → P c
theorem Cs.app {P : Nat → Prop} {x y : Str} (hx : Cs P x) (hy : Cs P y) : Cs P (x ++ y) := by
  intro c hc
  have e : (x ++ y).cps.toList = x.cps.toList ++ y.cps.toList := by show (x.cps ++ y.cps).toList = _; simp
  rw [e] at hc
  rcases List.mem_append.mp hc with h | h
  · exact hx c h
  · exact hy c h
theorem Cs.cut {P : Nat → Prop} {z : Str} (h : Cs P z) (lo hi : Option Int) : Cs P (cutS z lo hi) := by
  intro c hc
  have e : (cutS z lo hi).cps.toList = (z.cps.toList.drop (HT.sIx z.length 0 lo)).take (HT.sIx z.length z.length hi - HT.sIx z.length 0 lo) := by unfold cutS; simp
  rw [e] at hc
  exact h c (List.mem_of_mem_drop (List.mem_of_mem_take hc))
theorem Cs.one {P : Nat → Prop} {c : Nat} (h : P c) : Cs P ⟨#[c]⟩ := by
  intro d hd
  have e : d = c := by simpa using hd
  rw [e]; exact h
theorem Cs.imp {P R : Nat → Prop} {z : Str} (h : Cs P z) (i : ∀ c, P c → R c) : Cs R z := fun c hc => i c (h c hc)
theorem cs_ofString (s : String) : Cs (· < 0x110000) (Str.ofString s) := by
  rw [Str.ofString_eq_toList]
  intro c hc
  have hc' : c ∈ s.toList.map Char.toNat := by simpa using hc
  obtain ⟨ch, _, rfl⟩ := List.mem_map.mp hc'
  have h := ch.valid
  show ch.val.toNat < 0x110000
  rcases h with h | h
  · have : ch.val.toNat < 0xd800 := h
    omega
  · have : ch.val.toNat < 0x110000 := h.2
    omega
theorem cs_join {P : Nat → Prop} {sep : Str} (hs : Cs P sep) : ∀ ys : List Str, (∀ y, y ∈ ys → Cs P y) → Cs P (Str.join sep ys)
  | [], _ => fun c hc => by simp [Str.join, Str.empty] at hc
  | [x], h => h x (by simp)
  | x :: y :: r, h => by
    have ih := cs_join hs (y :: r) (fun z hz => h z (by simp at hz ⊢; exact .inr hz))
    exact Cs.app (Cs.app (h x (by simp)) hs) ih
theorem join0_len : ∀ ys : List Str, (Str.join "" ys).length = (ys.map (·.length)).sum
  | [] => rfl
  | [x] => by simp [Str.join]
  | x :: y :: r => by
    have ih := join0_len (y :: r)
    show (x ++ "" ++ Str.join "" (y :: r)).length = _
    rw [str_app, str_app, ih]
    simp
    rfl
end Hk

namespace Hk
open PySem PySem.Spec PyProof.Rows L2 He
inductive T where
  | non
  | bl (b : Bool)
  | int (i : Int)
  | str (z : Str)
  | lst (xs : List T)
  | tup (xs : List T)
  | dct (kvs : List (Key × T))
/- x is the thing t in the heap H, made of no object in B -/
mutual
inductive At (B : Addr → Prop) (H : Hp) : V → T → Prop where
  | non : At B H .non .non
  | bl (b : Bool) : At B H (.bl b) (.bl b)
  | int (i : Int) : At B H (.int i) (.int i)
  | str (z : Str) : At B H (.str z) (.str z)
  | lst {a : Addr} {xs : List V} {ts : List T} (n : ¬ B a) (e : H a = some (.lst xs)) (h : AtL B H xs ts) : At B H (.ref a) (.lst ts)
  | tup {a : Addr} {xs : List V} {ts : List T} (n : ¬ B a) (e : H a = some (.tup xs)) (h : AtL B H xs ts) : At B H (.ref a) (.tup ts)
  | dct {a : Addr} {kvs : List (Key × V)} {ts : List (Key × T)} (n : ¬ B a) (e : H a = some (.dK kvs)) (h : AtK B H kvs ts) : At B H (.ref a) (.dct ts)
inductive AtL (B : Addr → Prop) (H : Hp) : List V → List T → Prop where
  | nil : AtL B H [] []
  | cons {x : V} {t : T} {xs : List V} {ts : List T} (h : At B H x t) (r : AtL B H xs ts) : AtL B H (x :: xs) (t :: ts)
inductive AtK (B : Addr → Prop) (H : Hp) : List (Key × V) → List (Key × T) → Prop where
  | nil : AtK B H [] []
  | cons {k : Key} {x : V} {t : T} {xs : List (Key × V)} {ts : List (Key × T)} (h : At B H x t) (r : AtK B H xs ts) : AtK B H ((k, x) :: xs) ((k, t) :: ts)
end
/-- what is not in B stands -/
def KeepB (B : Addr → Prop) (H H' : Hp) : Prop := ∀ a o, ¬ B a → H a = some o → H' a = some o
section
variable {B B' : Addr → Prop} {H H' : Hp}
mutual
theorem At.keep (s : KeepB B H H') (i : ∀ a, B' a → B a ∨ H a = none) : ∀ {x : V} {t : T}, At B H x t → At B' H' x t
  | _, _, .non => .non
  | _, _, .bl b => .bl b
  | _, _, .int b => .int b
  | _, _, .str b => .str b
  | _, _, .lst n e h => .lst (fun q => by rcases i _ q with z | z; exact n z; rw [z] at e; cases e) (s _ _ n e) (AtL.keep s i h)
  | _, _, .tup n e h => .tup (fun q => by rcases i _ q with z | z; exact n z; rw [z] at e; cases e) (s _ _ n e) (AtL.keep s i h)
  | _, _, .dct n e h => .dct (fun q => by rcases i _ q with z | z; exact n z; rw [z] at e; cases e) (s _ _ n e) (AtK.keep s i h)
theorem AtL.keep (s : KeepB B H H') (i : ∀ a, B' a → B a ∨ H a = none) : ∀ {x : List V} {t : List T}, AtL B H x t → AtL B' H' x t
  | _, _, .nil => .nil
  | _, _, .cons h r => .cons (At.keep s i h) (AtL.keep s i r)
theorem AtK.keep (s : KeepB B H H') (i : ∀ a, B' a → B a ∨ H a = none) : ∀ {x : List (Key × V)} {t : List (Key × T)}, AtK B H x t → AtK B' H' x t
  | _, _, .nil => .nil
  | _, _, .cons h r => .cons (At.keep s i h) (AtK.keep s i r)
end
theorem At.same {x : V} {t : T} (s : Same H H') (h : At B H x t) : At B H' x t := h.keep (fun a o _ e => s a o e) fun _ q => .inl q
theorem AtL.same {x : List V} {t : List T} (s : Same H H') (h : AtL B H x t) : AtL B H' x t := h.keep (fun a o _ e => s a o e) fun _ q => .inl q
theorem AtK.same {x : List (Key × V)} {t : List (Key × T)} (s : Same H H') (h : AtK B H x t) : AtK B H' x t := h.keep (fun a o _ e => s a o e) fun _ q => .inl q
theorem AtL.length : ∀ {xs : List V} {ts : List T}, AtL B H xs ts → xs.length = ts.length
  | _, _, .nil => rfl
  | _, _, .cons _ r => by simp [r.length]
theorem AtK.length : ∀ {xs : List (Key × V)} {ts : List (Key × T)}, AtK B H xs ts → xs.length = ts.length
  | _, _, .nil => rfl
  | _, _, .cons _ r => by simp [r.length]
theorem AtL.get : ∀ {xs : List V} {ts : List T} {i : Nat} {x : V}, AtL B H xs ts → xs[i]? = some x → ∃ t, ts[i]? = some t ∧ At B H x t
  | _, _, _, _, .nil, e => by simp at e
  | _, _, 0, _, .cons h _, e => by simp at e; subst e; exact ⟨_, rfl, h⟩
  | _, _, i + 1, x, .cons _ r, e => by
    obtain ⟨t, h1, h2⟩ := AtL.get (i := i) (x := x) r (by simpa using e)
    exact ⟨t, by simpa using h1, h2⟩
theorem AtL.append : ∀ {xs ys : List V} {ts us : List T}, AtL B H xs ts → AtL B H ys us → AtL B H (xs ++ ys) (ts ++ us)
  | _, _, _, _, .nil, s => s
  | _, _, _, _, .cons h r, s => .cons h (r.append s)
theorem AtK.vals : ∀ {xs : List (Key × V)} {ts : List (Key × T)}, AtK B H xs ts → AtL B H (xs.map (·.2)) (ts.map (·.2))
  | _, _, .nil => .nil
  | _, _, .cons h r => .cons h r.vals
theorem AtK.keys : ∀ {xs : List (Key × V)} {ts : List (Key × T)}, AtK B H xs ts → xs.map (·.1) = ts.map (·.1)
  | _, _, .nil => rfl
  | _, _, .cons h r => by simp [r.keys]
end
def kD : Key → PyData
  | .inl i => .int i
  | .inr x => .str x
mutual
def T.toD : T → PyData
  | .non => .none
  | .bl b => .bool b
  | .int i => .int i
  | .str z => .str z
  | .lst xs => .list (T.toDs xs)
  | .tup xs => .tuple (T.toDs xs)
  | .dct kvs => .dict (T.toDk kvs)
def T.toDs : List T → List PyData
  | [] => []
  | t :: r => t.toD :: T.toDs r
def T.toDk : List (Key × T) → List (PyData × PyData)
  | [] => []
  | (k, t) :: r => (kD k, t.toD) :: T.toDk r
end
section
variable {X : Cx} {pins : List (Addr × Obj)} {σ : L2.St} {H : Hp} {s : Shared} {B : Addr → Prop}
theorem sys_ne {o : Obj} (I : Inv X pins σ H s) (hk : X.K.lookup sysModules = some o) {a : Addr} {u : HO} (e : H a = some u) : a ≠ sysModules := by
  rintro rfl
  have h1 : H sysModules = none := (I.env0.bs _ o (I.ok.mod.kin _ _ hk)).2
  rw [h1] at e
  cases e
theorem reads_key {h : Heap} {k : Key} {v : Value} (e : keyIs k v = true) : Reads h v (kD k) [] := by
  rcases keyIs_shape e with ⟨i, t, rfl, rfl⟩ | ⟨x, t, rfl, rfl⟩
  · exact .int i t
  · exact .str x t
theorem reads_keys {P : Program} {w : World} {h : Heap} : ∀ {es : List DictEntry} {vs : List (Key × Value)} {kvs : List (Key × V)} {ts : List (Key × T)}, Pairs (mixKind P w) es vs → KV kvs vs → AtK B H kvs ts →
    ReadsAll h (es.map (·.key)) ((T.toDk ts).map (·.1)) [] ∧ Vals (kvs.map (·.2)) (es.map (·.val)) ∧ (T.toDk ts).map (·.2) = T.toDs (ts.map (·.2))
  | _, _, _, _, .nil, r, h => by
    cases r; cases h
    exact ⟨.nil, .nil, rfl⟩
  | _, _, _, _, .cons e1 e2 p, r, h => by
    cases r with
    | cons r1 r2 =>
      cases h with
      | cons h1 h2 =>
        obtain ⟨q1, q2, q3⟩ := reads_keys p r2 h2
        obtain ⟨ek, ev⟩ := r1
        refine ⟨ReadsAll.cons (as := []) (bs := []) (reads_key ?_) q1, .cons ?_ q2, ?_⟩
        · exact (by rw [← ek] at e1; exact e1)
        · dsimp only
          rw [e2]
          exact ev
        · show _ :: _ = _ :: _
          rw [q3]
mutual
theorem At.reads {o : Obj} (I : Inv X pins σ H s) (hk : X.K.lookup sysModules = some o) : ∀ {x : V} {t : T} {u : Value}, At B H x t → RelV x u → ∃ as, Reads s.heap u t.toD as ∧ sysModules ∉ as
  | _, _, _, .non, r => by cases r; exact ⟨_, Reads.none, by simp⟩
  | _, _, _, .bl b, r => by cases r; exact ⟨_, Reads.bool b, by simp⟩
  | _, _, _, .int i, r => by obtain ⟨t, rfl⟩ := r; exact ⟨_, Reads.int i t, by simp⟩
  | _, _, _, .str z, r => by obtain ⟨t, rfl⟩ := r; exact ⟨_, Reads.str z t, by simp⟩
  | _, _, _, .lst n e h, r => by
    cases r
    have ne := sys_ne I hk e
    obtain ⟨_, its, m, rv, ho⟩ := I.hok _ _ e
    obtain ⟨as, q, nm⟩ := AtL.reads I hk h rv
    exact ⟨_, Reads.list ho rfl rfl (by simpa using q), by simp [ne.symm, nm]⟩
  | _, _, _, .tup n e h, r => by
    cases r
    obtain ⟨_, its, rv, ob, ho, hc, m, hd⟩ := I.hok _ _ e
    obtain ⟨as, q, nm⟩ := AtL.reads I hk h rv
    exact ⟨_, Reads.tuple ho hc hd (by simpa using q), nm⟩
  | _, _, _, .dct n e h, r => by
    cases r
    have ne := sys_ne I hk e
    obtain ⟨_, _, vs, kv, ob, es, ep, ho, hc, hd, _, hp, _⟩ := I.hok _ _ e
    obtain ⟨q1, q2, q3⟩ := reads_keys (h := s.heap) hp kv h
    obtain ⟨bs, q, nm⟩ := AtK.reads I hk h q2
    exact ⟨_, Reads.dict ho hc.1 hd q1 (by rw [q3]; exact q), by simp [ne.symm, nm]⟩
theorem AtL.reads {o : Obj} (I : Inv X pins σ H s) (hk : X.K.lookup sysModules = some o) : ∀ {xs : List V} {ts : List T} {us : List Value}, AtL B H xs ts → Vals xs us → ∃ as, ReadsAll s.heap us (T.toDs ts) as ∧ sysModules ∉ as
  | _, _, _, .nil, r => by cases r; exact ⟨_, ReadsAll.nil, by simp⟩
  | _, _, _, .cons h t, r => by
    cases r with
    | cons r1 r2 =>
      obtain ⟨as, q1, n1⟩ := At.reads I hk h r1
      obtain ⟨bs, q2, n2⟩ := AtL.reads I hk t r2
      exact ⟨_, ReadsAll.cons q1 q2, by simp [n1, n2]⟩
theorem AtK.reads {o : Obj} (I : Inv X pins σ H s) (hk : X.K.lookup sysModules = some o) : ∀ {xs : List (Key × V)} {ts : List (Key × T)} {us : List Value}, AtK B H xs ts → Vals (xs.map (·.2)) us → ∃ as, ReadsAll s.heap us (T.toDs (ts.map (·.2))) as ∧ sysModules ∉ as
  | _, _, _, .nil, r => by cases r; exact ⟨_, ReadsAll.nil, by simp⟩
  | _, _, _, .cons h t, r => by
    cases r with
    | cons r1 r2 =>
      obtain ⟨as, q1, n1⟩ := At.reads I hk h r1
      obtain ⟨bs, q2, n2⟩ := AtK.reads I hk t r2
      exact ⟨_, ReadsAll.cons q1 q2, by simp [n1, n2]⟩
end
def T.text (t : T) : Str := t.toD.shown
/-- it may be written by repr -/
structure Shows (t : T) : Prop where
  able : t.toD.showable = true
  deep : t.toD.depth ≤ 40
  size : t.text.length ≤ 16000000
end
end Hk

namespace Hk
open PySem PySem.Spec PyProof.Rows L2 He
theorem lt1 {a b : Nat} (h : a + 64 < b) : a + 1 < b := by omega

section
variable {X : Cx}
def rRepS : R2 := fun x y H Q => ∃ (z : Str) (k : Int), x = .str z ∧ y = .int k ∧ k < 1000 ∧ -1000 < k ∧ z.length ≤ 1000 ∧ Q (.str (Txt.mul z k)) H
theorem mulOk_small {z : Str} {k : Int} (h1 : k < 1000) (h2 : -1000 < k) (h3 : z.length ≤ 1000) : MulOk z k := by
  refine ⟨?_, fun hk _ => ?_, fun hk _ => ?_⟩
  · rw [Bool.or_eq_false_iff]
    exact ⟨decide_eq_false (by omega), decide_eq_false (by omega)⟩
  · have e : (2 ^ 63 - 1 : Int) / k ≥ 1000 := by
      have h0 : (0 : Int) < k := by omega
      exact (Int.le_ediv_iff_mul_le h0).mpr (by have : 1000 * k ≤ 1000 * 1000 := by omega
                                                omega)
    omega
  · have q : z.length * k.toNat ≤ 1000 * 1000 := Nat.mul_le_mul h3 (by omega)
    have zz := sizeLine_eq
    exact decide_eq_false (p := z.length * k.toNat > sizeLine) (by omega)
theorem op_repS : OpR X (binaryOp .Mult) rRepS := by
  intro pins s σ H x y v u Q I rx ry h
  obtain ⟨z, k, rfl, rfl, h1, h2, h3, q⟩ := h
  obtain ⟨t, rfl⟩ := rx
  obtain ⟨t', rfl⟩ := ry
  exact SB.mul (mulOk_small h1 h2 h3) fun t' k' => ⟨.str (Txt.mul z k), H, I.tok _, ⟨_, rfl⟩, q⟩
def rMulX (K : PySem.W.Frag) : R2 := fun x y H Q => rMul K x y H Q ∨ rRepS x y H Q
theorem oMulX : OpR X (binaryOp .Mult) (rMulX X.K) := OpR.or oMul op_repS
def rNeE : R2 := fun x y H Q => (∃ a b xs, x = .ref a ∧ y = .ref b ∧ H a = some (.lst xs) ∧ H b = some (.lst []) ∧ Q (.bl (!xs.isEmpty)) H) ∨
  ∃ a b kvs, x = .ref a ∧ y = .ref b ∧ Rd H a (.dK kvs) ∧ Rd H b (.dK []) ∧ Q (.bl (!kvs.isEmpty)) H
theorem op_neE (hu : X.A.units + 64 < cLine) : OpR X (compareOp .NotEq) rNeE := by
  intro pins s σ H x y v u Q I rx ry h
  rcases h with ⟨a, b, xs, rfl, rfl, ha, hb, q⟩ | ⟨a, b, kvs, rfl, rfl, ha, hb, q⟩
  · cases rx
    cases ry
    obtain ⟨_, its, n, r, hl, e⟩ := I.lstM ha
    obtain ⟨_, its2, n2, r2, hl2, e2⟩ := I.lstM hb
    cases its2 with
    | cons _ _ => cases hl2
    | nil =>
      have la : s.heap.IsList a its.toArray := PySem.IsL.isList e
      have lb : s.heap.IsList b (#[] : Array Value) := PySem.IsL.isList e2
      cases xs with
      | nil =>
        cases its with
        | cons _ _ => cases hl
        | nil => exact SeqAt.RcNeAt.lists (e := fun _ => true) la lb rfl (by omega) (fun j h1 _ => absurd h1 (Nat.not_lt_zero _)) X.prog X.w _ _ ⟨.bl false, H, I, rfl, q⟩
      | cons x xs =>
        refine SeqAt.RcNeAt.lists_lengths la lb ?_ (by omega) X.prog X.w _ _ ⟨.bl true, H, I, rfl, q⟩
        rw [List.size_toArray, ← hl]
        rfl
  · cases rx
    cases ry
    obtain ⟨_, lo, vs, rel, dd⟩ := ha.ok I.hok
    obtain ⟨_, lo2, vs2, rel2, dd2⟩ := hb.ok I.hok
    have e1 : kvs.length = vs.length := Paired.length rel
    have e2 : 0 = vs2.length := Paired.length rel2
    cases vs2 with
    | cons _ _ => cases e2
    | nil =>
      cases kvs with
      | nil =>
        cases vs with
        | cons _ _ => cases e1
        | nil => exact PySem.W.keq_ne (r := true) lo lo2 dd dd2 (by omega) (fun _ => .nil) ⟨.bl false, H, I, rfl, q⟩
      | cons p kvs =>
        cases vs with
        | nil => cases e1
        | cons p' vs => exact PySem.W.keq_ne (r := true) lo lo2 dd dd2 (by omega) (fun z => by cases z) ⟨.bl true, H, I, rfl, q⟩
def rIsN : R2 := fun x y H Q => y = .non ∧ Q (.bl (decide (x = .non))) H
def rInt1 : List V → Hp → VK → Prop := fun xs H Q => (∃ i, xs = [.int i] ∧ Q (.int i) H) ∨ ∃ k, xs = [.bl k] ∧ Q (.int (if k then 1 else 0)) H
end
end Hk

namespace Pu
open PySem PySem.Spec PyProof.Rows L2 He Hk
inductive T where
  | non
  | bl (b : Bool)
  | int (i : Int)
  | str (z : Str)
  | lst (xs : List T)
  | tup (xs : List T)
  | dct (kvs : List (Key × T))
  | ty (n : String)
  | glo (a : Addr)
  | ins (C : Addr) (fs : List (Key × T))
  /-- the law's script -/
  | scr (ns : List Int)
def KL (K : PySem.W.Frag) (a : Addr) (xs : List V) : Prop := ∃ (o : Obj) (its : Array Value) (n : Nat), K.lookup a = some o ∧ o.cls = .type "list" ∧ o.dict = none ∧ o.data = .seq its n ∧ its.size ≤ sizeLine ∧ Vals xs its.toList
def KT (K : PySem.W.Frag) (a : Addr) (xs : List V) : Prop := ∃ (o : Obj) (its : Array Value) (n : Nat), K.lookup a = some o ∧ o.cls = .type "tuple" ∧ o.data = .seq its n ∧ its.size ≤ sizeLine ∧ Vals xs its.toList
def fK (fs : List (Str × V)) : List (Key × V) := fs.map fun p => (Sum.inr p.1, p.2)
/- x is the thing t in the heap H, made of no object in B -/
mutual
inductive At (K : PySem.W.Frag) (B : Addr → Prop) (H : Hp) : V → T → Prop where
  | non : At K B H .non .non
  | bl (b : Bool) : At K B H (.bl b) (.bl b)
  | int (i : Int) : At K B H (.int i) (.int i)
  | str (z : Str) : At K B H (.str z) (.str z)
  | ty (n : String) : At K B H (.ty n) (.ty n)
  | glo (a : Addr) : At K B H (.ref a) (.glo a)
  | scr {a : Addr} {ns : List Int} (n : ¬ B a) (e : Rd H a (.lst (ns.map V.int))) : At K B H (.ref a) (.scr ns)
  | scrK {a : Addr} {ns : List Int} (e : KL K a (ns.map V.int)) : At K B H (.ref a) (.scr ns)
  | lst {a : Addr} {xs : List V} {ts : List T} (n : ¬ B a) (e : H a = some (.lst xs)) (h : AtL K B H xs ts) : At K B H (.ref a) (.lst ts)
  | tup {a : Addr} {xs : List V} {ts : List T} (n : ¬ B a) (e : Rd H a (.tup xs)) (h : AtL K B H xs ts) : At K B H (.ref a) (.tup ts)
  | tupK {a : Addr} {xs : List V} {ts : List T} (e : KT K a xs) (h : AtL K B H xs ts) : At K B H (.ref a) (.tup ts)
  | dct {a : Addr} {kvs : List (Key × V)} {ts : List (Key × T)} (n : ¬ B a) (e : Rd H a (.dK kvs)) (h : AtK K B H kvs ts) : At K B H (.ref a) (.dct ts)
  | ins {a C dx : Addr} {fs : List (Str × V)} {ts : List (Key × T)} (n : ¬ B a) (e : H a = some (.ins C dx fs)) (h : AtK K B H (fK fs) ts) : At K B H (.ref a) (.ins C ts)
inductive AtL (K : PySem.W.Frag) (B : Addr → Prop) (H : Hp) : List V → List T → Prop where
  | nil : AtL K B H [] []
  | cons {x : V} {t : T} {xs : List V} {ts : List T} (h : At K B H x t) (r : AtL K B H xs ts) : AtL K B H (x :: xs) (t :: ts)
inductive AtK (K : PySem.W.Frag) (B : Addr → Prop) (H : Hp) : List (Key × V) → List (Key × T) → Prop where
  | nil : AtK K B H [] []
  | cons {k : Key} {x : V} {t : T} {xs : List (Key × V)} {ts : List (Key × T)} (h : At K B H x t) (r : AtK K B H xs ts) : AtK K B H ((k, x) :: xs) ((k, t) :: ts)
end
/-- no table of code objects -/
def NT (o : HO) : Prop := ∀ ps, o ≠ .tbl ps
/-- tables and code objects stay -/
def TbS (H H' : Hp) : Prop := ∀ a o, H a = some o → ((∃ ps, o = .tbl ps) ∨ ∃ f, o = .ext f) → H' a = some o
theorem TbS.same {H H' : Hp} (s : Same H H') : TbS H H' := fun a o e _ => s a o e
theorem TbS.trans {H H1 H2 : Hp} (x : TbS H H1) (y : TbS H1 H2) : TbS H H2 := fun a o e z => y a o (x a o e z) z
theorem TbS.st {H : Hp} {p : Addr} {o u : HO} (e : H p = some o) (n : ((∃ ps, o = .tbl ps) ∨ ∃ f, o = .ext f) → False := by (rintro (⟨_, z⟩ | ⟨_, z⟩) <;> cases z)) : TbS H (upd H p u) := fun a v q z => by
  rw [upd_ne (fun w => by subst w; rw [e] at q; cases q; exact n z)]; exact q
theorem TbS.tabs {H H' : Hp} (s : TbS H H') {T : List (Addr × Str)} (t : LamX.Tabs T H) : LamX.Tabs T H' := fun p hp => by
  obtain ⟨ps, h1, h2, h3⟩ := t p hp
  refine ⟨ps, s _ _ h1 (.inl ⟨_, rfl⟩), h2, fun pos cv hc => ?_⟩
  obtain ⟨c, e1, e2⟩ := h3 pos cv hc
  exact ⟨c, e1, s _ _ e2 (.inr ⟨_, rfl⟩)⟩
theorem tabs_same {H H' : Hp} (s : Same H H') {T : List (Addr × Str)} (t : LamX.Tabs T H) : LamX.Tabs T H' := (TbS.same s).tabs t
/-- what stands outside B is kept, B grows by new ones alone -/
structure StB (B : Addr → Prop) (H : Hp) (B' : Addr → Prop) (H' : Hp) : Prop where
  keepT : ∀ a o, ¬ B a → NT o → H a = some o → H' a = some o
  more : ∀ a, B' a → B a ∨ H a = none
section
variable {K : PySem.W.Frag} {B B' : Addr → Prop} {H H' : Hp}
theorem StB.keep (s : StB B H B' H') (a : Addr) (o : HO) (n : ¬ B a) (e : H a = some o) (nt : NT o := by first | assumption | (intro ps z; cases z)) : H' a = some o := s.keepT a o n nt e
theorem StB.rd (s : StB B H B' H') {a : Addr} {u : HO} (n : ¬ B a) (r : Rd H a u) (nt : NT u := by first | assumption | (intro ps z; cases z)) : Rd H' a u := by
  rcases r with r | ⟨o, r⟩
  · exact .inl (s.keep _ _ n r)
  · exact .inr ⟨o, s.keep _ _ n r⟩
theorem StB.nb (s : StB B H B' H') {a : Addr} {u : HO} (n : ¬ B a) (r : Rd H a u) : ¬ B' a := fun q => by
  rcases s.more a q with z | z
  · exact n z
  · rcases r with r | ⟨o, r⟩ <;> rw [z] at r <;> cases r
mutual
theorem At.keep (s : StB B H B' H') : ∀ {x : V} {t : T}, At K B H x t → At K B' H' x t
  | _, _, .non => .non
  | _, _, .bl b => .bl b
  | _, _, .int b => .int b
  | _, _, .str b => .str b
  | _, _, .ty b => .ty b
  | _, _, .glo b => .glo b
  | _, _, .lst n e h => .lst (s.nb n (.inl e)) (s.keep _ _ n e) (AtL.keep s h)
  | _, _, .scr n e => .scr (s.nb n e) (s.rd n e)
  | _, _, .scrK e => .scrK e
  | _, _, .tup n e h => .tup (s.nb n e) (s.rd n e) (AtL.keep s h)
  | _, _, .tupK e h => .tupK e (AtL.keep s h)
  | _, _, .dct n e h => .dct (s.nb n e) (s.rd n e) (AtK.keep s h)
  | _, _, .ins n e h => .ins (s.nb n (.inl e)) (s.keep _ _ n e) (AtK.keep s h)
theorem AtL.keep (s : StB B H B' H') : ∀ {x : List V} {t : List T}, AtL K B H x t → AtL K B' H' x t
  | _, _, .nil => .nil
  | _, _, .cons h r => .cons (At.keep s h) (AtL.keep s r)
theorem AtK.keep (s : StB B H B' H') : ∀ {x : List (Key × V)} {t : List (Key × T)}, AtK K B H x t → AtK K B' H' x t
  | _, _, .nil => .nil
  | _, _, .cons h r => .cons (At.keep s h) (AtK.keep s r)
end
/-- a lock, its end: what is read is read as before -/
structure RdB (H H' : Hp) : Prop where
  lst : ∀ a xs, H a = some (.lst xs) → H' a = some (.lst xs)
  ins : ∀ a C dx fs, H a = some (.ins C dx fs) → H' a = some (.ins C dx fs)
  tup : ∀ a xs, Rd H a (.tup xs) → Rd H' a (.tup xs)
  dct : ∀ a xs, Rd H a (.dK xs) → Rd H' a (.dK xs)
  scr : ∀ a xs, Rd H a (.lst xs) → Rd H' a (.lst xs)
  tbs : TbS H H'
mutual
theorem At.rd (s : RdB H H') : ∀ {x : V} {t : T}, At K B H x t → At K B H' x t
  | _, _, .non => .non
  | _, _, .bl b => .bl b
  | _, _, .int b => .int b
  | _, _, .str b => .str b
  | _, _, .ty b => .ty b
  | _, _, .glo b => .glo b
  | _, _, .scr n e => .scr n (s.scr _ _ e)
  | _, _, .scrK e => .scrK e
  | _, _, .lst n e h => .lst n (s.lst _ _ e) (AtL.rd s h)
  | _, _, .tup n e h => .tup n (s.tup _ _ e) (AtL.rd s h)
  | _, _, .tupK e h => .tupK e (AtL.rd s h)
  | _, _, .dct n e h => .dct n (s.dct _ _ e) (AtK.rd s h)
  | _, _, .ins n e h => .ins n (s.ins _ _ _ _ e) (AtK.rd s h)
theorem AtL.rd (s : RdB H H') : ∀ {x : List V} {t : List T}, AtL K B H x t → AtL K B H' x t
  | _, _, .nil => .nil
  | _, _, .cons h r => .cons (At.rd s h) (AtL.rd s r)
theorem AtK.rd (s : RdB H H') : ∀ {x : List (Key × V)} {t : List (Key × T)}, AtK K B H x t → AtK K B H' x t
  | _, _, .nil => .nil
  | _, _, .cons h r => .cons (At.rd s h) (AtK.rd s r)
end
theorem RdB.lock {d : Addr} {o : Obj} {kvs : List (Key × V)} (e : H d = some (.dK kvs)) : RdB H (upd H d (.frz o (.dK kvs))) := by
  have ne : ∀ a u, H a = some u → u ≠ .dK kvs → a ≠ d := fun a u h n z => by rw [z, e] at h; cases h; exact n rfl
  have rd : ∀ a u, Rd H a u → (∀ ks, u ≠ .dK ks) → Rd (upd H d (.frz o (.dK kvs))) a u := by
    rintro a u (h | ⟨q, h⟩) n
    · exact .inl (by rw [upd_ne (ne a _ h (n _))]; exact h)
    · exact .inr ⟨q, by rw [upd_ne (ne a _ h (fun z => nomatch z))]; exact h⟩
  refine ⟨fun a xs h => by rw [upd_ne (ne a _ h (fun z => nomatch z))]; exact h, fun a C dx fs h => by rw [upd_ne (ne a _ h (fun z => nomatch z))]; exact h, fun a xs h => rd a _ h (fun _ z => nomatch z), fun a xs h => ?_, fun a xs h => rd a _ h (fun _ z => nomatch z), .st e⟩
  by_cases z : a = d
  · subst z
    rcases h with h | ⟨q, h⟩
    · rw [e] at h; cases h; exact .inr ⟨o, upd_same⟩
    · rw [e] at h; cases h
  · rcases h with h | ⟨q, h⟩
    · exact .inl (by rw [upd_ne z]; exact h)
    · exact .inr ⟨q, by rw [upd_ne z]; exact h⟩
theorem RdB.unlock {d : Addr} {o : Obj} {kvs : List (Key × V)} (e : H d = some (.frz o (.dK kvs))) : RdB H (upd H d (.dK kvs)) := by
  have ne : ∀ a u, H a = some u → u ≠ .frz o (.dK kvs) → a ≠ d := fun a u h n z => by rw [z, e] at h; cases h; exact n rfl
  have rd : ∀ a u, Rd H a u → (∀ ks, u ≠ .dK ks) → (∀ q v, u ≠ .frz q v) → Rd (upd H d (.dK kvs)) a u := by
    rintro a u (h | ⟨q, h⟩) n n2
    · exact .inl (by rw [upd_ne (ne a _ h (n2 _ _))]; exact h)
    · exact .inr ⟨q, by rw [upd_ne (ne a _ h (fun z => by cases z; exact n _ rfl))]; exact h⟩
  refine ⟨fun a xs h => by rw [upd_ne (ne a _ h (fun z => nomatch z))]; exact h, fun a C dx fs h => by rw [upd_ne (ne a _ h (fun z => nomatch z))]; exact h, fun a xs h => rd a _ h (fun _ z => nomatch z) (fun _ _ z => nomatch z), fun a xs h => ?_, fun a xs h => rd a _ h (fun _ z => nomatch z) (fun _ _ z => nomatch z), .st e⟩
  by_cases z : a = d
  · subst z
    rcases h with h | ⟨q, h⟩
    · rw [e] at h; cases h
    · rw [e] at h; cases h; exact .inl upd_same
  · rcases h with h | ⟨q, h⟩
    · exact .inl (by rw [upd_ne z]; exact h)
    · exact .inr ⟨q, by rw [upd_ne z]; exact h⟩
theorem StB.same (s : Same H H') : StB B H B H' := ⟨fun a o _ nt e => s a o e, fun _ q => .inl q⟩
theorem StB.less (i : ∀ a, B' a → B a) : StB B H B' H := ⟨fun _ _ _ _ e => e, fun a q => .inl (i a q)⟩
theorem AtL.length : ∀ {xs : List V} {ts : List T}, AtL K B H xs ts → xs.length = ts.length
  | _, _, .nil => rfl
  | _, _, .cons _ r => by simp [r.length]
theorem AtK.length : ∀ {xs : List (Key × V)} {ts : List (Key × T)}, AtK K B H xs ts → xs.length = ts.length
  | _, _, .nil => rfl
  | _, _, .cons _ r => by simp [r.length]
theorem AtL.get : ∀ {xs : List V} {ts : List T} {i : Nat} {x : V}, AtL K B H xs ts → xs[i]? = some x → ∃ t, ts[i]? = some t ∧ At K B H x t
  | _, _, _, _, .nil, e => by simp at e
  | _, _, 0, _, .cons h _, e => by simp at e; subst e; exact ⟨_, rfl, h⟩
  | _, _, i + 1, x, .cons _ r, e => by
    obtain ⟨t, h1, h2⟩ := AtL.get (i := i) (x := x) r (by simpa using e)
    exact ⟨t, by simpa using h1, h2⟩
theorem AtL.get' : ∀ {xs : List V} {ts : List T} {i : Nat} {t : T}, AtL K B H xs ts → ts[i]? = some t → ∃ x, xs[i]? = some x ∧ At K B H x t
  | _, _, _, _, .nil, e => by simp at e
  | _, _, 0, _, .cons h _, e => by simp at e; subst e; exact ⟨_, rfl, h⟩
  | _, _, i + 1, x, .cons _ r, e => by
    obtain ⟨t, h1, h2⟩ := AtL.get' (i := i) (t := x) r (by simpa using e)
    exact ⟨t, by simpa using h1, h2⟩
theorem AtL.append : ∀ {xs ys : List V} {ts us : List T}, AtL K B H xs ts → AtL K B H ys us → AtL K B H (xs ++ ys) (ts ++ us)
  | _, _, _, _, .nil, s => s
  | _, _, _, _, .cons h r, s => .cons h (r.append s)
theorem AtL.set : ∀ {xs : List V} {ts : List T} {x : V} {t : T} (i : Nat), AtL K B H xs ts → At K B H x t → AtL K B H (xs.set i x) (ts.set i t)
  | _, _, _, _, _, .nil, _ => .nil
  | _, _, _, _, 0, .cons _ r, s => .cons s r
  | _, _, _, _, i + 1, .cons h r, s => .cons h (r.set i s)
theorem AtL.take : ∀ {xs : List V} {ts : List T} (n : Nat), AtL K B H xs ts → AtL K B H (xs.take n) (ts.take n)
  | _, _, 0, _ => .nil
  | _, _, _ + 1, .nil => .nil
  | _, _, n + 1, .cons h r => .cons h (r.take n)
theorem AtL.drop : ∀ {xs : List V} {ts : List T} (n : Nat), AtL K B H xs ts → AtL K B H (xs.drop n) (ts.drop n)
  | _, _, 0, h => h
  | _, _, _ + 1, .nil => .nil
  | _, _, n + 1, .cons _ r => r.drop n
theorem AtL.rep {xs : List V} {ts : List T} (h : AtL K B H xs ts) : ∀ n : Nat, AtL K B H (List.replicate n xs).flatten (List.replicate n ts).flatten
  | 0 => .nil
  | n + 1 => by rw [List.replicate_succ, List.replicate_succ, List.flatten_cons, List.flatten_cons]; exact h.append (h.rep n)
theorem AtK.vals : ∀ {xs : List (Key × V)} {ts : List (Key × T)}, AtK K B H xs ts → AtL K B H (xs.map (·.2)) (ts.map (·.2))
  | _, _, .nil => .nil
  | _, _, .cons h r => .cons h r.vals
theorem AtK.keys : ∀ {xs : List (Key × V)} {ts : List (Key × T)}, AtK K B H xs ts → xs.map (·.1) = ts.map (·.1)
  | _, _, .nil => rfl
  | _, _, .cons h r => by simp [r.keys]
end
inductive Slot where
  | none
  | val (t : T)
  /-- an object of this def's own: it may be written -/
  | own (p : Addr) (t : T)
  /-- an object that the caller handed in to be written -/
  | ref (p : Addr) (t : T)
abbrev Env := List Slot
def Slot.root : Slot → Option Addr
  | .own p _ => some p
  | .ref p _ => some p
  | _ => Option.none
def Root (env : Env) (a : Addr) : Prop := ∃ (i : Nat) (s : Slot), env[i]? = some s ∧ s.root = some a
def Bd (O : Addr → Prop) (env : Env) : Addr → Prop := fun a => O a ∨ Root env a
/-- the object at p itself is t; it may be written -/
inductive Holds (K : PySem.W.Frag) (B : Addr → Prop) (H : Hp) (p : Addr) : T → Prop where
  | lst {xs : List V} {ts : List T} (e : H p = some (.lst xs)) (h : AtL K B H xs ts) : Holds K B H p (.lst ts)
  | dct {kvs : List (Key × V)} {ts : List (Key × T)} (e : H p = some (.dK kvs)) (h : AtK K B H kvs ts) : Holds K B H p (.dct ts)
  | ins {C dx : Addr} {fs : List (Str × V)} {ts : List (Key × T)} (e : H p = some (.ins C dx fs)) (h : AtK K B H (fK fs) ts) : Holds K B H p (.ins C ts)
def SlotOk (K : PySem.W.Frag) (B : Addr → Prop) (H : Hp) (o : Option V) : Slot → Prop
  | .none => True
  | .val t => ∃ v, o = some v ∧ At K B H v t
  | .own p t => o = some (.ref p) ∧ Holds K B H p t
  | .ref p t => o = some (.ref p) ∧ Holds K B H p t
/-- what a step may do -/
structure Stp (env : Env) (H : Hp) (env' : Env) (H' : Hp) : Prop where
  keepT : ∀ a o, ¬ Root env a → NT o → H a = some o → H' a = some o
  more : ∀ a, Root env' a → Root env a ∨ H a = Option.none
  dom : ∀ a, H a ≠ Option.none → H' a ≠ Option.none
structure Rl (K : PySem.W.Frag) (O : Addr → Prop) (H : Hp) (σ : L2.St) (env : Env) : Prop where
  tb : LamX.Tabs (TbK K) H
  len : σ.length = env.length
  slot : ∀ (i : Nat) (s : Slot), env[i]? = some s → SlotOk K (Bd O env) H (σ[i]?.getD Option.none) s
  one : ∀ (i j : Nat) (s u : Slot) (a : Addr), env[i]? = some s → env[j]? = some u → s.root = some a → u.root = some a → i = j
  out : ∀ a, O a → ¬ Root env a
  dom : ∀ a, O a → H a ≠ Option.none
/-- where a def or a try began -/
class Hist where
  O0 : Addr → Prop
  env0 : Env
  H0 : Hp
structure Rel [h : Hist] (K : PySem.W.Frag) (O : Addr → Prop) (H : Hp) (σ : L2.St) (env : Env) : Prop extends Rl K O H σ env where
  hO : ∀ a, h.O0 a → O a
  hN : ∀ a, O a → Bd h.O0 h.env0 a ∨ h.H0 a = Option.none
  hst : Stp h.env0 h.H0 env H
theorem Rel.rl {h0 : Hist} {K : PySem.W.Frag} {O : Addr → Prop} {H : Hp} {σ : L2.St} {env : Env} (R : @Rel h0 K O H σ env) : Rl K O H σ env := @Rel.toRl h0 K O H σ env R
theorem Rel.hs {h0 : Hist} {K : PySem.W.Frag} {O : Addr → Prop} {H : Hp} {σ : L2.St} {env : Env} (R : @Rel h0 K O H σ env) : Stp h0.env0 h0.H0 env H := @Rel.hst h0 K O H σ env R
section
variable {K : PySem.W.Frag} {O B B' : Addr → Prop} {H H' H1 H2 : Hp} {env env' env1 env2 : Env} {σ : L2.St} {p : Addr} {v : V} {t : T}
theorem Stp.keep (s : Stp env H env' H') (a : Addr) (o : HO) (n : ¬ Root env a) (e : H a = some o) (nt : NT o := by first | assumption | (intro ps z; cases z)) : H' a = some o := s.keepT a o n nt e
theorem Stp.refl (env : Env) (H : Hp) : Stp env H env H := ⟨fun _ _ _ _ e => e, fun _ q => .inl q, fun _ q => q⟩
theorem Stp.trans (x : Stp env H env1 H1) (y : Stp env1 H1 env2 H2) : Stp env H env2 H2 := by
  refine ⟨fun a o n nt e => y.keep a o (fun q => ?_) (x.keep a o n e), fun a q => ?_, fun a q => y.dom a (x.dom a q)⟩
  · rcases x.more a q with z | z
    · exact n z
    · rw [z] at e; cases e
  · rcases y.more a q with z | z
    · exact x.more a z
    · refine .inr ?_
      cases h : H a with
      | none => rfl
      | some o => exact absurd z (x.dom a (by rw [h]; exact fun q => by cases q))
theorem Stp.same (s : Same H H') : Stp env H env H' := ⟨fun a o _ nt e => s a o e, fun _ q => .inl q, fun a q => by
  cases h : H a with
  | none => exact absurd h q
  | some o => rw [s a o h]; exact fun z => by cases z⟩
theorem Stp.stb (x : Stp env H env' H') : StB (Bd O env) H (Bd O env') H' := ⟨fun a o n nt e => x.keep a o (fun q => n (.inr q)) e, fun a q => by
  rcases q with q | q
  · exact .inl (.inl q)
  · rcases x.more a q with z | z
    · exact .inl (.inr z)
    · exact .inr z⟩
theorem Holds.keep (s : StB B H B' H') (hp : H' p = H p) (h : Holds K B H p t) : Holds K B' H' p t := by
  cases h with
  | lst e h => exact .lst (hp.trans e) (h.keep s)
  | dct e h => exact .dct (hp.trans e) (h.keep s)
  | ins e h => exact .ins (hp.trans e) (h.keep s)
theorem Holds.def (h : Holds K B H p t) : H p ≠ Option.none := by
  cases h with
  | lst e h => rw [e]; exact fun z => by cases z
  | dct e h => rw [e]; exact fun z => by cases z
  | ins e h => rw [e]; exact fun z => by cases z
theorem Holds.nt {o : HO} (h : Holds K B H p t) (q : H p = some o) : NT o := by
  cases h with
  | lst e h => rw [e] at q; cases q; intro ps z; cases z
  | dct e h => rw [e] at q; cases q; intro ps z; cases z
  | ins e h => rw [e] at q; cases q; intro ps z; cases z
theorem Holds.tbs {o : HO} (h : Holds K B H p t) : TbS H (upd H p o) := by
  cases h with
  | lst e h => exact .st e
  | dct e h => exact .st e
  | ins e h => exact .st e
theorem Holds.at (h : Holds K B H p t) (n : ¬ B' p) (i : ∀ a, B' a → B a) : At K B' H (.ref p) t := by
  cases h with
  | lst e h => exact .lst n e (h.keep (.less i))
  | dct e h => exact .dct n (.inl e) (h.keep (.less i))
  | ins e h => exact .ins n e (h.keep (.less i))
theorem SlotOk.root {o : Option V} {s : Slot} {a : Addr} (h : SlotOk K B H o s) (r : s.root = some a) : o = some (.ref a) ∧ ∃ t, Holds K B H a t := by
  cases s with
  | none => cases r
  | val t => cases r
  | own p t => cases r; exact ⟨h.1, t, h.2⟩
  | ref p t => cases r; exact ⟨h.1, t, h.2⟩
theorem Rl.bdom (R : Rl K O H σ env) {a : Addr} (h : Bd O env a) : H a ≠ Option.none := by
  rcases h with h | ⟨i, s, e, r⟩
  · exact R.dom a h
  · obtain ⟨_, t, q⟩ := (R.slot i s e).root r
    exact q.def
theorem Rl.fresh (R : Rl K O H σ env) {a : Addr} (h : H a = Option.none) : ¬ Bd O env a := fun q => R.bdom q h
theorem SlotOk.keep {o : Option V} {s : Slot} (st : StB B H B' H') (hp : ∀ a, s.root = some a → H' a = H a) (h : SlotOk K B H o s) : SlotOk K B' H' o s := by
  cases s with
  | none => trivial
  | val t => obtain ⟨v, e, h⟩ := h; exact ⟨v, e, h.keep st⟩
  | own p t => exact ⟨h.1, h.2.keep st (hp p rfl)⟩
  | ref p t => exact ⟨h.1, h.2.keep st (hp p rfl)⟩
/-- new objects alone -/
theorem Rl.same (R : Rl K O H σ env) (s : Same H H') : Rl K O H' σ env := by
  refine ⟨tabs_same s R.tb, R.len, fun i u e => (R.slot i u e).keep (.same s) fun a r => ?_, R.one, R.out, fun a q => (Stp.same (env := env) s).dom a (R.dom a q)⟩
  obtain ⟨_, t, q⟩ := (R.slot i u e).root r
  cases h : H a with
  | none => exact absurd h q.def
  | some o => exact s a o h
theorem Rel.same [h0 : Hist] (R : Rel K O H σ env) (s : Same H H') : Rel K O H' σ env := ⟨R.toRl.same s, R.hO, R.hN, R.hst.trans (.same s)⟩
/-- more is kept out -/
theorem Rl.also (R : Rl K O H σ env) {D : Addr} {H' : Hp} (hD : H D = Option.none) (s : Same H H') (hD' : H' D ≠ Option.none) : Rl K (fun a => O a ∨ a = D) H' σ env := by
  have R' := R.same s
  refine ⟨R'.tb, R.len, fun i u e => ?_, R.one, fun a q => ?_, fun a q => ?_⟩
  · refine (R.slot i u e).keep ⟨fun a o _ nt e => s a o e, fun a q => ?_⟩ fun a r => ?_
    · rcases q with (q | q) | q
      · exact .inl (.inl q)
      · exact .inr (q ▸ hD)
      · exact .inl (.inr q)
    · obtain ⟨_, t, q⟩ := (R.slot i u e).root r
      cases h : H a with
      | none => exact absurd h q.def
      | some o => exact s a o h
  · rcases q with q | q
    · exact R.out a q
    · exact fun z => R.bdom (.inr z) (q ▸ hD)
  · rcases q with q | q
    · exact R'.dom a q
    · exact q ▸ hD'
theorem Rel.also [h0 : Hist] (R : Rel K O H σ env) {D : Addr} {H' : Hp} (hD : H D = Option.none) (s : Same H H') (hD' : H' D ≠ Option.none) : Rel K (fun a => O a ∨ a = D) H' σ env :=
  ⟨R.toRl.also hD s hD', fun a q => .inl (R.hO a q), fun a q => q.elim (R.hN a) fun z => .inr (by
    subst z
    cases q : h0.H0 a with
    | none => rfl
    | some o => exact absurd hD (R.hst.dom a (by rw [q]; exact fun z => by cases z))), R.hst.trans (.same s)⟩
theorem Rl.less {O' : Addr → Prop} (R : Rl K O H σ env) (i : ∀ a, O' a → O a) : Rl K O' H σ env :=
  ⟨R.tb, R.len, fun j u e => (R.slot j u e).keep (.less fun a q => q.elim (fun z => .inl (i a z)) .inr) fun _ _ => rfl, R.one, fun a q => R.out a (i a q), fun a q => R.dom a (i a q)⟩
theorem Rel.less [h0 : Hist] {O' : Addr → Prop} (R : Rel K O H σ env) (i : ∀ a, O' a → O a) (hO : ∀ a, h0.O0 a → O' a) : Rel K O' H σ env := ⟨R.toRl.less i, hO, fun a q => R.hN a (i a q), R.hst⟩
/-- the heap of the beginning has no more than the heap now -/
theorem Rel.none0 [h0 : Hist] (R : Rel K O H σ env) {a : Addr} (h : H a = Option.none) : h0.H0 a = Option.none := by
  cases q : h0.H0 a with
  | none => rfl
  | some o => exact absurd h (R.hst.dom a (by rw [q]; exact fun z => by cases z))
/-- what stood at the beginning stands now -/
theorem Rel.stb [h0 : Hist] (R : Rel K O H σ env) : StB (Bd h0.O0 h0.env0) h0.H0 (Bd O env) H := ⟨fun a o n nt e => R.hst.keep a o (fun z => n (.inr z)) e, fun a q => by
  rcases q with q | q
  · exact R.hN a q
  · rcases R.hst.more a q with z | z
    · exact .inl (.inr z)
    · exact .inr z⟩
theorem Rl.var (R : Rl K O H σ env) {i : Nat} {s : Slot} (e : env[i]? = some s) {v : V} (h : σ[i]?.getD Option.none = some v) : σ[i]? = some (some v) := by
  cases q : σ[i]? with
  | none => rw [q] at h; cases h
  | some o => rw [q] at h; exact congrArg some h
end
end Pu

namespace Pu
open PySem PySem.Spec PyProof.Rows L2 He Hk
abbrev PE := Env → (T → Env → Prop) → Prop
abbrev PT := Env → (Bool → Env → Prop) → Prop
/-- an argument: a thing, or a name that is read when all are told -/
inductive Ar where
  | val (t : T)
  | var (i : Nat)
abbrev PA := Env → (List Ar → Env → Prop) → Prop
structure PD where
  nx : Env → Prop
  rt : T → Env → Prop
  bk : Env → Prop := fun _ => False
  ct : Env → Prop := fun _ => False
abbrev PS := PD → Env → Prop
/-- an expression's reading is that of pe -/
def RefE [h0 : Hist] (K : PySem.W.Frag) (te : TE) (pe : PE) : Prop := ∀ (O : Addr → Prop) (H : Hp) (σ : L2.St) (env : Env) (P : T → Env → Prop) (Q : VK), Rel K O H σ env → pe env P →
  (∀ t env' v H', P t env' → Rel K O H' σ env' → Stp env H env' H' → At K (Bd O env') H' v t → Q v H') → te σ H Q
/-- .. and gives a new object -/
def RefF [h0 : Hist] (K : PySem.W.Frag) (te : TE) (pe : PE) : Prop := ∀ (O : Addr → Prop) (H : Hp) (σ : L2.St) (env : Env) (P : T → Env → Prop) (Q : VK), Rel K O H σ env → pe env P →
  (∀ t env' p H', P t env' → Rel K (fun a => O a ∨ a = p) H' σ env' → Stp env H env' H' → H p = none → Holds K (Bd (fun a => O a ∨ a = p) env') H' p t → Q (.ref p) H') → te σ H Q
def RefT [h0 : Hist] (K : PySem.W.Frag) (tt : TT) (pt : PT) : Prop := ∀ (O : Addr → Prop) (H : Hp) (σ : L2.St) (env : Env) (P : Bool → Env → Prop) (Q : Bool → Hp → Prop), Rel K O H σ env → pt env P →
  (∀ b env' H', P b env' → Rel K O H' σ env' → Stp env H env' H' → Q b H') → tt σ H Q
def ArOk (K : PySem.W.Frag) (B : Addr → Prop) (H : Hp) (σ : L2.St) : List Ar → List V → Prop
  | [], [] => True
  | .val t :: as, v :: vs => At K B H v t ∧ ArOk K B H σ as vs
  | .var i :: as, v :: vs => σ[i]? = some (some v) ∧ ArOk K B H σ as vs
  | _, _ => False
def RefA [h0 : Hist] (K : PySem.W.Frag) (ta : TA) (pa : PA) : Prop := ∀ (O : Addr → Prop) (H : Hp) (σ : L2.St) (env : Env) (P : List Ar → Env → Prop) (R : List V → Hp → Prop), Rel K O H σ env → pa env P →
  (∀ as env' vs H', P as env' → Rel K O H' σ env' → Stp env H env' H' → ArOk K (Bd O env') H' σ as vs → R vs H') → ta σ H R
structure EndsOk [h0 : Hist] (K : PySem.W.Frag) (O : Addr → Prop) (env : Env) (H : Hp) (fr : Bool) (D : Ends) (d : PD) : Prop where
  nx : ∀ σ' env' H', d.nx env' → Rel K O H' σ' env' → Stp env H env' H' → D.nx σ' H'
  bk : ∀ σ' env' H', d.bk env' → Rel K O H' σ' env' → Stp env H env' H' → D.bk σ' H'
  ct : ∀ σ' env' H', d.ct env' → Rel K O H' σ' env' → Stp env H env' H' → D.ct σ' H'
  rt : ∀ t σ' env' v H', d.rt t env' → Rel K O H' σ' env' → Stp env H env' H' → At K (Bd O env') H' v t →
    (fr = true → ∃ p, v = .ref p ∧ (Root h0.env0 p ∨ h0.H0 p = none) ∧ Rel K (fun a => O a ∨ a = p) H' σ' env' ∧ Holds K (Bd (fun a => O a ∨ a = p) env') H' p t) → D.rt v H'
/-- a statement's reading is that of ps; fr: what it hands back is new -/
def RefS [h0 : Hist] (K : PySem.W.Frag) (fr : Bool) (ts : TS) (ps : PS) : Prop := ∀ (O : Addr → Prop) (H : Hp) (σ : L2.St) (env : Env) (D : Ends) (d : PD), Rel K O H σ env → ps d env → EndsOk K O env H fr D d → ts D σ H
section
variable {K : PySem.W.Frag} {O B B' : Addr → Prop} {H H' H1 H2 : Hp} {env env' env1 env2 : Env} {σ : L2.St} {p : Addr} {v : V} {t : T} {fr : Bool}
theorem EndsOk.from [h0 : Hist] {D : Ends} {d : PD} (e : EndsOk K O env H fr D d) (s : Stp env H env1 H1) : EndsOk K O env1 H1 fr D d :=
  ⟨fun σ' env' H' h r x => e.nx σ' env' H' h r (s.trans x), fun σ' env' H' h r x => e.bk σ' env' H' h r (s.trans x), fun σ' env' H' h r x => e.ct σ' env' H' h r (s.trans x), fun t σ' env' v H' h r x a f => e.rt t σ' env' v H' h r (s.trans x) a f⟩
theorem RefF.e [h0 : Hist] {te : TE} {pe : PE} (h : RefF K te pe) : RefE K te pe := by
  intro O H σ env P Q R hp hq
  refine h O H σ env P Q R hp fun t env' p H' ht r s hn ho => hq t env' _ H' ht (r.less (fun a q => .inl q) R.hO) s (ho.at ?_ fun a q => q.elim (fun z => .inl (.inl z)) .inr)
  intro z
  rcases z with z | z
  · exact R.dom p z hn
  · exact r.out p (.inr rfl) z
def pC (t : T) : PE := fun env P => P t env
theorem rf_c [h0 : Hist] {v : V} {t : T} (h : ∀ B H, At K B H v t) : RefE K (tC v) (pC t) := fun O H σ env P Q R hp hq => hq t env v H hp R (.refl _ _) (h _ _)
theorem rf_non [h0 : Hist] : RefE K (tC .non) (pC .non) := rf_c fun _ _ => .non
theorem rf_bl [h0 : Hist] {b : Bool} : RefE K (tC (.bl b)) (pC (.bl b)) := rf_c fun _ _ => .bl b
theorem rf_int [h0 : Hist] {i : Int} : RefE K (tC (.int i)) (pC (.int i)) := rf_c fun _ _ => .int i
theorem rf_str [h0 : Hist] {z : Str} : RefE K (tC (.str z)) (pC (.str z)) := rf_c fun _ _ => .str z
theorem rf_ty [h0 : Hist] {n : String} : RefE K (tC (.ty n)) (pC (.ty n)) := rf_c fun _ _ => .ty n
theorem root_set {i : Nat} {s : Slot} {a : Addr} (h : Root (env.set i s) a) : (s.root = some a ∧ i < env.length) ∨ ∃ (j : Nat) (u : Slot), j ≠ i ∧ env[j]? = some u ∧ u.root = some a := by
  obtain ⟨j, u, e, r⟩ := h
  rw [List.getElem?_set] at e
  by_cases h1 : i = j
  · rw [if_pos h1] at e
    by_cases h2 : i < env.length
    · rw [if_pos h2] at e; cases e; exact .inl ⟨r, h2⟩
    · rw [if_neg h2] at e; cases e
  · rw [if_neg h1] at e; exact .inr ⟨j, u, fun z => h1 z.symm, e, r⟩
/-- a slot is put -/
theorem Rl.put {O' : Addr → Prop} {i : Nat} {s : Slot} {v : V} (R : Rl K O H σ env) (hi : ∀ a, Bd O' (env.set i s) a → Bd O env a) (hO : ∀ a, O' a → O a) (ho : ∀ a, O' a → s.root ≠ some a)
    (hs : SlotOk K (Bd O' (env.set i s)) H (some v) s) (hn : ∀ (j : Nat) u a, j ≠ i → env[j]? = some u → u.root = some a → s.root ≠ some a) : Rl K O' H (σ.set i (some v)) (env.set i s) := by
  refine ⟨R.tb, by rw [List.length_set, List.length_set]; exact R.len, fun j u e => ?_, fun j k u w a e1 e2 r1 r2 => ?_, fun a q z => ?_, fun a q => R.dom a (hO a q)⟩
  · rw [List.getElem?_set] at e
    by_cases h1 : i = j
    · rw [if_pos h1] at e
      by_cases h2 : i < env.length
      · rw [if_pos h2] at e; cases e
        subst h1
        rw [List.getElem?_set, if_pos rfl, if_pos (by rw [R.len]; exact h2)]
        exact hs
      · rw [if_neg h2] at e; cases e
    · rw [if_neg h1] at e
      rw [List.getElem?_set, if_neg h1]
      exact (R.slot j u e).keep (.less hi) fun _ _ => rfl
  · rw [List.getElem?_set] at e1 e2
    by_cases h1 : i = j
    · rw [if_pos h1] at e1
      by_cases h2 : i = k
      · exact h1.symm.trans h2
      · rw [if_neg h2] at e2
        split at e1
        · cases e1
          exact absurd r1 (hn k w a (fun z => h2 z.symm) e2 r2)
        · cases e1
    · rw [if_neg h1] at e1
      by_cases h2 : i = k
      · rw [if_pos h2] at e2
        split at e2
        · cases e2
          exact absurd r2 (hn j u a (fun z => h1 z.symm) e1 r1)
        · cases e2
      · rw [if_neg h2] at e2
        exact R.one j k u w a e1 e2 r1 r2
  · rcases root_set z with ⟨z, _⟩ | ⟨j, u, hj, e, r⟩
    · exact ho a q z
    · exact R.out a (hO a q) ⟨j, u, e, r⟩
theorem Rel.put [h0 : Hist] {O' : Addr → Prop} {i : Nat} {s : Slot} {v : V} (R : Rel K O H σ env) (hi : ∀ a, Bd O' (env.set i s) a → Bd O env a) (hO : ∀ a, O' a → O a) (ho : ∀ a, O' a → s.root ≠ some a)
    (hs : SlotOk K (Bd O' (env.set i s)) H (some v) s) (hn : ∀ (j : Nat) u a, j ≠ i → env[j]? = some u → u.root = some a → s.root ≠ some a) (h1 : ∀ a, h0.O0 a → O' a) (h2 : ∀ a, s.root = some a → h0.H0 a = none) : Rel K O' H (σ.set i (some v)) (env.set i s) :=
  ⟨R.toRl.put hi hO ho hs hn, h1, fun a q => R.hN a (hO a q), ⟨R.hst.keepT, fun a q => by
    rcases root_set q with ⟨z, _⟩ | ⟨j, u, _, e, r⟩
    · exact .inr (h2 a z)
    · exact R.hst.more a ⟨j, u, e, r⟩, R.hst.dom⟩⟩
theorem Rel.putV [h0 : Hist] {i : Nat} {v : V} {t : T} (R : Rel K O H σ env) (h : At K (Bd O env) H v t) : Rel K O H (σ.set i (some v)) (env.set i (.val t)) := by
  have hi : ∀ a, Bd O (env.set i (.val t)) a → Bd O env a := fun a q => by
    rcases q with q | q
    · exact .inl q
    · rcases root_set q with ⟨z, _⟩ | ⟨j, u, _, e, r⟩
      · cases z
      · exact .inr ⟨j, u, e, r⟩
  exact R.put hi (fun _ q => q) (fun a _ z => by cases z) ⟨v, rfl, h.keep (.less hi)⟩ (fun j u a _ _ _ z => by cases z) R.hO (fun a z => by cases z)
theorem stp_putV {i : Nat} {t : T} : Stp env H (env.set i (.val t)) H := ⟨fun _ _ _ _ e => e, fun a q => by
  rcases root_set q with ⟨z, _⟩ | ⟨j, u, _, e, r⟩
  · cases z
  · exact .inl ⟨j, u, e, r⟩, fun _ q => q⟩
theorem Rel.putO [h0 : Hist] {i : Nat} {p : Addr} {t : T} (R : Rel K (fun a => O a ∨ a = p) H σ env) (hO : ¬ O p) (h1 : ∀ a, h0.O0 a → O a) (h2 : h0.H0 p = none) (h : Holds K (Bd (fun a => O a ∨ a = p) env) H p t) : Rel K O H (σ.set i (some (.ref p))) (env.set i (.own p t)) := by
  have hi : ∀ a, Bd O (env.set i (.own p t)) a → Bd (fun a => O a ∨ a = p) env a := fun a q => by
    rcases q with q | q
    · exact .inl (.inl q)
    · rcases root_set q with ⟨z, _⟩ | ⟨j, u, _, e, r⟩
      · cases z; exact .inl (.inr rfl)
      · exact .inr ⟨j, u, e, r⟩
  refine R.put hi (fun _ q => .inl q) (fun a q z => by cases z; exact hO q) ⟨rfl, h.keep (.less hi) rfl⟩ (fun j u a _ e r z => ?_) h1 (fun a z => by cases z; exact h2)
  cases z
  exact R.out p (.inr rfl) ⟨j, u, e, r⟩
/-- a name as a value: what is the def's own is set free -/
def pVar (i : Nat) : PE := fun env P => match env[i]? with
  | some (.val t) => P t env
  | some (.own _ t) => P t (env.set i (.val t))
  | _ => False
theorem set_same_slot {i : Nat} {v : V} (h : σ[i]? = some (some v)) : σ.set i (some v) = σ := by
  apply List.ext_getElem?
  intro j
  rw [List.getElem?_set]
  by_cases h1 : i = j
  · subst h1
    rw [if_pos rfl]
    by_cases h2 : i < σ.length
    · rw [if_pos h2, h]
    · rw [if_neg h2]
      rw [List.getElem?_eq_none_iff.mpr (by omega)]
  · rw [if_neg h1]
theorem Rel.free [h0 : Hist] {i : Nat} {p : Addr} {t : T} (R : Rel K O H σ env) (e : env[i]? = some (.own p t)) : σ[i]? = some (some (.ref p)) ∧ Rel K O H σ (env.set i (.val t)) ∧ At K (Bd O (env.set i (.val t))) H (.ref p) t := by
  obtain ⟨h1, h2⟩ := R.slot i _ e
  have h3 := R.var e h1
  have hi : ∀ a, Bd O (env.set i (.val t)) a → Bd O env a := fun a q => by
    rcases q with q | q
    · exact .inl q
    · rcases root_set q with ⟨z, _⟩ | ⟨j, u, _, e, r⟩
      · cases z
      · exact .inr ⟨j, u, e, r⟩
  have nb : ¬ Bd O (env.set i (.val t)) p := by
    rintro (q | q)
    · exact R.out p q ⟨i, _, e, rfl⟩
    · rcases root_set q with ⟨z, _⟩ | ⟨j, u, hj, e2, r⟩
      · cases z
      · exact hj (R.one j i u _ p e2 e r rfl)
  have a := h2.at nb hi
  refine ⟨h3, ?_, a⟩
  have R2 := R.put (i := i) (s := .val t) (v := .ref p) hi (fun _ q => q) (fun a _ z => by cases z) ⟨_, rfl, a⟩ (fun j u a _ _ _ z => by cases z) R.hO (fun a z => by cases z)
  rw [set_same_slot h3] at R2
  exact R2
theorem rf_var [h0 : Hist] {i : Nat} : RefE K (tVar i) (pVar i) := by
  intro O H σ env P Q R hp hq
  unfold pVar at hp
  cases e : env[i]? with
  | none => rw [e] at hp; exact hp.elim
  | some s =>
    rw [e] at hp
    cases s with
    | none => exact hp.elim
    | val t =>
      obtain ⟨v, h1, h2⟩ := R.slot i _ e
      exact ⟨v, R.var e h1, hq t env v H hp R (.refl _ _) h2⟩
    | own p t =>
      obtain ⟨h1, h2, h3⟩ := R.free e
      exact ⟨_, h1, hq t _ _ H hp h2 stp_putV h3⟩
    | ref p t => exact hp.elim
theorem ArOk.keep (s : StB B H B' H') : ∀ {as : List Ar} {vs : List V}, ArOk K B H σ as vs → ArOk K B' H' σ as vs
  | [], [], h => trivial
  | .val t :: as, v :: vs, h => ⟨h.1.keep s, ArOk.keep s h.2⟩
  | .var i :: as, v :: vs, h => ⟨h.1, ArOk.keep s h.2⟩
  | [], _ :: _, h => h.elim
  | .val _ :: _, [], h => h.elim
  | .var _ :: _, [], h => h.elim
def pNil : PA := fun env P => P [] env
def pCons (pe : PE) (pa : PA) : PA := fun env P => pe env fun t env1 => pa env1 fun as env2 => P (.val t :: as) env2
def has (env : Env) (i : Nat) : Prop := match env[i]? with
  | some (.val _) => True
  | some (.own _ _) => True
  | some (.ref _ _) => True
  | _ => False
def pConsV (i : Nat) (pa : PA) : PA := fun env P => has env i ∧ pa env fun as env2 => P (.var i :: as) env2
theorem Rl.has {i : Nat} (r : Rl K O H σ env) (h : has env i) : ∃ v, σ[i]? = some (some v) := by
  unfold Pu.has at h
  cases e : env[i]? with
  | none => rw [e] at h; exact h.elim
  | some s =>
    rw [e] at h
    cases s with
    | none => exact h.elim
    | val t => obtain ⟨v, h1, h2⟩ := r.slot i _ e; exact ⟨v, r.var e h1⟩
    | own p t => exact ⟨_, r.var e (r.slot i _ e).1⟩
    | ref p t => exact ⟨_, r.var e (r.slot i _ e).1⟩
theorem rfa_nil [h0 : Hist] : RefA K tNil pNil := fun O H σ env P R r hp hq => hq [] env [] H hp r (.refl _ _) trivial
theorem rfa_cons [h0 : Hist] {te : TE} {ta : TA} {pe : PE} {pa : PA} (he : RefE K te pe) (ha : RefA K ta pa) : RefA K (tCons te ta) (pCons pe pa) := by
  intro O H σ env P R r hp hq
  refine he O H σ env _ _ r hp fun t env1 v H1 p1 r1 s1 a1 => ?_
  refine ha O H1 σ env1 _ _ r1 p1 fun as env2 vs H2 p2 r2 s2 a2 => ?_
  exact hq _ env2 _ H2 p2 r2 (s1.trans s2) ⟨a1.keep s2.stb, a2⟩
theorem rfa_var [h0 : Hist] {i : Nat} {ta : TA} {pa : PA} (ha : RefA K ta pa) : RefA K (tCons (tVar i) ta) (pConsV i pa) := by
  rintro O H σ env P R r ⟨hs, hp⟩ hq
  obtain ⟨v, ev⟩ := r.has hs
  refine ⟨v, ev, ?_⟩
  exact ha O H σ env _ _ r hp fun as env2 vs H2 p2 r2 s2 a2 => hq _ env2 _ H2 p2 r2 s2 ⟨ev, a2⟩
end
end Pu

namespace Pu
open PySem PySem.Spec PyProof.Rows L2 He Hk
/-- v is t for reading -/
def Br (K : PySem.W.Frag) (B : Addr → Prop) (H : Hp) (v : V) (t : T) : Prop := At K B H v t ∨ ∃ p, v = .ref p ∧ Holds K B H p t
def BrL (K : PySem.W.Frag) (B : Addr → Prop) (H : Hp) : List V → List T → Prop
  | [], [] => True
  | v :: vs, t :: ts => Br K B H v t ∧ BrL K B H vs ts
  | _, _ => False
def slotT : Option Slot → Option T
  | some (.val t) => some t
  | some (.own _ t) => some t
  | some (.ref _ t) => some t
  | _ => none
def tsOf (env : Env) : List Ar → Option (List T)
  | [] => some []
  | .val t :: as => match tsOf env as with | some ts => some (t :: ts) | none => none
  | .var i :: as => match slotT env[i]? with | some t => (match tsOf env as with | some ts => some (t :: ts) | none => none) | none => none
abbrev OpT := List T → (T → Prop) → Prop
/-- the operation r on values is rp on things; what it gives may be new objects alone -/
def OpOk (K : PySem.W.Frag) (r : List V → Hp → VK → Prop) (rp : OpT) : Prop := ∀ (B : Addr → Prop) (H : Hp) (vs : List V) (ts : List T) (P : T → Prop) (Q : VK), (∀ a, B a → H a ≠ none) → BrL K B H vs ts → rp ts P →
  (∀ t v H', P t → Same H H' → At K B H' v t → Q v H') → r vs H Q
/-- .. gives a new object -/
def OpNew (K : PySem.W.Frag) (r : List V → Hp → VK → Prop) (rp : OpT) : Prop := ∀ (B : Addr → Prop) (H : Hp) (vs : List V) (ts : List T) (P : T → Prop) (Q : VK), (∀ a, B a → H a ≠ none) → BrL K B H vs ts → rp ts P →
  (∀ t p H', P t → Same H H' → H p = none → Holds K (fun a => B a ∨ a = p) H' p t → Q (.ref p) H') → r vs H Q
def pOp (rp : OpT) (pa : PA) : PE := fun env P => pa env fun as env' => match tsOf env' as with
  | some ts => rp ts fun t => P t env'
  | none => False
def r2 (r : R2) : List V → Hp → VK → Prop := fun vs H Q => match vs with | [x, y] => r x y H Q | _ => False
def r1 (r : V → Hp → VK → Prop) : List V → Hp → VK → Prop := fun vs H Q => match vs with | [x] => r x H Q | _ => False
def rm (r : V → List V → Hp → VK → Prop) : List V → Hp → VK → Prop := fun vs H Q => match vs with | x :: xs => r x xs H Q | _ => False
section
variable {K : PySem.W.Frag} {O B B' : Addr → Prop} {H H' H1 H2 : Hp} {env env' env1 env2 : Env} {σ : L2.St} {p : Addr} {v : V} {t : T} {fr : Bool}
theorem br_slot [h0 : Hist] {i : Nat} (R : Rel K O H σ env) (ev : σ[i]? = some (some v)) (h : slotT env[i]? = some t) : Br K (Bd O env) H v t := by
  cases e : env[i]? with
  | none => rw [e] at h; cases h
  | some s =>
    rw [e] at h
    have q := R.slot i s e
    rw [ev] at q
    cases s with
    | none => cases h
    | val u => cases h; obtain ⟨w, e1, e2⟩ := q; cases e1; exact .inl e2
    | own p u => cases h; obtain ⟨e1, e2⟩ := q; cases e1; exact .inr ⟨p, rfl, e2⟩
    | ref p u => cases h; obtain ⟨e1, e2⟩ := q; cases e1; exact .inr ⟨p, rfl, e2⟩
theorem br_args [h0 : Hist] (R : Rel K O H σ env) : ∀ {as : List Ar} {vs : List V} {ts : List T}, ArOk K (Bd O env) H σ as vs → tsOf env as = some ts → BrL K (Bd O env) H vs ts
  | [], [], ts, _, e => by cases e; trivial
  | .val t :: as, v :: vs, ts, h, e => by
    unfold tsOf at e
    cases q : tsOf env as with
    | none => rw [q] at e; cases e
    | some us => rw [q] at e; cases e; exact ⟨.inl h.1, br_args R h.2 q⟩
  | .var i :: as, v :: vs, ts, h, e => by
    unfold tsOf at e
    cases q0 : slotT env[i]? with
    | none => rw [q0] at e; cases e
    | some t =>
      rw [q0] at e
      cases q : tsOf env as with
      | none => rw [q] at e; cases e
      | some us => rw [q] at e; cases e; exact ⟨br_slot R h.1 q0, br_args R h.2 q⟩
  | [], _ :: _, _, h, _ => h.elim
  | .val _ :: _, [], _, h, _ => h.elim
  | .var _ :: _, [], _, h, _ => h.elim
theorem rf_cb [h0 : Hist] {r : List V → Hp → VK → Prop} {rp : OpT} {ta : TA} {pa : PA} (o : OpOk K r rp) (ha : RefA K ta pa) : RefE K (tCB r ta) (pOp rp pa) := by
  intro O H σ env P Q R hp hq
  refine ha O H σ env _ _ R hp fun as env' vs H' p1 r1 s1 a1 => ?_
  cases e : tsOf env' as with
  | none => rw [e] at p1; exact p1.elim
  | some ts =>
    rw [e] at p1
    exact o _ H' vs ts _ Q (fun a q => r1.bdom q) (br_args r1 a1 e) p1 fun t v H2 p2 sm at2 => hq t env' v H2 p2 (r1.same sm) (s1.trans (.same sm)) at2
theorem OpNew.ok {r : List V → Hp → VK → Prop} {rp : OpT} (o : OpNew K r rp) : OpOk K r rp := by
  intro B H vs ts P Q hB hb hp hq
  refine o B H vs ts P Q hB hb hp fun t p H' pt sm hn ho => hq t _ H' pt sm (ho.at (fun z => hB p z hn) fun a q => .inl q)
theorem OpOk.or {r r' : List V → Hp → VK → Prop} {rp : OpT} (o : OpOk K r rp) : OpOk K (fun vs H Q => r vs H Q ∨ r' vs H Q) rp := fun B H vs ts P Q hB hb hp hq => .inl (o B H vs ts P Q hB hb hp hq)
theorem rf_op2 [h0 : Hist] {r : R2} {rp : OpT} {ta tb : TE} {pa : PA} (o : OpOk K (r2 r) rp) (ha : RefA K (tCons ta (tCons tb tNil)) pa) : RefE K (tOp r ta tb) (pOp rp pa) := rf_cb o ha
theorem Br.int {i : Int} (h : Br K B H v (.int i)) : v = .int i := by
  rcases h with h | ⟨p, _, h⟩
  · cases h; rfl
  · cases h
theorem Br.str {z : Str} (h : Br K B H v (.str z)) : v = .str z := by
  rcases h with h | ⟨p, _, h⟩
  · cases h; rfl
  · cases h
theorem Br.bl {b : Bool} (h : Br K B H v (.bl b)) : v = .bl b := by
  rcases h with h | ⟨p, _, h⟩
  · cases h; rfl
  · cases h
theorem Br.non (h : Br K B H v .non) : v = .non := by
  rcases h with h | ⟨p, _, h⟩
  · cases h; rfl
  · cases h
theorem Br.ty {n : String} (h : Br K B H v (.ty n)) : v = .ty n := by
  rcases h with h | ⟨p, _, h⟩
  · cases h; rfl
  · cases h
theorem Br.glo {a : Addr} (h : Br K B H v (.glo a)) : v = .ref a := by
  rcases h with h | ⟨p, _, h⟩
  · cases h; rfl
  · cases h
theorem Br.lst {ts : List T} (h : Br K B H v (.lst ts)) : ∃ a xs, v = .ref a ∧ H a = some (.lst xs) ∧ AtL K B H xs ts := by
  rcases h with h | ⟨p, rfl, h⟩
  · cases h with | lst n e h => exact ⟨_, _, rfl, e, h⟩
  · cases h with | lst e h => exact ⟨_, _, rfl, e, h⟩
theorem Br.tup {ts : List T} (h : Br K B H v (.tup ts)) : ∃ a xs, v = .ref a ∧ SqT K H a xs ∧ AtL K B H xs ts := by
  rcases h with h | ⟨p, rfl, h⟩
  · cases h with
    | tup n e h => exact ⟨_, _, rfl, .inl e, h⟩
    | tupK e h => exact ⟨_, _, rfl, .inr e, h⟩
  · cases h
theorem Br.dct {ts : List (Key × T)} (h : Br K B H v (.dct ts)) : ∃ a kvs, v = .ref a ∧ Rd H a (.dK kvs) ∧ AtK K B H kvs ts := by
  rcases h with h | ⟨p, rfl, h⟩
  · cases h with | dct n e h => exact ⟨_, _, rfl, e, h⟩
  · cases h with | dct e h => exact ⟨_, _, rfl, .inl e, h⟩
theorem Br.scr {ns : List Int} (h : Br K B H v (.scr ns)) : ∃ a, v = .ref a ∧ SqL K H a (ns.map V.int) := by
  rcases h with h | ⟨p, rfl, h⟩
  · cases h with
    | scr n e => exact ⟨_, rfl, .inl e⟩
    | scrK e => exact ⟨_, rfl, .inr e⟩
  · cases h
theorem BrL.one {ts : List T} {vs : List V} (h : BrL K B H vs ts) {t : T} (e : ts = [t]) : ∃ v, vs = [v] ∧ Br K B H v t := by
  subst e
  match vs, h with
  | [v], h => exact ⟨v, rfl, h.1⟩
theorem BrL.two {ts : List T} {vs : List V} (h : BrL K B H vs ts) {t u : T} (e : ts = [t, u]) : ∃ v w, vs = [v, w] ∧ Br K B H v t ∧ Br K B H w u := by
  subst e
  match vs, h with
  | [v, w], h => exact ⟨v, w, rfl, h.1, h.2.1⟩
theorem holds_new {a : Addr} {xs : List V} {ts : List T} (hp : H p = none) (h : AtL K B H xs ts) : Holds K (fun a => B a ∨ a = p) (upd H p (.lst xs)) p (.lst ts) :=
  .lst upd_same (h.keep ⟨fun a o _ nt e => by rw [upd_ne (ne_of_none e hp)]; exact e, fun a q => q.elim .inl fun z => .inr (z ▸ hp)⟩)
theorem same_new {o : HO} (hp : H p = none) : Same H (upd H p o) := fun a u e => by rw [upd_ne (ne_of_none e hp)]; exact e
/-- values that are kept (in a new object): names are set free -/
def ArV : List Ar → Option (List T)
  | [] => some []
  | .val t :: as => match ArV as with | some ts => some (t :: ts) | none => none
  | .var _ :: _ => none
theorem ar_vals : ∀ {as : List Ar} {vs : List V} {ts : List T}, ArOk K B H σ as vs → ArV as = some ts → AtL K B H vs ts
  | [], [], ts, _, e => by cases e; exact .nil
  | .val t :: as, v :: vs, ts, h, e => by
    unfold ArV at e
    cases q : ArV as with
    | none => rw [q] at e; cases e
    | some us => rw [q] at e; cases e; exact .cons h.1 (ar_vals h.2 q)
  | .var i :: as, _, _, _, e => by cases e
  | [], _ :: _, _, h, _ => h.elim
  | .val _ :: _, [], _, h, _ => h.elim
def pLst (pa : PA) : PE := fun env P => pa env fun as env' => match ArV as with
  | some ts => ts.length ≤ 1000000 ∧ P (.lst ts) env'
  | none => False
def pTup (pa : PA) : PE := fun env P => pa env fun as env' => match ArV as with
  | some ts => ts.length ≤ 1000000 ∧ P (.tup ts) env'
  | none => False
theorem million : 1000000 ≤ sizeLine := by decide
theorem rf_lst [h0 : Hist] {ta : TA} {pa : PA} (ha : RefA K ta pa) : RefF K (tLst ta) (pLst pa) := by
  intro O H σ env P Q R hp hq
  refine ha O H σ env _ _ R hp fun as env' vs H' p1 r1 s1 a1 => ?_
  cases e : ArV as with
  | none => rw [e] at p1; exact p1.elim
  | some ts =>
    rw [e] at p1
    have al := ar_vals a1 e
    refine ⟨by rw [al.length]; exact Nat.le_trans p1.1 million, fun p hn => ?_⟩
    have sm : Same H' (upd H' p (.lst vs)) := same_new hn
    refine hq _ env' p _ p1.2 (r1.also hn sm (by rw [upd_same]; exact fun z => by cases z)) (s1.trans (.same sm)) ?_ ((holds_new (a := p) hn al).keep (.less fun a q => ?_) rfl)
    · cases q : H p with
      | none => rfl
      | some o => exact absurd hn (s1.dom p (by rw [q]; exact fun z => by cases z))
    · rcases q with (q | q) | q
      · exact .inl (.inl q)
      · exact .inr q
      · exact .inl (.inr q)
theorem rf_tup [h0 : Hist] {ta : TA} {pa : PA} (ha : RefA K ta pa) : RefE K (tTup ta) (pTup pa) := by
  intro O H σ env P Q R hp hq
  refine ha O H σ env _ _ R hp fun as env' vs H' p1 r1 s1 a1 => ?_
  cases e : ArV as with
  | none => rw [e] at p1; exact p1.elim
  | some ts =>
    rw [e] at p1
    have al := ar_vals a1 e
    refine ⟨by rw [al.length]; exact Nat.le_trans p1.1 million, fun p hn => ?_⟩
    have sm : Same H' (upd H' p (.tup vs)) := same_new hn
    exact hq _ env' _ _ p1.2 (r1.same sm) (s1.trans (.same sm)) (.tup (r1.fresh hn) (.inl upd_same) (al.keep (.same sm)))
def pTest (pe : PE) : PT := fun env P => pe env fun t env' => match t with | .bl b => P b env' | _ => False
theorem rf_test [h0 : Hist] {te : TE} {pe : PE} (he : RefE K te pe) : RefT K (tTest te) (pTest pe) := by
  intro O H σ env P Q R hp hq
  refine he O H σ env _ _ R hp fun t env' v H' p1 r1 s1 a1 => ?_
  cases t with
  | bl b => cases a1; exact ⟨b, rfl, hq b env' H' p1 r1 s1⟩
  | _ => exact p1.elim
theorem rf_tB [h0 : Hist] {te : TE} {pe : PE} (he : RefE K te pe) : RefT K (tB te) (pTest pe) := rf_test he
def pAnd (c d : PT) : PT := fun env P => c env fun b env1 => if b = true then d env1 P else P false env1
def pOr (c d : PT) : PT := fun env P => c env fun b env1 => if b = true then P true env1 else d env1 P
def pNot (c : PT) : PT := fun env P => c env fun b env1 => P (!b) env1
theorem rf_and [h0 : Hist] {tc td : TT} {c d : PT} (hc : RefT K tc c) (hd : RefT K td d) : RefT K (tAnd tc td) (pAnd c d) := by
  intro O H σ env P Q R hp hq
  refine hc O H σ env _ _ R hp fun b env1 H1 p1 r1 s1 => ?_
  cases b with
  | true => exact (if_pos rfl).mpr (hd O H1 σ env1 _ _ r1 ((if_pos rfl).mp p1) fun b env2 H2 p2 r2 s2 => hq b env2 H2 p2 r2 (s1.trans s2))
  | false => exact (if_neg Bool.false_ne_true).mpr (hq _ env1 H1 ((if_neg Bool.false_ne_true).mp p1) r1 s1)
theorem rf_or [h0 : Hist] {tc td : TT} {c d : PT} (hc : RefT K tc c) (hd : RefT K td d) : RefT K (tOr tc td) (pOr c d) := by
  intro O H σ env P Q R hp hq
  refine hc O H σ env _ _ R hp fun b env1 H1 p1 r1 s1 => ?_
  cases b with
  | true => exact (if_pos rfl).mpr (hq _ env1 H1 ((if_pos rfl).mp p1) r1 s1)
  | false => exact (if_neg Bool.false_ne_true).mpr (hd O H1 σ env1 _ _ r1 ((if_neg Bool.false_ne_true).mp p1) fun b env2 H2 p2 r2 s2 => hq b env2 H2 p2 r2 (s1.trans s2))
theorem rf_not [h0 : Hist] {tc : TT} {c : PT} (hc : RefT K tc c) : RefT K (tNot tc) (pNot c) := by
  intro O H σ env P Q R hp hq
  exact hc O H σ env _ _ R hp fun b env1 H1 p1 r1 s1 => hq _ env1 H1 p1 r1 s1
def pAndV (a b : PE) : PE := fun env P => a env fun t env1 => match t with | .bl c => (if c = true then b env1 P else P (.bl false) env1) | _ => False
def pOrV (a b : PE) : PE := fun env P => a env fun t env1 => match t with | .bl c => (if c = true then P (.bl true) env1 else b env1 P) | _ => False
def pIfE (c : PT) (a b : PE) : PE := fun env P => c env fun k env1 => if k = true then a env1 P else b env1 P
theorem rf_andV [h0 : Hist] {ta tb : TE} {a b : PE} (ha : RefE K ta a) (hb : RefE K tb b) : RefE K (tAndV ta tb) (pAndV a b) := by
  intro O H σ env P Q R hp hq
  refine ha O H σ env _ _ R hp fun t env1 v H1 p1 r1 s1 a1 => ?_
  cases t with
  | bl c =>
    cases a1
    refine ⟨c, rfl, ?_⟩
    cases c with
    | true => exact (if_pos rfl).mpr (hb O H1 σ env1 _ _ r1 ((if_pos rfl).mp p1) fun t env2 v H2 p2 r2 s2 a2 => hq t env2 v H2 p2 r2 (s1.trans s2) a2)
    | false => exact (if_neg Bool.false_ne_true).mpr (hq _ env1 _ H1 ((if_neg Bool.false_ne_true).mp p1) r1 s1 (.bl _))
  | _ => exact p1.elim
theorem rf_orV [h0 : Hist] {ta tb : TE} {a b : PE} (ha : RefE K ta a) (hb : RefE K tb b) : RefE K (tOrV ta tb) (pOrV a b) := by
  intro O H σ env P Q R hp hq
  refine ha O H σ env _ _ R hp fun t env1 v H1 p1 r1 s1 a1 => ?_
  cases t with
  | bl c =>
    cases a1
    refine ⟨c, rfl, ?_⟩
    cases c with
    | false => exact (if_neg Bool.false_ne_true).mpr (hb O H1 σ env1 _ _ r1 ((if_neg Bool.false_ne_true).mp p1) fun t env2 v H2 p2 r2 s2 a2 => hq t env2 v H2 p2 r2 (s1.trans s2) a2)
    | true => exact (if_pos rfl).mpr (hq _ env1 _ H1 ((if_pos rfl).mp p1) r1 s1 (.bl _))
  | _ => exact p1.elim
theorem rf_ifE [h0 : Hist] {tc : TT} {c : PT} {ta tb : TE} {a b : PE} (hc : RefT K tc c) (ha : RefE K ta a) (hb : RefE K tb b) : RefE K (tIf tc ta tb) (pIfE c a b) := by
  intro O H σ env P Q R hp hq
  refine hc O H σ env _ _ R hp fun k env1 H1 p1 r1 s1 => ?_
  cases k with
  | true => exact (if_pos rfl).mpr (ha O H1 σ env1 _ _ r1 ((if_pos rfl).mp p1) fun t env2 v H2 p2 r2 s2 a2 => hq t env2 v H2 p2 r2 (s1.trans s2) a2)
  | false => exact (if_neg Bool.false_ne_true).mpr (hb O H1 σ env1 _ _ r1 ((if_neg Bool.false_ne_true).mp p1) fun t env2 v H2 p2 r2 s2 a2 => hq t env2 v H2 p2 r2 (s1.trans s2) a2)
/-- a < b < c -/
def pChain (rp rp' : OpT) (a b c : PE) : PE := fun env P => a env fun t env1 => b env1 fun u env2 => rp [t, u] fun z => match z with
  | .bl k => if k = true then c env2 fun w env3 => rp' [u, w] fun y => P y env3 else P (.bl false) env2
  | _ => False
theorem rf_chain [h0 : Hist] {r r' : R2} {rp rp' : OpT} {ta tb tc : TE} {a b c : PE} (o : OpOk K (r2 r) rp) (o' : OpOk K (r2 r') rp') (ha : RefE K ta a) (hb : RefE K tb b) (hc : RefE K tc c) : RefE K (tChain r r' ta tb tc) (pChain rp rp' a b c) := by
  intro O H σ env P Q R hp hq
  refine ha O H σ env _ _ R hp fun t env1 v H1 p1 r1 s1 a1 => ?_
  refine hb O H1 σ env1 _ _ r1 p1 fun u env2 w H2 p2 r2' s2 a2 => ?_
  refine o _ H2 [v, w] [t, u] _ _ (fun a q => r2'.bdom q) ⟨.inl (a1.keep s2.stb), .inl a2, trivial⟩ p2 fun z x H3 p3 sm a3 => ?_
  cases z with
  | bl k =>
    cases a3
    refine ⟨k, rfl, ?_⟩
    have r3 := r2'.same sm
    have s3 := s1.trans (s2.trans (.same sm))
    cases k with
    | true =>
      refine (if_pos rfl).mpr (hc O H3 σ env2 _ _ r3 ((if_pos rfl).mp p3) fun y env4 x4 H4 p4 r4 s4 a4 => ?_)
      exact o' _ H4 [w, x4] [u, y] _ _ (fun a q => r4.bdom q) ⟨.inl ((a2.keep (.same sm)).keep s4.stb), .inl a4, trivial⟩ p4 fun t5 x5 H5 p5 sm5 a5 => hq t5 env4 x5 H5 p5 (r4.same sm5) ((s3.trans s4).trans (.same sm5)) a5
    | false => exact (if_neg Bool.false_ne_true).mpr (hq _ env2 _ H3 ((if_neg Bool.false_ne_true).mp p3) r3 s3 (.bl _))
  | _ => exact p3.elim
abbrev PO := Env → (Option Int → Env → Prop) → Prop
def RefO [h0 : Hist] (K : PySem.W.Frag) (to : TO) (po : PO) : Prop := ∀ (O : Addr → Prop) (H : Hp) (σ : L2.St) (env : Env) (P : Option Int → Env → Prop) (Q : Option Int → Hp → Prop), Rel K O H σ env → po env P →
  (∀ b env' H', P b env' → Rel K O H' σ env' → Stp env H env' H' → Q b H') → to σ H Q
def pNoPart : PO := fun env P => P none env
def pPart (pe : PE) : PO := fun env P => pe env fun t env' => match t with | .int i => P (some i) env' | _ => False
theorem rf_noPart [h0 : Hist] : RefO K tNoPart pNoPart := fun O H σ env P Q R hp hq => hq none env H hp R (.refl _ _)
theorem rf_part [h0 : Hist] {te : TE} {pe : PE} (he : RefE K te pe) : RefO K (tPart te) (pPart pe) := by
  intro O H σ env P Q R hp hq
  refine he O H σ env _ _ R hp fun t env' v H' p1 r1 s1 a1 => ?_
  cases t with
  | int b => cases a1; exact ⟨b, rfl, hq _ env' H' p1 r1 s1⟩
  | _ => exact p1.elim
end
end Pu

namespace Pu
open PySem PySem.Spec PyProof.Rows L2 He Hk
def valT (kvs : List (Key × T)) (k : Key) : Option T := (kvs.find? fun kv => decide (kv.1 = k)).map (·.2)
def putT (kvs : List (Key × T)) (k : Key) (v : T) : List (Key × T) :=
  if (kvs.any fun kv => decide (kv.1 = k)) = true then kvs.map (fun kv => if kv.1 = k then (kv.1, v) else kv) else kvs ++ [(k, v)]
def mergeT (kvs more : List (Key × T)) : List (Key × T) := more.foldl (fun acc kv => putT acc kv.1 kv.2) kvs
def dropT (kvs : List (Key × T)) (k : Key) : List (Key × T) := kvs.filter fun kv => decide (kv.1 ≠ k)
def keyT : T → Option Key
  | .int i => some (.inl i)
  | .str z => some (.inr z)
  | _ => none
def kT : Key → T
  | .inl i => .int i
  | .inr z => .str z
def cutT (xs : List T) (lo hi : Option Int) : List T := (xs.drop (HT.sIx xs.length 0 lo)).take (HT.sIx xs.length xs.length hi - HT.sIx xs.length 0 lo)
section
variable {K : PySem.W.Frag} {O B B' : Addr → Prop} {H H' H1 H2 : Hp} {env env' env1 env2 : Env} {σ : L2.St} {p : Addr} {v : V} {t : T} {fr : Bool}
theorem AtK.val : ∀ {kvs : List (Key × V)} {ts : List (Key × T)} {k : Key} {t : T}, AtK K B H kvs ts → valT ts k = some t → ∃ v, valV kvs k = some v ∧ At K B H v t
  | _, _, k, t, .nil, e => by cases e
  | _, _, k, t, .cons (k := k') (x := x) (t := t') h r, e => by
    unfold valT at e
    unfold valV
    rw [List.find?_cons] at e ⊢
    by_cases c : k' = k
    · simp only [c, decide_true] at e ⊢; cases e; exact ⟨x, rfl, h⟩
    · simp only [c, decide_false] at e ⊢; exact AtK.val r e
theorem AtK.val_none : ∀ {kvs : List (Key × V)} {ts : List (Key × T)} {k : Key}, AtK K B H kvs ts → valT ts k = none → valV kvs k = none
  | _, _, k, .nil, e => rfl
  | _, _, k, .cons (k := k') (x := x) (t := t') h r, e => by
    unfold valT at e
    unfold valV
    rw [List.find?_cons] at e ⊢
    by_cases c : k' = k
    · simp only [c, decide_true] at e; cases e
    · simp only [c, decide_false] at e ⊢; exact AtK.val_none r e
theorem AtK.any {k : Key} : ∀ {kvs : List (Key × V)} {ts : List (Key × T)}, AtK K B H kvs ts → (kvs.any fun kv => decide (kv.1 = k)) = ts.any fun kv => decide (kv.1 = k)
  | _, _, .nil => rfl
  | _, _, .cons h r => by rw [List.any_cons, List.any_cons, r.any]
theorem AtK.app : ∀ {xs ys : List (Key × V)} {ts us : List (Key × T)}, AtK K B H xs ts → AtK K B H ys us → AtK K B H (xs ++ ys) (ts ++ us)
  | _, _, _, _, .nil, s => s
  | _, _, _, _, .cons h r, s => .cons h (r.app s)
theorem AtK.rep {k : Key} (hv : At K B H v t) : ∀ {kvs : List (Key × V)} {ts : List (Key × T)}, AtK K B H kvs ts → AtK K B H (kvs.map fun kv => if kv.1 = k then (kv.1, v) else kv) (ts.map fun kv => if kv.1 = k then (kv.1, t) else kv)
  | _, _, .nil => .nil
  | _, _, .cons (k := k') (x := x) (t := t') h r => by
    rw [List.map_cons, List.map_cons]
    by_cases c : k' = k
    · rw [if_pos c, if_pos c]; exact .cons hv (AtK.rep hv r)
    · rw [if_neg c, if_neg c]; exact .cons h (AtK.rep hv r)
theorem AtK.put {k : Key} {kvs : List (Key × V)} {ts : List (Key × T)} (h : AtK K B H kvs ts) (hv : At K B H v t) : AtK K B H (putK kvs k v) (putT ts k t) := by
  unfold putK putT
  rw [h.any]
  split
  · exact h.rep hv
  · exact h.app (.cons hv .nil)
theorem AtK.merge : ∀ {more : List (Key × V)} {ms : List (Key × T)} {kvs : List (Key × V)} {ts : List (Key × T)}, AtK K B H more ms → AtK K B H kvs ts → AtK K B H (mergeK kvs more) (mergeT ts ms)
  | _, _, _, _, .nil, h => h
  | (_ :: more), (_ :: ms), _, _, .cons hx r, h => AtK.merge (more := more) (ms := ms) r (h.put hx)
theorem AtK.drop {k : Key} : ∀ {kvs : List (Key × V)} {ts : List (Key × T)}, AtK K B H kvs ts → AtK K B H (dropK kvs k) (dropT ts k)
  | _, _, .nil => .nil
  | _, _, .cons (k := k') (x := x) (t := t') h r => by
    unfold dropK dropT
    rw [List.filter_cons, List.filter_cons]
    by_cases c : k' = k
    · simp only [c, ne_eq, not_true, decide_false]; exact AtK.drop r
    · simp only [c, ne_eq, not_false_eq_true, decide_true, if_true]; exact .cons h (AtK.drop r)
theorem at_key {k : Key} (h : Br K B H v t) (e : keyT t = some k) : v = kV k := by
  cases t with
  | int i => cases e; exact h.int
  | str z => cases e; exact h.str
  | _ => cases e
theorem AtL.cut {xs : List V} {ts : List T} (h : AtL K B H xs ts) (lo hi : Option Int) : AtL K B H (cutV xs lo hi) (cutT ts lo hi) := by
  unfold cutV cutT
  rw [h.length]
  exact (h.drop _).take _
theorem AtL.at {xs : List V} {ts : List T} {i : Int} {t : T} (h : AtL K B H xs ts) (e : atI ts i = some t) : ∃ v, atI xs i = some v ∧ At K B H v t := by
  unfold atI at e ⊢
  rw [h.length]
  cases q : ixN ts.length i with
  | none => rw [q] at e; cases e
  | some j => rw [q] at e; exact h.get' e
def oAdd : OpT
  | [.int i, .int j], P => P (.int (i + j))
  | [.str a, .str b], P => a.length + b.length ≤ 16000000 ∧ P (.str (a ++ b))
  | [.lst a, .lst b], P => a.length + b.length ≤ 1000000 ∧ P (.lst (a ++ b))
  | [.tup a, .tup b], P => a.length + b.length ≤ 1000000 ∧ P (.tup (a ++ b))
  | _, _ => False
theorem line16 : 16000000 ≤ sizeLine := by decide
theorem OpOk.pair {r : R2} {rp : OpT} (h : ∀ (B : Addr → Prop) (H : Hp) (v w : V) (t u : T) (P : T → Prop) (Q : VK), (∀ a, B a → H a ≠ none) → Br K B H v t → Br K B H w u → rp [t, u] P → (∀ t v H', P t → Same H H' → At K B H' v t → Q v H') → r v w H Q)
    (h2 : ∀ ts P, rp ts P → ∃ t u, ts = [t, u]) : OpOk K (r2 r) rp := by
  intro B H vs ts P Q hB hb hp hq
  obtain ⟨t, u, rfl⟩ := h2 ts P hp
  obtain ⟨v, w, rfl, b1, b2⟩ := hb.two rfl
  exact h B H v w t u P Q hB b1 b2 hp hq
theorem OpOk.uno {r : List V → Hp → VK → Prop} {rp : OpT} (h : ∀ (B : Addr → Prop) (H : Hp) (v : V) (t : T) (P : T → Prop) (Q : VK), (∀ a, B a → H a ≠ none) → Br K B H v t → rp [t] P → (∀ t v H', P t → Same H H' → At K B H' v t → Q v H') → r [v] H Q)
    (h2 : ∀ ts P, rp ts P → ∃ t, ts = [t]) : OpOk K r rp := by
  intro B H vs ts P Q hB hb hp hq
  obtain ⟨t, rfl⟩ := h2 ts P hp
  obtain ⟨v, rfl, b1⟩ := hb.one rfl
  exact h B H v t P Q hB b1 hp hq
theorem at_new {xs : List V} {ts : List T} (hB : ∀ a, B a → H a ≠ none) (hp : H p = none) (h : AtL K B H xs ts) : At K B (upd H p (.lst xs)) (.ref p) (.lst ts) :=
  .lst (fun z => hB p z hp) upd_same (h.keep (.same (same_new hp)))
theorem at_newT {xs : List V} {ts : List T} (hB : ∀ a, B a → H a ≠ none) (hp : H p = none) (h : AtL K B H xs ts) : At K B (upd H p (.tup xs)) (.ref p) (.tup ts) :=
  .tup (fun z => hB p z hp) (.inl upd_same) (h.keep (.same (same_new hp)))
theorem same_at (h : Br K B H v t) (ht : ∀ p, ¬ Holds K B H p t) : At K B H v t := by
  rcases h with h | ⟨p, _, h⟩
  · exact h
  · exact absurd h (ht p)
theorem ok_add : OpOk K (r2 (rAdd K)) oAdd := by
  refine OpOk.pair (fun B H v w t u P Q hB hv hw hp hq => ?_) fun ts P h => by unfold oAdd at h; split at h <;> first | exact ⟨_, _, rfl⟩ | exact h.elim
  unfold oAdd at hp
  split at hp
  · rename_i e; cases e
    cases hv.int; cases hw.int
    exact v_addI (hq _ _ H hp (Same.refl H) (.int _))
  · rename_i e; cases e
    cases hv.str; cases hw.str
    exact v_addT (Nat.le_trans hp.1 line16) (hq _ _ H hp.2 (Same.refl H) (.str _))
  · rename_i e; cases e
    obtain ⟨a, xs, rfl, ha, al⟩ := hv.lst
    obtain ⟨b, ys, rfl, hb, bl⟩ := hw.lst
    refine Or.inr (Or.inr (Or.inl ⟨a, b, xs, ys, rfl, rfl, ha, hb, by rw [al.length, bl.length]; exact Nat.le_trans hp.1 million, fun p hp' => hq _ _ _ hp.2 (same_new hp') (at_new hB hp' (al.append bl))⟩))
  · rename_i e; cases e
    have hv' := hv
    have hw' := hw
    obtain ⟨a, xs, rfl, ha, al⟩ := hv.tup
    obtain ⟨b, ys, rfl, hb, bl⟩ := hw.tup
    refine Or.inr (Or.inr (Or.inr ⟨a, b, xs, ys, rfl, rfl, ha, hb, by rw [al.length, bl.length]; exact Nat.le_trans hp.1 million, fun e => ?_, fun _ e => ?_, fun _ _ p hp' => hq _ _ _ hp.2 (same_new hp') (at_newT hB hp' (al.append bl))⟩))
    · subst e; cases al
      exact hq _ _ H hp.2 (Same.refl H) (same_at hw' fun p z => nomatch z)
    · subst e; cases bl
      rw [List.append_nil] at hp
      exact hq _ _ H hp.2 (Same.refl H) (same_at hv' fun p z => nomatch z)
  · exact hp.elim
/-- two numbers -/
def oI (C : Int → Int → Prop) (f : Int → Int → T) : OpT
  | [.int i, .int j], P => C i j ∧ P (f i j)
  | _, _ => False
theorem ok_I {C : Int → Int → Prop} {f : Int → Int → V} {g : Int → Int → T} (hf : ∀ i j B H, At K B H (f i j) (g i j)) : OpOk K (r2 (rI C f)) (oI C g) := by
  refine OpOk.pair (fun B H v w t u P Q hB hv hw hp hq => ?_) fun ts P h => by unfold oI at h; split at h <;> first | exact ⟨_, _, rfl⟩ | exact h.elim
  unfold oI at hp
  split at hp
  · rename_i e; cases e
    cases hv.int; cases hw.int
    exact ⟨_, _, rfl, rfl, hp.1, hq _ _ H hp.2 (Same.refl H) (hf _ _ _ _)⟩
  · exact hp.elim
def oI0 (f : Int → Int → T) : OpT
  | [.int i, .int j], P => P (f i j)
  | _, _ => False
theorem ok_I0 {f : Int → Int → V} {g : Int → Int → T} (hf : ∀ i j B H, At K B H (f i j) (g i j)) : OpOk K (r2 (rI0 f)) (oI0 g) := by
  refine OpOk.pair (fun B H v w t u P Q hB hv hw hp hq => ?_) fun ts P h => by unfold oI0 at h; split at h <;> first | exact ⟨_, _, rfl⟩ | exact h.elim
  unfold oI0 at hp
  split at hp
  · rename_i e; cases e
    cases hv.int; cases hw.int
    exact ⟨_, _, rfl, rfl, hq _ _ H hp (Same.refl H) (hf _ _ _ _)⟩
  · exact hp.elim
def oSub : OpT := oI0 fun i j => .int (i - j)
def oDiv : OpT := oI (fun _ j => 0 < j ∧ j < 18446744073709551616) fun i j => .int (i / j)
def oMod : OpT := oI (fun _ j => 0 < j) fun i j => .int (i % j)
def oPow : OpT := oI (fun i j => 0 ≤ j ∧ j ≤ 1000000 ∧ -18446744073709551616 < i ∧ i < 18446744073709551616) fun i j => .int (i ^ j.toNat)
def oGt : OpT := oI0 fun i j => .bl (decide (j < i))
theorem ok_sub : OpOk K (r2 Hk.rSub) oSub := ok_I0 fun _ _ _ _ => .int _
theorem ok_mod : OpOk K (r2 rMod) oMod := ok_I fun _ _ _ _ => .int _
theorem ok_gt : OpOk K (r2 rGtI) oGt := ok_I0 fun _ _ _ _ => .bl _
theorem ok_div : OpOk K (r2 rDiv) oDiv := by
  refine OpOk.pair (fun B H v w t u P Q hB hv hw hp hq => ?_) fun ts P h => by unfold oDiv oI at h; split at h <;> first | exact ⟨_, _, rfl⟩ | exact h.elim
  unfold oDiv oI at hp
  split at hp
  · rename_i e; cases e
    cases hv.int; cases hw.int
    exact v_div (s_div hp.1.1 hp.1.2) (hq _ _ H hp.2 (Same.refl H) (.int _))
  · exact hp.elim
theorem ok_pow : OpOk K (r2 rPow) oPow := by
  refine OpOk.pair (fun B H v w t u P Q hB hv hw hp hq => ?_) fun ts P h => by unfold oPow oI at h; split at h <;> first | exact ⟨_, _, rfl⟩ | exact h.elim
  unfold oPow oI at hp
  split at hp
  · rename_i e; cases e
    cases hv.int; cases hw.int
    exact v_pow (s_pow hp.1.1 hp.1.2.1 hp.1.2.2) (hq _ _ H hp.2 (Same.refl H) (.int _))
  · exact hp.elim
def oMul : OpT
  | [.int i, .int j], P => CMulW i j ∧ P (.int (i * j))
  | [.str z, .int k], P => (-1000 < k ∧ k < 1000 ∧ z.length ≤ 1000) ∧ P (.str (Txt.mul z k))
  | [.lst xs, .int k], P => (0 ≤ k ∧ k < 1000 ∧ xs.length ≤ 1000) ∧ P (.lst (List.replicate k.toNat xs).flatten)
  | _, _ => False
theorem ok_mul : OpOk K (r2 (rMulX K)) oMul := by
  refine OpOk.pair (fun B H v w t u P Q hB hv hw hp hq => ?_) fun ts P h => by unfold oMul at h; split at h <;> first | exact ⟨_, _, rfl⟩ | exact h.elim
  unfold oMul at hp
  split at hp
  · rename_i e; cases e
    cases hv.int; cases hw.int
    exact Or.inl (v_mulI hp.1 (hq _ _ H hp.2 (Same.refl H) (.int _)))
  · rename_i e; cases e
    cases hv.str; cases hw.int
    exact Or.inr ⟨_, _, rfl, rfl, hp.1.2.1, hp.1.1, hp.1.2.2, hq _ _ H hp.2 (Same.refl H) (.str _)⟩
  · rename_i e; cases e
    obtain ⟨a, xs, rfl, ha, al⟩ := hv.lst
    cases hw.int
    obtain ⟨h1, h2, h3⟩ := hp.1
    exact Or.inl (Or.inr ⟨a, _, xs, rfl, rfl, ha, by omega, by omega, Nat.le_trans (Nat.mul_le_mul (show xs.length ≤ 1000 by rw [al.length]; exact h3) (show _ ≤ 1000 by omega)) million, fun p hp' => hq _ _ _ hp.2 (same_new hp') (at_new hB hp' (al.rep _))⟩)
  · exact hp.elim
def oLt : OpT
  | [.int i, .int j], P => P (.bl (decide (i < j)))
  | [.str a, .str b], P => P (.bl (decide (a.cps.toList < b.cps.toList)))
  | _, _ => False
theorem ok_lt : OpOk K (r2 rLtU) oLt := by
  refine OpOk.pair (fun B H v w t u P Q hB hv hw hp hq => ?_) fun ts P h => by unfold oLt at h; split at h <;> first | exact ⟨_, _, rfl⟩ | exact h.elim
  unfold oLt at hp
  split at hp
  · rename_i e; cases e
    cases hv.int; cases hw.int
    exact v_lt (hq _ _ H hp (Same.refl H) (.bl _))
  · rename_i e; cases e
    cases hv.str; cases hw.str
    exact Or.inr ⟨_, _, rfl, rfl, hq _ _ H hp (Same.refl H) (.bl _)⟩
  · exact hp.elim
end
end Pu

namespace Hk
open PySem PySem.Spec PyProof.Rows L2 He
section
variable {X : Cx}
mutual
theorem dp_plain {K : PySem.W.Frag} {H : Hp} : ∀ {v : V} {d : PyData}, Dp K H v d → d.plain = true
  | _, _, .non => rfl
  | _, _, .bl _ => rfl
  | _, _, .int _ => rfl
  | _, _, .str _ => rfl
  | _, _, .lst _ h => dpAll_plain h
  | _, _, .tup _ h => dpAll_plain h
theorem dpAll_plain {K : PySem.W.Frag} {H : Hp} : ∀ {v : List V} {d : List PyData}, DpAll K H v d → PyData.plainAll d = true
  | _, _, .nil => rfl
  | _, _, .cons (d := d) (ds := ds) h r => by
    show (d.plain && PyData.plainAll ds) = true
    rw [dp_plain h, dpAll_plain r]; rfl
end
def rEqP (K : PySem.W.Frag) : R2 := fun x y H Q => ∃ d e, Dp K H x d ∧ Dp K H y e ∧ d.depth ≤ 64 ∧ Q (.bl (PyData.eqv d e)) H
def rNeP (K : PySem.W.Frag) : R2 := fun x y H Q => ∃ d e, Dp K H x d ∧ Dp K H y e ∧ d.depth ≤ 64 ∧ Q (.bl (!PyData.eqv d e)) H
theorem op_eqP (hu : X.A.units + 64 < cLine) : OpR X (compareOp .Eq) (rEqP X.K) := by
  intro pins s σ H x y v u Q I rx ry h
  obtain ⟨d, e, hd, he, hdp, q⟩ := h
  obtain ⟨as, r1⟩ := Dp.reads I d x v hd rx
  obtain ⟨bs, r2⟩ := Dp.reads I e y u he ry
  exact SeqAt.eq_plain r1 r2 (dp_plain hd) (dp_plain he) (by have := Nat.min_le_left d.depth e.depth; omega) ⟨.bl _, H, I, rfl, q⟩
theorem op_neP (hu : X.A.units + 64 < cLine) : OpR X (compareOp .NotEq) (rNeP X.K) := by
  intro pins s σ H x y v u Q I rx ry h
  obtain ⟨d, e, hd, he, hdp, q⟩ := h
  obtain ⟨as, r1⟩ := Dp.reads I d x v hd rx
  obtain ⟨bs, r2⟩ := Dp.reads I e y u he ry
  exact SeqAt.ne_plain r1 r2 (dp_plain hd) (dp_plain he) (by have := Nat.min_le_left d.depth e.depth; omega) ⟨.bl _, H, I, rfl, q⟩
/-- xs == [], d == {}, t == () -/
def rEqE (K : PySem.W.Frag) : R2 := fun x y H Q => (∃ a b xs, x = .ref a ∧ y = .ref b ∧ H a = some (.lst xs) ∧ H b = some (.lst []) ∧ Q (.bl xs.isEmpty) H) ∨
  (∃ a b kvs, x = .ref a ∧ y = .ref b ∧ Rd H a (.dK kvs) ∧ Rd H b (.dK []) ∧ Q (.bl kvs.isEmpty) H) ∨ ∃ a b xs, x = .ref a ∧ y = .ref b ∧ SqT K H a xs ∧ SqT K H b [] ∧ Q (.bl xs.isEmpty) H
def rNeE3 (K : PySem.W.Frag) : R2 := fun x y H Q => ∃ a b xs, x = .ref a ∧ y = .ref b ∧ SqT K H a xs ∧ SqT K H b [] ∧ Q (.bl (!xs.isEmpty)) H
theorem op_eqE (hu : X.A.units + 64 < cLine) : OpR X (compareOp .Eq) (rEqE X.K) := by
  intro pins s σ H x y v u Q I rx ry h
  rcases h with ⟨a, b, xs, rfl, rfl, ha, hb, q⟩ | ⟨a, b, kvs, rfl, rfl, ha, hb, q⟩ | ⟨a, b, xs, rfl, rfl, ha, hb, q⟩
  · cases rx
    cases ry
    obtain ⟨_, its, n, r, hl, e⟩ := I.lstM ha
    obtain ⟨_, its2, n2, r2, hl2, e2⟩ := I.lstM hb
    cases its2 with
    | cons _ _ => cases hl2
    | nil =>
      have la : s.heap.IsList a its.toArray := PySem.IsL.isList e
      have lb : s.heap.IsList b (#[] : Array Value) := PySem.IsL.isList e2
      cases xs with
      | nil =>
        cases its with
        | cons _ _ => cases hl
        | nil => exact SeqAt.RcAt.lists (e := fun _ => true) la lb rfl (by omega) (fun j h1 _ => absurd h1 (Nat.not_lt_zero _)) X.prog X.w _ _ ⟨.bl true, H, I, rfl, q⟩
      | cons x xs =>
        refine SeqAt.RcAt.lists_lengths la lb ?_ (by omega) X.prog X.w _ _ ⟨.bl false, H, I, rfl, q⟩
        rw [List.size_toArray, ← hl]
        rfl
  · cases rx
    cases ry
    obtain ⟨_, lo, vs, rel, dd⟩ := ha.ok I.hok
    obtain ⟨_, lo2, vs2, rel2, dd2⟩ := hb.ok I.hok
    have e1 : kvs.length = vs.length := Paired.length rel
    have e2 : 0 = vs2.length := Paired.length rel2
    cases vs2 with
    | cons _ _ => cases e2
    | nil =>
      cases kvs with
      | nil =>
        cases vs with
        | cons _ _ => cases e1
        | nil => exact PySem.W.keq_eq (r := true) lo lo2 dd dd2 (by omega) (fun _ => .nil) ⟨.bl true, H, I, rfl, q⟩
      | cons p kvs =>
        cases vs with
        | nil => cases e1
        | cons p' vs => exact PySem.W.keq_eq (r := true) lo lo2 dd dd2 (by omega) (fun z => by cases z) ⟨.bl false, H, I, rfl, q⟩
  · cases rx
    cases ry
    obtain ⟨its, r1, p1, _⟩ := I.tuple ha
    obtain ⟨its2, r2, p2, _⟩ := I.tuple hb
    cases r2
    refine SeqAt.RcAt.tuples (e := fun _ => true) p1 p2 (by omega) (fun j h1 h2 => absurd h2 (Nat.not_lt_zero _)) X.prog X.w _ _ ?_
    have w : ((List.range (min its.toArray.size ([] : List Value).toArray.size)).all (fun _ => true) && its.toArray.size == ([] : List Value).toArray.size) = xs.isEmpty := by
      cases r1 <;> simp
    rw [w]
    exact ⟨.bl _, H, I, rfl, q⟩
theorem op_neE3 (hu : X.A.units + 64 < cLine) : OpR X (compareOp .NotEq) (rNeE3 X.K) := by
  intro pins s σ H x y v u Q I rx ry h
  obtain ⟨a, b, xs, rfl, rfl, ha, hb, q⟩ := h
  cases rx
  cases ry
  obtain ⟨its, r1, p1, _⟩ := I.tuple ha
  obtain ⟨its2, r2, p2, _⟩ := I.tuple hb
  cases r2
  refine SeqAt.RcNeAt.tuples (e := fun _ => true) p1 p2 (by omega) (fun j h1 h2 => absurd h2 (Nat.not_lt_zero _)) X.prog X.w _ _ ?_
  have w : (!((List.range (min its.toArray.size ([] : List Value).toArray.size)).all (fun _ => true) && its.toArray.size == ([] : List Value).toArray.size)) = !xs.isEmpty := by
    cases r1 <;> simp
  rw [w]
  exact ⟨.bl _, H, I, rfl, q⟩
def rEqY (K : PySem.W.Frag) : R2 := fun x y H Q => rEq x y H Q ∨ rEqP K x y H Q ∨ rEqE K x y H Q
theorem oEqY (hu : X.A.units + 64 < cLine) : OpR X (compareOp .Eq) (rEqY X.K) := OpR.or op_eq (OpR.or (op_eqP hu) (op_eqE hu))
def rNeY (K : PySem.W.Frag) : R2 := fun x y H Q => rNe x y H Q ∨ rNeP K x y H Q ∨ rNeE x y H Q ∨ rNeE3 K x y H Q
theorem oNeY (hu : X.A.units + 64 < cLine) : OpR X (compareOp .NotEq) (rNeY X.K) := OpR.or op_ne (OpR.or (op_neP hu) (OpR.or (op_neE hu) (op_neE3 hu)))
def rNotN : R2 := fun x y H Q => y = .non ∧ Q (.bl (!decide (x = .non))) H
def rLenX (K : PySem.W.Frag) : List V → Hp → VK → Prop := fun xs H Q => rLenU K xs H Q ∨ ∃ a kvs, xs = [V.ref a] ∧ Rd H a (.dK kvs) ∧ Q (.int kvs.length) H
theorem call_lenX : CallR X (.builtin "len") (rLenX X.K) := CallR.or call_lenU (by
  intro pins s σ H xs us Q I r h
  obtain ⟨a, kvs, rfl, ha, q⟩ := h
  obtain ⟨u, rfl, ru⟩ := vals1 r
  cases ru
  exact d_len I ha fun t s' I' => ⟨.int kvs.length, H, I', ⟨t, rfl⟩, q⟩)
end
end Hk

namespace Pu
open PySem PySem.Spec PyProof.Rows L2 He Hk
mutual
def T.toD : T → PyData
  | .bl b => .bool b
  | .int i => .int i
  | .str z => .str z
  | .lst xs => .list (T.toDs xs)
  | .tup xs => .tuple (T.toDs xs)
  | .dct kvs => .dict (T.toDk kvs)
  | _ => .none
def T.toDs : List T → List PyData
  | [] => []
  | t :: r => t.toD :: T.toDs r
def T.toDk : List (Key × T) → List (PyData × PyData)
  | [] => []
  | (k, t) :: r => (kD k, t.toD) :: T.toDk r
end
mutual
/-- none, truths, numbers, texts, lists, tuples, dicts alone; d: dicts too -/
def T.dat (d : Bool) : T → Bool
  | .non => true
  | .bl _ => true
  | .int _ => true
  | .str _ => true
  | .lst xs => T.datL d xs
  | .tup xs => T.datL d xs
  | .dct kvs => d && T.datK d kvs
  | _ => false
def T.datL (d : Bool) : List T → Bool
  | [] => true
  | t :: r => t.dat d && T.datL d r
def T.datK (d : Bool) : List (Key × T) → Bool
  | [] => true
  | (_, t) :: r => t.dat d && T.datK d r
end
section
variable {K : PySem.W.Frag} {O B B' : Addr → Prop} {H H' H1 H2 : Hp} {env env' env1 env2 : Env} {σ : L2.St} {p : Addr} {v : V} {t : T} {fr : Bool}
mutual
theorem At.dp : ∀ {v : V} {t : T}, At K B H v t → t.dat false = true → Dp K H v t.toD
  | _, _, .non, _ => .non
  | _, _, .bl b, _ => .bl b
  | _, _, .int i, _ => .int i
  | _, _, .str z, _ => .str z
  | _, _, .lst n e h, d => .lst (.inl (.inl e)) (AtL.dp h d)
  | _, _, .tup n e h, d => .tup (.inl e) (AtL.dp h d)
  | _, _, .tupK e h, d => .tup (.inr e) (AtL.dp h d)
  | _, _, .ty _, d => by cases d
  | _, _, .glo _, d => by cases d
  | _, _, .scr _ _, d => by cases d
  | _, _, .scrK _, d => by cases d
  | _, _, .dct _ _ _, d => by cases d
  | _, _, .ins _ _ _, d => by cases d
theorem AtL.dp : ∀ {v : List V} {t : List T}, AtL K B H v t → T.datL false t = true → DpAll K H v (T.toDs t)
  | _, _, .nil, _ => .nil
  | _, _, .cons h r, d => by
    obtain ⟨d1, d2⟩ := Bool.and_eq_true_iff.mp d
    exact .cons (At.dp h d1) (AtL.dp r d2)
end
theorem Br.dp (h : Br K B H v t) (d : t.dat false = true) : Dp K H v t.toD := by
  rcases h with h | ⟨p, rfl, h⟩
  · exact h.dp d
  · cases h with
    | lst e h => exact .lst (.inl (.inl e)) (h.dp d)
    | dct e h => cases d
    | ins e h => cases d
def eqS (t u : T) : Option Bool := match t with
  | .int i => (match u with | .int j => some (decide (i = j)) | .non => some false | .str _ => some false | _ => none)
  | .str a => (match u with | .str b => some (decide (a = b)) | .non => some false | .int _ => some false | .bl _ => some false | _ => none)
  | .bl a => (match u with | .bl b => some (decide (a = b)) | .non => some false | .str _ => some false | _ => none)
  | .non => (match u with | .non => some true | .int _ => some false | .str _ => some false | .bl _ => some false | _ => none)
  | .lst xs => (match u with | .lst [] => some xs.isEmpty | _ => none)
  | .tup xs => (match u with | .tup [] => some xs.isEmpty | _ => none)
  | .dct xs => (match u with | .dct [] => some xs.isEmpty | _ => none)
  | _ => none
def oEq : OpT
  | [t, u], P => match eqS t u with
    | some b => P (.bl b)
    | none => (t.dat false = true ∧ u.dat false = true ∧ t.toD.depth ≤ 64) ∧ P (.bl (PyData.eqv t.toD u.toD))
  | _, _ => False
def oNe : OpT
  | [t, u], P => match eqS t u with
    | some b => P (.bl (!b))
    | none => (t.dat false = true ∧ u.dat false = true ∧ t.toD.depth ≤ 64) ∧ P (.bl (!PyData.eqv t.toD u.toD))
  | _, _ => False
theorem isEmpty_l {α β : Type} {xs : List α} {ys : List β} (h : xs.length = ys.length) : xs.isEmpty = ys.isEmpty := by
  cases xs <;> cases ys <;> first | rfl | cases h
theorem eq_case {t u : T} {b : Bool} {w : V} (e : eqS t u = some b) (hv : Br K B H v t) (hw : Br K B H w u) : (scal v w = true ∧ decide (v = w) = b) ∨
    (∃ a c xs, v = .ref a ∧ w = .ref c ∧ H a = some (.lst xs) ∧ H c = some (.lst []) ∧ xs.isEmpty = b) ∨ (∃ a c kvs, v = .ref a ∧ w = .ref c ∧ Rd H a (.dK kvs) ∧ Rd H c (.dK []) ∧ kvs.isEmpty = b) ∨ ∃ a c xs, v = .ref a ∧ w = .ref c ∧ SqT K H a xs ∧ SqT K H c [] ∧ xs.isEmpty = b := by
  cases t with
  | int i =>
    cases hv.int
    cases u with
    | int j => cases hw.int; cases e; exact .inl ⟨rfl, by simp⟩
    | non => cases hw.non; cases e; exact .inl ⟨rfl, by simp⟩
    | str z => cases hw.str; cases e; exact .inl ⟨rfl, by simp⟩
    | _ => cases e
  | str i =>
    cases hv.str
    cases u with
    | int j => cases hw.int; cases e; exact .inl ⟨rfl, by simp⟩
    | non => cases hw.non; cases e; exact .inl ⟨rfl, by simp⟩
    | str z => cases hw.str; cases e; exact .inl ⟨rfl, by simp⟩
    | bl z => cases hw.bl; cases e; exact .inl ⟨rfl, by simp⟩
    | _ => cases e
  | bl i =>
    cases hv.bl
    cases u with
    | non => cases hw.non; cases e; exact .inl ⟨rfl, by simp⟩
    | str z => cases hw.str; cases e; exact .inl ⟨rfl, by simp⟩
    | bl z => cases hw.bl; cases e; exact .inl ⟨rfl, by simp⟩
    | _ => cases e
  | non =>
    cases hv.non
    cases u with
    | int j => cases hw.int; cases e; exact .inl ⟨rfl, by simp⟩
    | non => cases hw.non; cases e; exact .inl ⟨rfl, by simp⟩
    | str z => cases hw.str; cases e; exact .inl ⟨rfl, by simp⟩
    | bl z => cases hw.bl; cases e; exact .inl ⟨rfl, by simp⟩
    | _ => cases e
  | lst ts =>
    obtain ⟨a, xs, rfl, ha, al⟩ := hv.lst
    cases u with
    | lst us =>
      obtain ⟨c, ys, rfl, hc, cl⟩ := hw.lst
      cases us with
      | cons _ _ => cases e
      | nil => cases cl; cases e; exact .inr (.inl ⟨a, c, xs, rfl, rfl, ha, hc, isEmpty_l al.length⟩)
    | _ => cases e
  | tup ts =>
    obtain ⟨a, xs, rfl, ha, al⟩ := hv.tup
    cases u with
    | tup us =>
      obtain ⟨c, ys, rfl, hc, cl⟩ := hw.tup
      cases us with
      | cons _ _ => cases e
      | nil => cases cl; cases e; exact .inr (.inr (.inr ⟨a, c, xs, rfl, rfl, ha, hc, isEmpty_l al.length⟩))
    | _ => cases e
  | dct ts =>
    obtain ⟨a, xs, rfl, ha, al⟩ := hv.dct
    cases u with
    | dct us =>
      obtain ⟨c, ys, rfl, hc, cl⟩ := hw.dct
      cases us with
      | cons _ _ => cases e
      | nil => cases cl; cases e; exact .inr (.inr (.inl ⟨a, c, xs, rfl, rfl, ha, hc, isEmpty_l al.length⟩))
    | _ => cases e
  | _ => cases e
theorem ok_eq : OpOk K (r2 (rEqY K)) oEq := by
  refine OpOk.pair (fun B H v w t u P Q hB hv hw hp hq => ?_) fun ts P h => by unfold oEq at h; split at h <;> first | exact ⟨_, _, rfl⟩ | exact h.elim
  unfold oEq at hp
  dsimp only at hp
  cases e : eqS t u with
  | none =>
    rw [e] at hp
    exact .inr (.inl ⟨_, _, hv.dp hp.1.1, hw.dp hp.1.2.1, hp.1.2.2, hq _ _ H hp.2 (Same.refl H) (.bl _)⟩)
  | some b =>
    rw [e] at hp
    have q := hq _ _ H hp (Same.refl H) (.bl _)
    rcases eq_case e hv hw with ⟨h1, rfl⟩ | ⟨a, c, xs, rfl, rfl, h1, h2, rfl⟩ | ⟨a, c, xs, rfl, rfl, h1, h2, rfl⟩ | ⟨a, c, xs, rfl, rfl, h1, h2, rfl⟩
    · exact .inl ⟨h1, q⟩
    · exact .inr (.inr (.inl ⟨a, c, xs, rfl, rfl, h1, h2, q⟩))
    · exact .inr (.inr (.inr (.inl ⟨a, c, xs, rfl, rfl, h1, h2, q⟩)))
    · exact .inr (.inr (.inr (.inr ⟨a, c, xs, rfl, rfl, h1, h2, q⟩)))
theorem ok_ne : OpOk K (r2 (rNeY K)) oNe := by
  refine OpOk.pair (fun B H v w t u P Q hB hv hw hp hq => ?_) fun ts P h => by unfold oNe at h; split at h <;> first | exact ⟨_, _, rfl⟩ | exact h.elim
  unfold oNe at hp
  dsimp only at hp
  cases e : eqS t u with
  | none =>
    rw [e] at hp
    exact .inr (.inl ⟨_, _, hv.dp hp.1.1, hw.dp hp.1.2.1, hp.1.2.2, hq _ _ H hp.2 (Same.refl H) (.bl _)⟩)
  | some b =>
    rw [e] at hp
    have q := hq _ _ H hp (Same.refl H) (.bl _)
    rcases eq_case e hv hw with ⟨h1, rfl⟩ | ⟨a, c, xs, rfl, rfl, h1, h2, rfl⟩ | ⟨a, c, xs, rfl, rfl, h1, h2, rfl⟩ | ⟨a, c, xs, rfl, rfl, h1, h2, rfl⟩
    · exact .inl ⟨h1, q⟩
    · exact .inr (.inr (.inl (.inl ⟨a, c, xs, rfl, rfl, h1, h2, q⟩)))
    · exact .inr (.inr (.inl (.inr ⟨a, c, xs, rfl, rfl, h1, h2, q⟩)))
    · exact .inr (.inr (.inr ⟨a, c, xs, rfl, rfl, h1, h2, q⟩))
def flatT : T → Bool
  | .non => true
  | .bl _ => true
  | .int _ => true
  | .str _ => true
  | _ => false
def eqF : T → T → Bool
  | .non, .non => true
  | .bl a, .bl b => a == b
  | .bl a, .int b => (if a then 1 else 0) == b
  | .int a, .bl b => a == (if b then 1 else 0)
  | .int a, .int b => a == b
  | .str a, .str b => a == b
  | _, _ => false
def inT (x : T) (xs : List T) : Bool := xs.any fun y => eqF y x
theorem at_flat (h : At K B H v t) (f : flatT t = true) : flatV v = true := by
  cases h <;> first | rfl | exact absurd f Bool.false_ne_true
theorem at_eqF {w : V} {u : T} (h : At K B H v t) (h2 : At K B H w u) (f : flatT t = true) (f2 : flatT u = true) : eqV v w = eqF t u := by
  cases h <;> first | exact absurd f Bool.false_ne_true | (cases h2 <;> first | rfl | exact absurd f2 Bool.false_ne_true)
theorem atl_flat : ∀ {xs : List V} {ts : List T}, AtL K B H xs ts → ts.all flatT = true → xs.all flatV = true
  | _, _, .nil, _ => rfl
  | _, _, .cons h r, f => by
    rw [List.all_cons] at f ⊢
    obtain ⟨f1, f2⟩ := Bool.and_eq_true_iff.mp f
    rw [at_flat h f1, atl_flat r f2]; rfl
theorem atl_in {x : V} {u : T} (hx : At K B H x u) (fx : flatT u = true) : ∀ {xs : List V} {ts : List T}, AtL K B H xs ts → ts.all flatT = true → inV x xs = inT u ts
  | _, _, .nil, _ => rfl
  | _, _, .cons h r, f => by
    rw [List.all_cons] at f
    obtain ⟨f1, f2⟩ := Bool.and_eq_true_iff.mp f
    unfold inV inT
    rw [List.any_cons, List.any_cons, at_eqF h hx f1 fx]
    have := atl_in hx fx r f2
    unfold inV inT at this
    rw [this]
theorem br_flat (h : Br K B H v t) (f : flatT t = true) : At K B H v t := same_at h fun p z => by cases z <;> cases f
def oInG (neg : Bool) : OpT
  | [x, c], P => (match c with
    | .str z => (match x with | .str x => x.length = 1 ∧ P (.bl (neg ^^ decide (x.cps.getD 0 0 ∈ z.cps.toList))) | _ => False)
    | .lst xs => (flatT x = true ∧ xs.all flatT = true) ∧ P (.bl (neg ^^ inT x xs))
    | .tup xs => (flatT x = true ∧ xs.all flatT = true) ∧ P (.bl (neg ^^ inT x xs))
    | _ => False)
  | _, _ => False
def oIn : OpT := oInG false
def oNotIn : OpT := oInG true
theorem one_sign {x : Str} (h : x.length = 1) : x = ⟨#[x.cps.getD 0 0]⟩ := by
  obtain ⟨a⟩ := x
  have h' : a.size = 1 := h
  have e : a = #[a.getD 0 0] := by
    apply Array.ext
    · simpa using h'
    · intro i h1 h2
      have : i = 0 := by omega
      subst this
      simp [Array.getD, h']
  exact congrArg Str.mk e
theorem ok_in : OpOk K (r2 (rInU K)) oIn := by
  refine OpOk.pair (fun B H v w t u P Q hB hv hw hp hq => ?_) fun ts P h => by unfold oIn oInG at h; split at h <;> first | exact ⟨_, _, rfl⟩ | exact h.elim
  unfold oIn oInG at hp
  dsimp only at hp
  cases u with
  | str z =>
    cases t with
    | str x =>
      cases hv.str; cases hw.str
      have q := hq _ _ H hp.2 (Same.refl H) (.bl _)
      rw [Bool.false_xor] at q
      exact .inl ⟨_, _, congrArg V.str (one_sign hp.1), rfl, q⟩
    | _ => exact hp.elim
  | lst ts =>
    obtain ⟨a, xs, rfl, ha, al⟩ := hw.lst
    have av := br_flat hv hp.1.1
    have q := hq _ _ H hp.2 (Same.refl H) (.bl _)
    rw [Bool.false_xor, ← atl_in av hp.1.1 al hp.1.2] at q
    exact .inr ⟨a, xs, rfl, .inl (.inl (.inl ha)), at_flat av hp.1.1, atl_flat al hp.1.2, q⟩
  | tup ts =>
    obtain ⟨a, xs, rfl, ha, al⟩ := hw.tup
    have av := br_flat hv hp.1.1
    have q := hq _ _ H hp.2 (Same.refl H) (.bl _)
    rw [Bool.false_xor, ← atl_in av hp.1.1 al hp.1.2] at q
    exact .inr ⟨a, xs, rfl, .inr ha, at_flat av hp.1.1, atl_flat al hp.1.2, q⟩
  | _ => exact hp.elim
theorem ok_notIn : OpOk K (r2 (rNotInU K)) oNotIn := by
  refine OpOk.pair (fun B H v w t u P Q hB hv hw hp hq => ?_) fun ts P h => by unfold oNotIn oInG at h; split at h <;> first | exact ⟨_, _, rfl⟩ | exact h.elim
  unfold oNotIn oInG at hp
  dsimp only at hp
  cases u with
  | str z =>
    cases t with
    | str x =>
      cases hv.str; cases hw.str
      have q := hq _ _ H hp.2 (Same.refl H) (.bl _)
      rw [Bool.true_xor] at q
      exact .inl ⟨_, _, congrArg V.str (one_sign hp.1), rfl, q⟩
    | _ => exact hp.elim
  | lst ts =>
    obtain ⟨a, xs, rfl, ha, al⟩ := hw.lst
    have av := br_flat hv hp.1.1
    have q := hq _ _ H hp.2 (Same.refl H) (.bl _)
    rw [Bool.true_xor, ← atl_in av hp.1.1 al hp.1.2] at q
    exact .inr ⟨a, xs, rfl, .inl (.inl (.inl ha)), at_flat av hp.1.1, atl_flat al hp.1.2, q⟩
  | tup ts =>
    obtain ⟨a, xs, rfl, ha, al⟩ := hw.tup
    have av := br_flat hv hp.1.1
    have q := hq _ _ H hp.2 (Same.refl H) (.bl _)
    rw [Bool.true_xor, ← atl_in av hp.1.1 al hp.1.2] at q
    exact .inr ⟨a, xs, rfl, .inr ha, at_flat av hp.1.1, atl_flat al hp.1.2, q⟩
  | _ => exact hp.elim
def oIx : OpT
  | [.lst xs, .int i], P => match atI xs i with | some t => P t | none => False
  | [.tup xs, .int i], P => match atI xs i with | some t => P t | none => False
  | [.scr ns, .int i], P => match atI ns i with | some n => P (.int n) | none => False
  | [.str z, .int i], P => z.length ≤ 16000000 ∧ match atI z.cps.toList i with | some c => P (.str ⟨#[c]⟩) | none => False
  | _, _ => False
theorem atI_map {α β : Type} {f : α → β} {xs : List α} {i : Int} {x : α} (h : atI xs i = some x) : atI (xs.map f) i = some (f x) := by
  unfold atI at h ⊢
  rw [List.length_map]
  cases q : ixN xs.length i with
  | none => rw [q] at h; cases h
  | some j =>
    rw [q] at h
    show (xs.map f)[j]? = _
    rw [List.getElem?_map, show xs[j]? = some x from h]; rfl
theorem ok_ix : OpOk K (r2 (rIxU K)) oIx := by
  refine OpOk.pair (fun B H v w t u P Q hB hv hw hp hq => ?_) fun ts P h => by unfold oIx at h; split at h <;> first | exact ⟨_, _, rfl⟩ | exact h.elim
  unfold oIx at hp
  split at hp
  · rename_i e; cases e
    obtain ⟨a, xs, rfl, ha, al⟩ := hv.lst
    cases hw.int
    cases e : atI _ _ with
    | none => rw [e] at hp; exact hp.elim
    | some t =>
      rw [e] at hp
      obtain ⟨x, e1, e2⟩ := al.at e
      exact v_ixL ha e1 (hq _ _ H hp (Same.refl H) e2)
  · rename_i e; cases e
    obtain ⟨a, xs, rfl, ha, al⟩ := hv.tup
    cases hw.int
    cases e : atI _ _ with
    | none => rw [e] at hp; exact hp.elim
    | some t =>
      rw [e] at hp
      obtain ⟨x, e1, e2⟩ := al.at e
      exact Or.inr (Or.inl ⟨a, xs, _, x, rfl, rfl, ha, e1, hq _ _ H hp (Same.refl H) e2⟩)
  · rename_i e; cases e
    obtain ⟨a, rfl, ha⟩ := hv.scr
    cases hw.int
    cases e : atI _ _ with
    | none => rw [e] at hp; exact hp.elim
    | some t =>
      rw [e] at hp
      exact v_ixQ ha (atI_map e) (hq _ _ H hp (Same.refl H) (.int _))
  · rename_i e; cases e
    cases hv.str
    cases hw.int
    obtain ⟨h1, hp⟩ := hp
    cases e : atI _ _ with
    | none => rw [e] at hp; exact hp.elim
    | some t =>
      rw [e] at hp
      exact v_ixS (Nat.le_trans h1 line16) e (hq _ _ H hp (Same.refl H) (.str _))
  · exact hp.elim
def oSl : T → Option Int → Option Int → (T → Prop) → Prop
  | .lst xs, lo, hi, P => P (.lst (cutT xs lo hi))
  | .tup xs, lo, hi, P => P (.tup (cutT xs lo hi))
  | .str z, lo, hi, P => z.length ≤ 16000000 ∧ P (.str (cutS z lo hi))
  | _, _, _, _ => False
end
end Pu

namespace Pu
open PySem PySem.Spec PyProof.Rows L2 He Hk
section
variable {K : PySem.W.Frag} {O B B' : Addr → Prop} {H H' H1 H2 : Hp} {env env' env1 env2 : Env} {σ : L2.St} {p : Addr} {v : V} {t : T} {fr : Bool}
theorem ok_sl {lo hi : Option Int} {P : T → Prop} {Q : VK} (hB : ∀ a, B a → H a ≠ none) (hv : Br K B H v t) (hp : oSl t lo hi P) (hq : ∀ t v H', P t → Same H H' → At K B H' v t → Q v H') : rSlU K v lo hi H Q := by
  unfold oSl at hp
  split at hp
  · obtain ⟨a, xs, rfl, ha, al⟩ := hv.lst
    exact Or.inr (Or.inl ⟨a, xs, rfl, .inl (.inl ha), fun p hn => hq _ _ _ hp (same_new hn) (at_new hB hn (al.cut _ _))⟩)
  · have hv' := hv
    obtain ⟨a, xs, rfl, ha, al⟩ := hv.tup
    refine Or.inr (Or.inr ⟨a, xs, rfl, ha, fun ⟨z1, z2⟩ => ?_, fun _ p hn => hq _ _ _ hp (same_new hn) (at_newT hB hn (al.cut _ _))⟩)
    refine hq _ _ H hp (Same.refl H) ?_
    rename_i ts _
    have ec : cutT ts lo hi = ts := by
      unfold cutT
      rw [← al.length, z1, z2, List.drop_zero, al.length, Nat.sub_zero, List.take_length]
    rw [ec]
    exact same_at hv' fun p z => nomatch z
  · cases hv.str
    exact v_slS (Nat.le_trans hp.1 line16) (hq _ _ H hp.2 (Same.refl H) (.str _))
  · exact hp.elim
def pSl (pe : PE) (lo hi : PO) : PE := fun env P => pe env fun t env1 => lo env1 fun l env2 => hi env2 fun u env3 => oSl t l u fun z => P z env3
def pSlV (i : Nat) (lo hi : PO) : PE := fun env P => has env i ∧ lo env fun l env2 => hi env2 fun u env3 => match slotT env3[i]? with
  | some t => oSl t l u fun z => P z env3
  | none => False
theorem rf_sl [h0 : Hist] {te : TE} {tl th : TO} {pe : PE} {lo hi : PO} (he : RefE K te pe) (hl : RefO K tl lo) (hh : RefO K th hi) : RefE K (tSl (rSlU K) te tl th) (pSl pe lo hi) := by
  intro O H σ env P Q R hp hq
  refine he O H σ env _ _ R hp fun t env1 v H1 p1 r1 s1 a1 => ?_
  refine hl O H1 σ env1 _ _ r1 p1 fun l env2 H2 p2 r2 s2 => ?_
  refine hh O H2 σ env2 _ _ r2 p2 fun u env3 H3 p3 r3 s3 => ?_
  exact ok_sl (fun a q => r3.bdom q) (.inl (a1.keep (s2.trans s3).stb)) p3 fun z x H4 p4 sm a4 => hq z env3 x H4 p4 (r3.same sm) ((s1.trans (s2.trans s3)).trans (.same sm)) a4
theorem rf_slV [h0 : Hist] {i : Nat} {tl th : TO} {lo hi : PO} (hl : RefO K tl lo) (hh : RefO K th hi) : RefE K (tSl (rSlU K) (tVar i) tl th) (pSlV i lo hi) := by
  rintro O H σ env P Q R ⟨hs, hp⟩ hq
  obtain ⟨v, ev⟩ := R.has hs
  refine ⟨v, ev, ?_⟩
  refine hl O H σ env _ _ R hp fun l env2 H2 p2 r2 s2 => ?_
  refine hh O H2 σ env2 _ _ r2 p2 fun u env3 H3 p3 r3 s3 => ?_
  cases e : slotT env3[i]? with
  | none => rw [e] at p3; exact p3.elim
  | some t =>
    rw [e] at p3
    exact ok_sl (fun a q => r3.bdom q) (br_slot r3 ev e) p3 fun z x H4 p4 sm a4 => hq z env3 x H4 p4 (r3.same sm) ((s2.trans s3).trans (.same sm)) a4
def oLen : OpT
  | [t], P => (match t with
    | .lst xs => P (.int xs.length)
    | .tup xs => P (.int xs.length)
    | .dct xs => P (.int xs.length)
    | .scr ns => P (.int ns.length)
    | .str z => z.length ≤ 16000000 ∧ P (.int z.length)
    | _ => False)
  | _, _ => False
theorem ok_len : OpOk K (rLenX K) oLen := by
  refine OpOk.uno (fun B H v t P Q hB hv hp hq => ?_) fun ts P h => by unfold oLen at h; split at h <;> first | exact ⟨_, rfl⟩ | exact h.elim
  unfold oLen at hp
  dsimp only at hp
  cases t with
  | lst ts =>
    obtain ⟨a, xs, rfl, ha, al⟩ := hv.lst
    exact .inl (v_lenL ha (by rw [al.length]; exact hq _ _ H hp (Same.refl H) (.int _)))
  | tup ts =>
    obtain ⟨a, xs, rfl, ha, al⟩ := hv.tup
    exact .inl (Or.inl ⟨.ref a, xs.length, rfl, Or.inr ⟨xs, ha, rfl⟩, by rw [al.length]; exact hq _ _ H hp (Same.refl H) (.int _)⟩)
  | dct ts =>
    obtain ⟨a, xs, rfl, ha, al⟩ := hv.dct
    exact .inr ⟨a, xs, rfl, ha, by rw [al.length]; exact hq _ _ H hp (Same.refl H) (.int _)⟩
  | scr ns =>
    obtain ⟨a, rfl, ha⟩ := hv.scr
    exact .inl (v_lenQ ha (by rw [List.length_map]; exact hq _ _ H hp (Same.refl H) (.int _)))
  | str z =>
    cases hv.str
    exact .inl (v_lenS (Nat.le_trans hp.1 line16) (hq _ _ H hp.2 (Same.refl H) (.int _)))
  | _ => exact hp.elim
/-- the types that are asked for -/
def tyN : T → Option String
  | .non => some "NoneType"
  | .bl _ => some "bool"
  | .int _ => some "int"
  | .str _ => some "str"
  | .lst _ => some "list"
  | .scr _ => some "list"
  | .tup _ => some "tuple"
  | .dct _ => some "dict"
  | _ => none
def oIsi : OpT
  | [t, .ty n], P => match tyN t with | some a => (match kitB a n with | some b => P (.bl b) | none => False) | none => False
  | _, _ => False
theorem br_ty {a : String} (h : Br K B H v t) (e : tyN t = some a) : TyX K H v (.type a) := by
  cases t with
  | non => cases e; cases h.non; exact .base .non
  | bl b => cases e; cases h.bl; exact .base (.bl b)
  | int b => cases e; cases h.int; exact .base (.int b)
  | str b => cases e; cases h.str; exact .base (.str b)
  | lst ts => cases e; obtain ⟨p, xs, rfl, ha, al⟩ := h.lst; exact .base (.lst ha)
  | scr ts =>
    cases e
    obtain ⟨p, rfl, ha⟩ := h.scr
    rcases ha with (ha | ⟨o, ha⟩) | ⟨o, its, n, h1, h2, _⟩
    · exact .base (.lst ha)
    · exact .base (.frz ha)
    · exact .kList h1 h2
  | tup ts =>
    cases e
    obtain ⟨p, xs, rfl, ha, al⟩ := h.tup
    rcases ha with (ha | ⟨o, ha⟩) | ⟨o, its, n, h1, h2, _⟩
    · exact .base (.tup ha)
    · exact .fTuple ha
    · exact .kTuple h1 h2
  | dct ts =>
    cases e
    obtain ⟨p, xs, rfl, ha, al⟩ := h.dct
    rcases ha with ha | ⟨o, ha⟩
    · exact .base (.dK ha)
    · exact .fDict ha
  | _ => cases e
theorem ok_isi : OpOk K (rIsi K) oIsi := by
  intro B H vs ts P Q hB hb hp hq
  unfold oIsi at hp
  split at hp
  · rename_i _ t n
    obtain ⟨x, c, rfl, hx, hc⟩ := hb.two rfl
    cases hc.ty
    cases e : tyN t with
    | none => rw [e] at hp; exact hp.elim
    | some a =>
      rw [e] at hp
      dsimp only at hp
      cases e2 : kitB a n with
      | none => rw [e2] at hp; exact hp.elim
      | some b =>
        rw [e2] at hp
        exact ⟨x, .ty n, _, .type n, b, rfl, ClsV.ty n, br_ty hx e, kit_ty e2, hq _ _ H hp (Same.refl H) (.bl _)⟩
  · exact hp.elim
def strsT : List T → Option (List Str)
  | [] => some []
  | .str b :: r => match strsT r with | some bs => some (b :: bs) | none => none
  | _ => none
theorem at_strs : ∀ {xs : List V} {ts : List T} {bs : List Str}, AtL K B H xs ts → strsT ts = some bs → xs = bs.map V.str
  | _, _, _, .nil, e => by cases e; rfl
  | _, _, _, .cons (t := t) (ts := ts) h r, e => by
    cases t with
    | str b =>
      unfold strsT at e
      cases q : strsT ts with
      | none => rw [q] at e; cases e
      | some cs => rw [q] at e; cases e; cases h; rw [at_strs r q]; rfl
    | _ => cases e
theorem strs_map (bs : List Str) : strsT (bs.map T.str) = some bs := by
  induction bs with
  | nil => rfl
  | cons b r ih => show (match strsT (r.map T.str) with | some bs => some (b :: bs) | none => none) = _; rw [ih]
def oMax2 : OpT
  | [.int i, .int j], P => P (.int (if j > i then j else i))
  | _, _ => False
def oMin2 : OpT
  | [.int i, .int j], P => P (.int (if j < i then j else i))
  | _, _ => False
theorem ok_max2 : OpOk K rMax2 oMax2 := by
  intro B H vs ts P Q hB hb hp hq
  unfold oMax2 at hp
  split at hp
  · obtain ⟨x, c, rfl, hx, hc⟩ := hb.two rfl
    cases hx.int; cases hc.int
    exact v_max2 (hq _ _ H hp (Same.refl H) (.int _))
  · exact hp.elim
theorem ok_min2 : OpOk K rMin2 oMin2 := by
  intro B H vs ts P Q hB hb hp hq
  unfold oMin2 at hp
  split at hp
  · obtain ⟨x, c, rfl, hx, hc⟩ := hb.two rfl
    cases hx.int; cases hc.int
    exact v_min2 (hq _ _ H hp (Same.refl H) (.int _))
  · exact hp.elim
def oInt1 : OpT
  | [.int i], P => P (.int i)
  | [.bl b], P => P (.int (if b then 1 else 0))
  | _, _ => False
theorem ok_int1 : OpOk K rInt1 oInt1 := by
  intro B H vs ts P Q hB hb hp hq
  unfold oInt1 at hp
  split at hp
  · obtain ⟨x, rfl, hx⟩ := hb.one rfl
    cases hx.int
    exact .inl ⟨_, rfl, hq _ _ H hp (Same.refl H) (.int _)⟩
  · obtain ⟨x, rfl, hx⟩ := hb.one rfl
    cases hx.bl
    exact .inr ⟨_, rfl, hq _ _ H hp (Same.refl H) (.int _)⟩
  · exact hp.elim
def isNon : T → Bool
  | .non => true
  | _ => false
def oIsN : OpT
  | [t, .non], P => P (.bl (isNon t))
  | _, _ => False
def oNotN : OpT
  | [t, .non], P => P (.bl (!isNon t))
  | _, _ => False
theorem br_non (h : Br K B H v t) : decide (v = .non) = isNon t := by
  rcases h with h | ⟨p, rfl, h⟩
  · cases h <;> rfl
  · cases h <;> rfl
theorem ok_isN : OpOk K (r2 Hk.rIsN) oIsN := by
  intro B H vs ts P Q hB hb hp hq
  unfold oIsN at hp
  split at hp
  · obtain ⟨x, c, rfl, hx, hc⟩ := hb.two rfl
    cases hc.non
    exact ⟨rfl, by rw [br_non hx]; exact hq _ _ H hp (Same.refl H) (.bl _)⟩
  · exact hp.elim
theorem ok_notN : OpOk K (r2 (fun x y H Q => y = .non ∧ Q (.bl (!decide (x = .non))) H)) oNotN := by
  intro B H vs ts P Q hB hb hp hq
  unfold oNotN at hp
  split at hp
  · obtain ⟨x, c, rfl, hx, hc⟩ := hb.two rfl
    cases hc.non
    exact ⟨rfl, by rw [br_non hx]; exact hq _ _ H hp (Same.refl H) (.bl _)⟩
  · exact hp.elim
/-- ''.join(xs) -/
def oJoin : OpT
  | [.str a, .lst ts], P => match strsT ts with | some ys => (ys.map (·.length)).sum + ys.length * a.length ≤ 16777216 ∧ P (.str (Txt.join a ys)) | none => False
  | _, _ => False
/-- a method of a text -/
def pM (rp : OpT) (pe : PE) (pa : PA) : PE := fun env P => pe env fun t env1 => match t with
  | .str z => pa env1 fun as env2 => (match tsOf env2 as with | some ts => rp (.str z :: ts) fun u => P u env2 | none => False)
  | _ => False
theorem rf_mA [h0 : Hist] {r : V → List V → Hp → VK → Prop} {rp : OpT} {te : TE} {ta : TA} {pe : PE} {pa : PA} (o : OpOk K (rm r) rp) (he : RefE K te pe) (ha : RefA K ta pa) {G : V → Hp → Prop} (hg : ∀ z H, G (.str z) H) :
    RefE K (fun σ H Q => te σ H fun x H1 => G x H1 ∧ ta σ H1 fun xs H2 => r x xs H2 Q) (pM rp pe pa) := by
  intro O H σ env P Q R hp hq
  refine he O H σ env _ _ R hp fun t env1 v H1 p1 r1 s1 a1 => ?_
  cases t with
  | str z =>
    cases a1
    refine ⟨hg _ _, ?_⟩
    refine ha O H1 σ env1 _ _ r1 p1 fun as env2 vs H2 p2 r2 s2 a2 => ?_
    cases e : tsOf env2 as with
    | none => rw [e] at p2; exact p2.elim
    | some ts =>
      rw [e] at p2
      exact o _ H2 (.str z :: vs) (.str z :: ts) _ Q (fun a q => r2.bdom q) ⟨.inl (.str z), br_args r2 a2 e⟩ p2 fun t v H3 p3 sm a3 => hq t env2 v H3 p3 (r2.same sm) ((s1.trans s2).trans (.same sm)) a3
  | _ => exact p1.elim
theorem rf_m1 [h0 : Hist] {r : V → List V → Hp → VK → Prop} {rp : OpT} {te tb : TE} {pe : PE} {pa : PA} (o : OpOk K (rm r) rp) (he : RefE K te pe) (ha : RefA K (tCons tb tNil) pa) : RefE K (tM1 r te tb) (pM rp pe pa) := rf_mA o he ha fun z _ => ⟨z, rfl⟩
theorem ok_join : OpOk K (rm (rJoin K)) oJoin := by
  intro B H vs ts P Q hB hb hp hq
  unfold oJoin at hp
  split at hp
  · rename_i _ a ts
    obtain ⟨x, c, rfl, hx, hc⟩ := hb.two rfl
    cases hx.str
    obtain ⟨b, xs, rfl, hb, bl⟩ := hc.lst
    cases e : strsT ts with
    | none => rw [e] at hp; exact hp.elim
    | some ys =>
      rw [e] at hp
      rw [at_strs bl e] at hb
      exact ⟨a, b, ys, rfl, rfl, .inl (.inl (.inl hb)), hp.1, hq _ _ H hp.2 (Same.refl H) (.str _)⟩
  · exact hp.elim
def pDNew : PE := fun env P => P (.dct []) env
theorem rf_dnew [h0 : Hist] : RefF K tDNewK pDNew := by
  intro O H σ env P Q R hp hq p hn
  have sm : Same H (upd H p (.dK [])) := same_new hn
  exact hq _ env p _ hp (R.also hn sm (by rw [upd_same]; exact fun z => by cases z)) (.same sm) hn (.dct upd_same .nil)
abbrev PP := Env → (List (T × T) → Env → Prop) → Prop
def pPairs : List (PE × PE) → PP
  | [], env, P => P [] env
  | (a, b) :: r, env, P => a env fun t env1 => b env1 fun u env2 => pPairs r env2 fun l env3 => P ((t, u) :: l) env3
inductive RefP [h0 : Hist] (K : PySem.W.Frag) : List (TE × TE) → List (PE × PE) → Prop
  | nil : RefP K [] []
  | cons {ta tb : TE} {a b : PE} {rs : List (TE × TE)} {ps : List (PE × PE)} (ha : RefE K ta a) (hb : RefE K tb b) (r : RefP K rs ps) : RefP K ((ta, tb) :: rs) ((a, b) :: ps)
def PairOk (K : PySem.W.Frag) (B : Addr → Prop) (H : Hp) : List (T × T) → List (V × V) → Prop
  | [], [] => True
  | (t, u) :: l, (v, w) :: m => At K B H v t ∧ At K B H w u ∧ PairOk K B H l m
  | _, _ => False
theorem PairOk.keep (s : StB B H B' H') : ∀ {l : List (T × T)} {m : List (V × V)}, PairOk K B H l m → PairOk K B' H' l m
  | [], [], _ => trivial
  | (t, u) :: l, (v, w) :: m, h => ⟨h.1.keep s, h.2.1.keep s, PairOk.keep s h.2.2⟩
  | [], _ :: _, h => h.elim
  | _ :: _, [], h => h.elim
theorem rf_pairs [h0 : Hist] {rs : List (TE × TE)} {ps : List (PE × PE)} (h : RefP K rs ps) : ∀ (O : Addr → Prop) (H : Hp) (σ : L2.St) (env : Env) (P : List (T × T) → Env → Prop) (R : List (V × V) → Hp → Prop), Rel K O H σ env → pPairs ps env P →
    (∀ l env' m H', P l env' → Rel K O H' σ env' → Stp env H env' H' → PairOk K (Bd O env') H' l m → R m H') → tPairs rs σ H R := by
  induction h with
  | nil => intro O H σ env P R r hp hq; exact hq [] env [] H hp r (.refl _ _) trivial
  | cons ha hb _ ih =>
    intro O H σ env P R r hp hq
    refine ha O H σ env _ _ r hp fun t env1 v H1 p1 r1 s1 a1 => ?_
    refine hb O H1 σ env1 _ _ r1 p1 fun u env2 w H2 p2 r2 s2 a2 => ?_
    refine ih O H2 σ env2 _ _ r2 p2 fun l env3 m H3 p3 r3 s3 a3 => ?_
    exact hq _ env3 _ H3 p3 r3 (s1.trans (s2.trans s3)) ⟨a1.keep (s2.trans s3).stb, a2.keep s3.stb, a3⟩
def keyed : List (T × T) → Option (List (Key × T))
  | [] => some []
  | (k, t) :: r => match keyT k with | some k => (match keyed r with | some l => some ((k, t) :: l) | none => none) | none => none
def pDisp (ps : List (PE × PE)) : PE := fun env P => pPairs ps env fun l env' => match keyed l with
  | some kvs => kvs.length ≤ 15 ∧ P (.dct (mergeT [] kvs)) env'
  | none => False
theorem pair_keys : ∀ {l : List (T × T)} {m : List (V × V)} {kvs : List (Key × T)}, PairOk K B H l m → keyed l = some kvs → ∃ ks : List (Key × V), m = ks.map (fun kv => (kV kv.1, kv.2)) ∧ AtK K B H ks kvs
  | [], [], kvs, _, e => by cases e; exact ⟨[], rfl, .nil⟩
  | (t, u) :: l, (v, w) :: m, kvs, h, e => by
    unfold keyed at e
    cases e1 : keyT t with
    | none => rw [e1] at e; cases e
    | some k =>
      rw [e1] at e
      dsimp only at e
      cases e2 : keyed l with
      | none => rw [e2] at e; cases e
      | some kvs' =>
        rw [e2] at e
        cases e
        obtain ⟨ks, rfl, h1⟩ := pair_keys h.2.2 e2
        have ek := at_key (.inl h.1) e1
        subst ek
        exact ⟨(k, w) :: ks, rfl, .cons h.2.1 h1⟩
  | [], _ :: _, _, h, _ => h.elim
  | _ :: _, [], _, h, _ => h.elim
theorem rf_disp [h0 : Hist] {rs : List (TE × TE)} {ps : List (PE × PE)} (h : RefP K rs ps) : RefF K (tDisp rs) (pDisp ps) := by
  intro O H σ env P Q R hp hq p hn
  have sm : Same H (upd H p (.dK [])) := same_new hn
  have R1 := R.also hn sm (by rw [upd_same]; exact fun z => by cases z)
  refine rf_pairs h _ _ σ env _ _ R1 hp fun l env' m H' p1 r1 s1 a1 => ?_
  have nr : ¬ Root env p := R1.out p (.inr rfl)
  have e' : H' p = some (.dK []) := s1.keep p _ nr upd_same
  cases e : keyed l with
  | none => rw [e] at p1; exact p1.elim
  | some kvs =>
    rw [e] at p1
    obtain ⟨ks, rfl, ak⟩ := pair_keys a1 e
    refine ⟨e', ks, rfl, by rw [ak.length]; exact p1.1, ?_⟩
    have nr' : ¬ Root env' p := r1.out p (.inr rfl)
    have st : StB (Bd (fun a => O a ∨ a = p) env') H' (Bd (fun a => O a ∨ a = p) env') (upd H' p (.dK (mergeK [] ks))) := ⟨fun a o n nt e => by rw [upd_ne (fun z => n (.inl (.inr z)))]; exact e, fun a q => .inl q⟩
    have R2 : Rel K (fun a => O a ∨ a = p) (upd H' p (.dK (mergeK [] ks))) σ env' := by
      refine ⟨⟨(TbS.st e').tabs r1.tb, r1.len, fun i u eu => (r1.slot i u eu).keep st fun a ra => ?_, r1.one, r1.out, fun a q => ?_⟩, r1.hO, r1.hN, fun a o n nt e => ?_, r1.hst.more, fun a q => ?_⟩
      · rw [upd_ne (fun z => by subst z; exact nr' ⟨i, u, eu, ra⟩)]
      · by_cases z : a = p
        · rw [z, upd_same]; exact fun z => by cases z
        · rw [upd_ne z]; exact r1.dom a q
      · rw [upd_ne (ne_of_none e (R.none0 hn))]; exact r1.hst.keep a o n e
      · by_cases z : a = p
        · rw [z, upd_same]; exact fun z => by cases z
        · rw [upd_ne z]; exact r1.hst.dom a q
    refine hq _ env' p _ p1.2 R2 ?_ hn (.dct upd_same ((ak.merge .nil).keep st))
    have s0 : Stp env H env' H' := (Stp.same sm).trans s1
    refine ⟨fun a o n nt e => ?_, s0.more, fun a q => ?_⟩
    · rw [upd_ne (ne_of_none e hn)]; exact s0.keep a o n e
    · by_cases z : a = p
      · rw [z, upd_same]; exact fun z => by cases z
      · rw [upd_ne z]; exact s0.dom a q
end
end Pu

namespace Pu
open PySem PySem.Spec PyProof.Rows L2 He Hk
section
variable {K : PySem.W.Frag} {O B B' : Addr → Prop} {H H' H1 H2 : Hp} {env env' env1 env2 : Env} {σ : L2.St} {p : Addr} {v : V} {t : T} {fr : Bool}
def pSeq (p q : PS) : PS := fun d env => p { d with nx := q d } env
def pIf (c : PT) (p q : PS) : PS := fun d env => c env fun b env1 => if b = true then p d env1 else q d env1
def pRet (pe : PE) : PS := fun d env => pe env fun t env1 => d.rt t env1
def pNext : PS := fun d env => d.nx env
def pDrop (pe : PE) : PS := fun d env => pe env fun _ env1 => d.nx env1
def noRef (env : Env) (i : Nat) : Prop := match env[i]? with | some (.ref _ _) => False | _ => True
abbrev PG := T → Env → (Env → Prop) → Prop
def pgName (i : Nat) : PG := fun t env P => noRef env i ∧ P (env.set i (.val t))
def pAsg (pe : PE) (pg : PG) : PS := fun d env => pe env fun t env1 => pg t env1 d.nx
def pOwn (pe : PE) (i : Nat) : PS := fun d env => pe env fun t env1 => noRef env1 i ∧ ∀ p, d.nx (env1.set i (.own p t))
theorem rf_seq [h0 : Hist] {t u : TS} {p q : PS} (h1 : RefS K fr t p) (h2 : RefS K fr u q) : RefS K fr (tSeq t u) (pSeq p q) := fun O H σ env D d R hp e =>
  h1 O H σ env { D with nx := u D } { d with nx := q d } R hp ⟨fun σ' env' H' hn r s => h2 O H' σ' env' D d r hn (e.from s), e.bk, e.ct, e.rt⟩
theorem rf_if [h0 : Hist] {c : TT} {pc : PT} {t u : TS} {p q : PS} (hc : RefT K c pc) (h1 : RefS K fr t p) (h2 : RefS K fr u q) : RefS K fr (tIfS c t u) (pIf pc p q) := by
  intro O H σ env D d R hp e
  refine hc O H σ env _ _ R hp fun b env1 H1 p1 r1 s1 => ?_
  cases b with
  | true => exact (if_pos rfl).mpr (h1 O H1 σ env1 D d r1 ((if_pos rfl).mp p1) (e.from s1))
  | false => exact (if_neg Bool.false_ne_true).mpr (h2 O H1 σ env1 D d r1 ((if_neg Bool.false_ne_true).mp p1) (e.from s1))
theorem rf_ret [h0 : Hist] {te : TE} {pe : PE} (he : RefE K te pe) : RefS K false (tRet te) (pRet pe) := by
  intro O H σ env D d R hp e
  exact he O H σ env _ _ R hp fun t env1 v H1 p1 r1 s1 a1 => e.rt t σ env1 v H1 p1 r1 s1 a1 fun z => by cases z
theorem rf_retF [h0 : Hist] {te : TE} {pe : PE} (he : RefF K te pe) : RefS K true (tRet te) (pRet pe) := by
  intro O H σ env D d R hp e
  refine he O H σ env _ _ R hp fun t env1 p H1 p1 r1 s1 hn ho => e.rt t σ env1 _ H1 p1 (r1.less (fun a q => .inl q) R.hO) s1 (ho.at ?_ fun a q => q.elim (fun z => .inl (.inl z)) .inr) fun _ => ⟨p, rfl, .inr (R.none0 hn), r1, ho⟩
  intro z
  rcases z with z | z
  · exact R.dom p z hn
  · exact r1.out p (.inr rfl) z
theorem rf_next [h0 : Hist] : RefS K fr tNext pNext := fun O H σ env D d R hp e => e.nx σ env H hp R (.refl _ _)
theorem rf_drop [h0 : Hist] {te : TE} {pe : PE} (he : RefE K te pe) : RefS K fr (tDrop te) (pDrop pe) := by
  intro O H σ env D d R hp e
  exact he O H σ env _ _ R hp fun t env1 v H1 p1 r1 s1 a1 => e.nx σ env1 H1 p1 r1 s1
/-- a target -/
def RefG [h0 : Hist] (K : PySem.W.Frag) (g : TG) (pg : PG) : Prop := ∀ (O : Addr → Prop) (H : Hp) (σ : L2.St) (env : Env) (v : V) (t : T) (P : Env → Prop) (R : L2.St → Hp → Prop), Rel K O H σ env → At K (Bd O env) H v t → pg t env P →
  (∀ σ' env' H', P env' → Rel K O H' σ' env' → Stp env H env' H' → R σ' H') → g v σ H R
theorem rfg_name [h0 : Hist] {i : Nat} : RefG K (gName i) (pgName i) := fun O H σ env v t P R r a hp hq => hq _ _ H hp.2 (r.putV a) stp_putV
theorem rf_asg [h0 : Hist] {te : TE} {pe : PE} {g : TG} {pg : PG} (he : RefE K te pe) (hg : RefG K g pg) : RefS K fr (tAsg te g) (pAsg pe pg) := by
  intro O H σ env D d R hp e
  refine he O H σ env _ _ R hp fun t env1 v H1 p1 r1 s1 a1 => ?_
  exact hg O H1 σ env1 v t _ _ r1 a1 p1 fun σ' env' H' p2 r2 s2 => e.nx σ' env' H' p2 r2 (s1.trans s2)
theorem rf_own [h0 : Hist] {te : TE} {pe : PE} {i : Nat} (he : RefF K te pe) : RefS K fr (tAsg te (gName i)) (pOwn pe i) := by
  intro O H σ env D d R hp e
  refine he O H σ env _ _ R hp fun t env1 p H1 p1 r1 s1 hn ho => ?_
  refine e.nx _ _ H1 (p1.2 p) (r1.putO (fun z => R.dom p z hn) R.hO (R.none0 hn) ho) ?_
  refine ⟨s1.keepT, fun a q => ?_, s1.dom⟩
  rcases root_set q with ⟨z, _⟩ | ⟨j, u, _, e, r⟩
  · cases z; exact .inr hn
  · exact s1.more a ⟨j, u, e, r⟩
abbrev PGs := List T → Env → (Env → Prop) → Prop
def pgNil : PGs := fun ts env P => ts = [] ∧ P env
def pgCons (pg : PG) (pgs : PGs) : PGs := fun ts env P => match ts with
  | t :: r => pg t env fun env1 => pgs r env1 P
  | [] => False
def pgTup (n : Nat) (pgs : PGs) : PG := fun t env P => match t with
  | .tup ts => ts.length = n ∧ pgs ts env P
  | _ => False
def ownT : Option Slot → Option (Addr × T)
  | some (.own p t) => some (p, t)
  | some (.ref p t) => some (p, t)
  | _ => none
/-- the new content of the slot -/
def reown (env : Env) (i : Nat) (t : T) : Env := match env[i]? with
  | some (.own p _) => env.set i (.own p t)
  | some (.ref p _) => env.set i (.ref p t)
  | _ => env
theorem root_reown {i : Nat} {a : Addr} : Root (reown env i t) a ↔ Root env a := by
  unfold reown
  have key : ∀ (s s' : Slot), env[i]? = some s → s.root = s'.root → (Root (env.set i s') a ↔ Root env a) := by
    intro s s' e hr
    constructor
    · intro h
      rcases root_set h with ⟨z, _⟩ | ⟨j, u, _, e, r⟩
      · exact ⟨i, s, e, hr.trans z⟩
      · exact ⟨j, u, e, r⟩
    · rintro ⟨j, u, e2, r⟩
      by_cases h : i = j
      · subst h
        rw [e] at e2; cases e2
        exact ⟨i, s', by rw [List.getElem?_set, if_pos rfl, if_pos (List.getElem?_eq_some_iff.mp e).1], hr.symm.trans r⟩
      · exact ⟨j, u, by rw [List.getElem?_set, if_neg h]; exact e2, r⟩
  split
  · rename_i e; exact key _ _ e rfl
  · rename_i e; exact key _ _ e rfl
  · exact Iff.rfl
theorem bd_reown {i : Nat} : Bd O (reown env i t) = Bd O env := by
  funext a
  exact propext ⟨fun q => q.elim .inl fun z => .inr (root_reown.mp z), fun q => q.elim .inl fun z => .inr (root_reown.mpr z)⟩
/-- the object at the slot's place is written -/
theorem Rel.write [h0 : Hist] {i : Nat} {t' : T} {o : HO} (R : Rel K O H σ env) (e : ownT env[i]? = some (p, t)) (h : Holds K (Bd O env) (upd H p o) p t') : σ[i]? = some (some (.ref p)) ∧ Rel K O (upd H p o) σ (reown env i t') ∧ Stp env H (reown env i t') (upd H p o) := by
  have hr : Root env p ∧ TbS H (upd H p o) ∧ σ[i]?.getD Option.none = some (.ref p) ∧ ∃ s, env[i]? = some s ∧ s.root = some p := by
    cases q : env[i]? with
    | none => rw [q] at e; cases e
    | some s =>
      rw [q] at e
      have sl := R.slot i s q
      cases s with
      | own p' t0 => cases e; exact ⟨⟨i, _, q, rfl⟩, sl.2.tbs, sl.1, _, rfl, rfl⟩
      | ref p' t0 => cases e; exact ⟨⟨i, _, q, rfl⟩, sl.2.tbs, sl.1, _, rfl, rfl⟩
      | none => cases e
      | val _ => cases e
  obtain ⟨rp, tbs, sv, s0, es, rs⟩ := hr
  have st : StB (Bd O env) H (Bd O env) (upd H p o) := ⟨fun a u n nt e => by rw [upd_ne (fun z => by subst z; exact n (.inr rp))]; exact e, fun a q => .inl q⟩
  have stp : Stp env H (reown env i t') (upd H p o) := ⟨fun a u n nt e => by rw [upd_ne (fun z => by subst z; exact n rp)]; exact e, fun a q => .inl (root_reown.mp q), fun a q => by
    by_cases z : a = p
    · rw [z, upd_same]; exact fun z => by cases z
    · rw [upd_ne z]; exact q⟩
  refine ⟨R.var es sv, ⟨?_, R.hO, R.hN, R.hst.trans stp⟩, stp⟩
  · refine ⟨tbs.tabs R.tb, ?_, fun j u eu => ?_, fun j k u w a e1 e2 r1 r2 => ?_, fun a q z => R.out a q (root_reown.mp z), fun a q => ?_⟩
    · unfold reown; split <;> first | (rw [List.length_set]; exact R.len) | exact R.len
    · rw [bd_reown]
      by_cases hj : i = j
      · subst hj
        unfold reown at eu
        rw [es] at eu
        cases s0 with
        | own p' t0 =>
          cases rs
          rw [show (match some (Slot.own p t0) with | some (.own p _) => env.set i (.own p t') | some (.ref p _) => env.set i (.ref p t') | _ => env) = env.set i (.own p t') from rfl, List.getElem?_set, if_pos rfl, if_pos (List.getElem?_eq_some_iff.mp es).1] at eu
          cases eu
          exact ⟨sv, h⟩
        | ref p' t0 =>
          cases rs
          rw [show (match some (Slot.ref p t0) with | some (.own p _) => env.set i (.own p t') | some (.ref p _) => env.set i (.ref p t') | _ => env) = env.set i (.ref p t') from rfl, List.getElem?_set, if_pos rfl, if_pos (List.getElem?_eq_some_iff.mp es).1] at eu
          cases eu
          exact ⟨sv, h⟩
        | none => cases rs
        | val _ => cases rs
      · have eu' : env[j]? = some u := by
          unfold reown at eu
          split at eu
          · rw [List.getElem?_set, if_neg hj] at eu; exact eu
          · rw [List.getElem?_set, if_neg hj] at eu; exact eu
          · exact eu
        refine (R.slot j u eu').keep st fun a ra => upd_ne fun z => hj ?_
        subst z
        exact R.one i j s0 u _ es eu' rs ra
    · have back : ∀ (j : Nat) (u : Slot), (reown env i t')[j]? = some u → ∃ u', env[j]? = some u' ∧ u'.root = u.root := by
        intro j u eu
        by_cases hj : i = j
        · subst hj
          refine ⟨s0, es, ?_⟩
          unfold reown at eu
          rw [es] at eu
          cases s0 with
          | own p' t0 =>
            cases rs
            rw [show (match some (Slot.own p t0) with | some (.own p _) => env.set i (.own p t') | some (.ref p _) => env.set i (.ref p t') | _ => env) = env.set i (.own p t') from rfl, List.getElem?_set, if_pos rfl, if_pos (List.getElem?_eq_some_iff.mp es).1] at eu
            cases eu; rfl
          | ref p' t0 =>
            cases rs
            rw [show (match some (Slot.ref p t0) with | some (.own p _) => env.set i (.own p t') | some (.ref p _) => env.set i (.ref p t') | _ => env) = env.set i (.ref p t') from rfl, List.getElem?_set, if_pos rfl, if_pos (List.getElem?_eq_some_iff.mp es).1] at eu
            cases eu; rfl
          | none => cases rs
          | val _ => cases rs
        · refine ⟨u, ?_, rfl⟩
          unfold reown at eu
          split at eu
          · rw [List.getElem?_set, if_neg hj] at eu; exact eu
          · rw [List.getElem?_set, if_neg hj] at eu; exact eu
          · exact eu
      obtain ⟨u1, f1, g1⟩ := back j u e1
      obtain ⟨u2, f2, g2⟩ := back k w e2
      exact R.one j k u1 u2 a f1 f2 (g1.trans r1) (g2.trans r2)
    · by_cases z : a = p
      · subst z; exact absurd rp (R.out _ q)
      · rw [upd_ne z]; exact R.dom a q
theorem ownT_holds {i : Nat} (R : Rl K O H σ env) (e : ownT env[i]? = some (p, t)) : Holds K (Bd O env) H p t := by
  cases q : env[i]? with
  | none => rw [q] at e; cases e
  | some s =>
    rw [q] at e
    have sl := R.slot i s q
    cases s with
    | own p' t0 => cases e; exact sl.2
    | ref p' t0 => cases e; exact sl.2
    | none => cases e
    | val _ => cases e
theorem stb_own {o : HO} (h : Bd O env p) : StB (Bd O env) H (Bd O env) (upd H p o) := ⟨fun a u n nt e => by rw [upd_ne (fun z => by subst z; exact n h)]; exact e, fun a q => .inl q⟩
theorem ownT_root {i : Nat} (e : ownT env[i]? = some (p, t)) : Root env p := by
  cases q : env[i]? with
  | none => rw [q] at e; cases e
  | some s =>
    rw [q] at e
    cases s with
    | own p' t0 => cases e; exact ⟨i, _, q, rfl⟩
    | ref p' t0 => cases e; exact ⟨i, _, q, rfl⟩
    | none => cases e
    | val _ => cases e
/-- xs[k] = e, of an own list -/
def pgSetL (i : Nat) (pi : PE) : PG := fun t env P => has env i ∧ pi env fun k env1 => match ownT env1[i]? with
  | some (_, .lst ts) => (match k with | .int k => (match ixN ts.length k with | some j => P (reown env1 i (.lst (ts.set j t))) | none => False) | _ => False)
  | _ => False
theorem rfg_setL [h0 : Hist] {i : Nat} {ti : TE} {pi : PE} (hi : RefE K ti pi) : RefG K (gSub (tVar i) ti rSetL) (pgSetL i pi) := by
  rintro O H σ env v t P R r a ⟨hs, hp⟩ hq
  obtain ⟨x, ev⟩ := r.has hs
  refine ⟨x, ev, ?_⟩
  refine hi O H σ env _ _ r hp fun k env1 w H1 p1 r1 s1 a1 => ?_
  cases e : ownT env1[i]? with
  | none => rw [e] at p1; exact p1.elim
  | some q =>
    obtain ⟨p, u⟩ := q
    rw [e] at p1
    cases u with
    | lst ts =>
      dsimp only at p1
      cases k with
      | int k =>
        cases a1
        dsimp only at p1
        cases e2 : ixN ts.length k with
        | none => rw [e2] at p1; exact p1.elim
        | some j =>
          rw [e2] at p1
          have ho := ownT_holds r1.rl e
          cases ho with
          | @lst xs _ eh al =>
            have rt := ownT_root e
            have st := stb_own (O := O) (H := H1) (o := .lst (xs.set j v)) (.inr rt)
            obtain ⟨w1, w2, w3⟩ := r1.write (o := .lst (xs.set j v)) e (.lst upd_same ((al.set j (a.keep s1.stb)).keep st))
            rw [ev] at w1; cases w1
            exact ⟨p, xs, k, j, rfl, rfl, eh, by rw [al.length]; exact e2, hq σ _ _ p1 w2 (s1.trans w3)⟩
      | _ => exact p1.elim
    | _ => exact p1.elim
/-- d[k] = e, of an own dict -/
def pgSetD (i : Nat) (pi : PE) : PG := fun t env P => has env i ∧ pi env fun k env1 => match ownT env1[i]? with
  | some (_, .dct ts) => ts.length ≤ 1000000 ∧ (match keyT k with | some k => P (reown env1 i (.dct (putT ts k t))) | none => False)
  | _ => False
theorem rfg_setD [h0 : Hist] {i : Nat} {ti : TE} {pi : PE} (hi : RefE K ti pi) : RefG K (gSub (tVar i) ti rSetD) (pgSetD i pi) := by
  rintro O H σ env v t P R r a ⟨hs, hp⟩ hq
  obtain ⟨x, ev⟩ := r.has hs
  refine ⟨x, ev, ?_⟩
  refine hi O H σ env _ _ r hp fun k env1 w H1 p1 r1 s1 a1 => ?_
  cases e : ownT env1[i]? with
  | none => rw [e] at p1; exact p1.elim
  | some q =>
    obtain ⟨p, u⟩ := q
    rw [e] at p1
    cases u with
    | dct ts =>
      dsimp only at p1
      cases e2 : keyT k with
      | none => rw [e2] at p1; exact p1.2.elim
      | some k' =>
        rw [e2] at p1
        have ek := at_key (.inl a1) e2
        subst ek
        have ho := ownT_holds r1.rl e
        cases ho with
        | @dct xs _ eh al =>
          have rt := ownT_root e
          have st := stb_own (O := O) (H := H1) (o := .dK (putK xs k' v)) (.inr rt)
          obtain ⟨w1, w2, w3⟩ := r1.write (o := .dK (putK xs k' v)) e (.dct upd_same ((al.put (a.keep s1.stb)).keep st))
          rw [ev] at w1; cases w1
          exact ⟨p, _, rfl, .inl ⟨xs, k', eh, rfl, by rw [al.length]; exact Nat.lt_of_le_of_lt p1.1 (by decide), rfl⟩, hq σ _ _ p1.2 w2 (s1.trans w3)⟩
    | _ => exact p1.elim
/-- xs.append(e) -/
def pAppend (i : Nat) (pe : PE) : PS := fun d env => (∃ p ts, ownT env[i]? = some (p, .lst ts)) ∧ pe env fun t env1 => match ownT env1[i]? with
  | some (_, .lst ts) => ts.length < 1000000 ∧ d.nx (reown env1 i (.lst (ts ++ [t])))
  | _ => False
theorem rf_append [h0 : Hist] {i : Nat} {te : TE} {pe : PE} (he : RefE K te pe) : RefS K fr (tDrop (tBM K "list" rAppend (tVar i) (tCons te tNil))) (pAppend i pe) := by
  rintro O H σ env D d R ⟨⟨p0, ts0, e0⟩, hp⟩ hd
  have ho := ownT_holds R.rl e0
  obtain ⟨x, ev⟩ : ∃ v, σ[i]? = some (some v) := by
    refine R.has ?_
    unfold Pu.has
    cases q : env[i]? with
    | none => rw [q] at e0; cases e0
    | some s => rw [q] at e0; cases s <;> first | trivial | cases e0
  have ex : x = .ref p0 := by
    cases ho with
    | @lst xs _ eh al =>
      have w1 := (R.write (o := .lst xs) e0 (.lst upd_same (al.keep (stb_own (.inr (ownT_root e0)))))).1
      rw [ev] at w1; cases w1; rfl
  subst ex
  refine ⟨_, ev, ?_⟩
  cases ho with
  | @lst xs0 _ eh0 al0 =>
    refine ⟨.inl ⟨rfl, xs0, .inl (.inl eh0)⟩, ?_⟩
    refine he O H σ env _ _ R hp fun t env1 w H1 p1 r1 s1 a1 => ?_
    cases e : ownT env1[i]? with
    | none => rw [e] at p1; exact p1.elim
    | some q =>
      obtain ⟨p, u⟩ := q
      rw [e] at p1
      cases u with
      | lst ts =>
        have ho := ownT_holds r1.rl e
        cases ho with
        | @lst xs _ eh al =>
          have rt := ownT_root e
          have st := stb_own (O := O) (H := H1) (o := .lst (xs ++ [w])) (.inr rt)
          obtain ⟨w1, w2, w3⟩ := r1.write (o := .lst (xs ++ [w])) e (.lst upd_same ((al.append (.cons a1 .nil)).keep st))
          rw [ev] at w1; cases w1
          exact ⟨p0, xs, w, rfl, rfl, eh, by rw [al.length]; exact Nat.lt_of_lt_of_le p1.1 million, hd.nx σ _ _ p1.2 w2 (s1.trans w3)⟩
      | _ => exact p1.elim
end
end Pu

namespace Pu
open PySem PySem.Spec PyProof.Rows L2 He Hk
abbrev PIt := Env → (List T → Env → Prop) → Prop
def ItOk (K : PySem.W.Frag) (J : It) (items : List T) (B : Addr → Prop) (H : Hp) : Prop := ∀ (B' : Addr → Prop) (H' : Hp), StB B H B' H' → (∀ a, B' a → H' a ≠ none) → (∀ i, i < items.length → J.go i H') ∧ J.stop items.length H' ∧
  ∀ i x H'', i < items.length → J.yld i H' x H'' → Same H' H'' ∧ ∃ t, items[i]? = some t ∧ At K B' H'' x t
def RefI [h0 : Hist] (K : PySem.W.Frag) (wi : TI) (pi : PIt) : Prop := ∀ (O : Addr → Prop) (H : Hp) (σ : L2.St) (env : Env) (P : List T → Env → Prop) (R : It → Hp → Prop), Rel K O H σ env → pi env P →
  (∀ items env' J H', P items env' → Rel K O H' σ env' → Stp env H env' H' → ItOk K J items (Bd O env') H' → R J H') → wi σ H R
section
variable {K : PySem.W.Frag} {O B B' : Addr → Prop} {H H' H1 H2 : Hp} {env env' env1 env2 : Env} {σ : L2.St} {p : Addr} {v : V} {t : T} {fr : Bool}
def piList (pe : PE) : PIt := fun env P => pe env fun t env' => match t with | .lst ts => P ts env' | _ => False
def piStr (pe : PE) : PIt := fun env P => pe env fun t env' => match t with | .str z => P (z.cps.toList.map fun c => .str ⟨#[c]⟩) env' | _ => False
def rngT (lo : Int) (n : Nat) : List T := (List.range n).map fun (i : Nat) => .int (lo + (i : Int))
def piRng1 (pe : PE) : PIt := fun env P => pe env fun t env' => match t with | .int j => (-4611686018427387904 ≤ j ∧ j < 4611686018427387904) ∧ P (rngT 0 j.toNat) env' | _ => False
theorem rfi_list [h0 : Hist] {te : TE} {pe : PE} (he : RefE K te pe) : RefI K (iList K te) (piList pe) := by
  intro O H σ env P R r hp hq
  refine he O H σ env _ _ r hp fun t env' v H' p1 r1 s1 a1 => ?_
  cases t with
  | lst ts =>
    cases a1 with
    | @lst a xs _ n e al =>
      refine ⟨a, rfl, ⟨xs, .inl (.inl e)⟩, hq ts env' _ H' p1 r1 s1 fun B' H2 st _ => ?_⟩
      have e2 := st.keep _ _ n e
      have al2 := al.keep st
      refine ⟨fun i hi => ?_, ⟨xs, .inl (.inl e2), Nat.le_of_eq al.length⟩, fun i x H3 hi y => ?_⟩
      · have hi' : i < xs.length := by rw [al.length]; exact hi
        exact ⟨xs, xs[i], .inl (.inl e2), by simp [hi']⟩
      · obtain ⟨rfl, y2⟩ := y
        exact ⟨Same.refl _, al2.get (y2 xs (.inl (.inl e2)))⟩
  | _ => exact p1.elim
theorem rfi_str [h0 : Hist] {te : TE} {pe : PE} (he : RefE K te pe) : RefI K (iStr te) (piStr pe) := by
  intro O H σ env P R r hp hq
  refine he O H σ env _ _ r hp fun t env' v H' p1 r1 s1 a1 => ?_
  cases t with
  | str z =>
    cases a1
    refine ⟨z, rfl, hq _ env' _ H' p1 r1 s1 fun B' H2 st _ => ?_⟩
    rw [List.length_map, Array.length_toList]
    refine ⟨fun i hi => hi, Nat.le_refl _, fun i x H3 hi y => ?_⟩
    obtain ⟨rfl, c, hc, rfl⟩ := y
    exact ⟨Same.refl _, .str ⟨#[c]⟩, by rw [List.getElem?_map, Array.getElem?_toList, hc]; rfl, .str _⟩
  | _ => exact p1.elim
theorem it_rng {lo : Int} {n : Nat} : ItOk K (Itr lo n) (rngT lo n) B H := fun B' H2 st _ => by
  have e : (rngT lo n).length = n := by unfold rngT; simp
  rw [e]
  refine ⟨fun i hi => hi, Nat.le_refl _, fun i x H3 hi y => ?_⟩
  obtain ⟨rfl, rfl⟩ := y
  exact ⟨Same.refl _, .int (lo + (i : Int)), by unfold rngT; rw [List.getElem?_map, List.getElem?_range hi]; rfl, .int _⟩
theorem rfi_rng1 [h0 : Hist] {te : TE} {pe : PE} (he : RefE K te pe) : RefI K (iRng1 (tCons te tNil)) (piRng1 pe) := by
  intro O H σ env P R r hp hq
  refine he O H σ env _ _ r hp fun t env' v H' p1 r1 s1 a1 => ?_
  cases t with
  | int j =>
    cases a1
    exact ⟨j, rfl, p1.1.1, p1.1.2, hq _ env' _ H' p1.2 r1 s1 it_rng⟩
  | _ => exact p1.elim
def pForGo (pg : PG) (pb : PS) (d : PD) : List T → Env → Prop
  | [], env => d.nx env
  | x :: xs, env => pg x env fun env1 => pb { d with nx := pForGo pg pb d xs, ct := pForGo pg pb d xs, bk := d.nx } env1
def pFor (pi : PIt) (pg : PG) (pb : PS) : PS := fun d env => pi env fun items env1 => pForGo pg pb d items env1
theorem Rel.b' [h0 : Hist] (r : Rel K O H σ env) : ∀ a, Bd O env a → H a ≠ none := fun a q => r.bdom q
theorem for_core [h0 : Hist] {J : It} {items : List T} {g : TG} {tb : TS} {pg : PG} {pb : PS} {D : Ends} {d : PD} (hg : RefG K g pg) (hb : RefS K fr tb pb) (r1 : Rel K O H1 σ env1) (it : ItOk K J items (Bd O env1) H1) (p1 : pForGo pg pb d items env1) (hd : EndsOk K O env1 H1 fr D d) : ForD J g tb D σ H1 := by
  have w : Walk J items.length (fun H' => ∃ B', StB (Bd O env1) H1 B' H' ∧ ∀ a, B' a → H' a ≠ none) (fun i H' x H'' => ∀ B', StB (Bd O env1) H1 B' H' → (∀ a, B' a → H' a ≠ none) → Same H' H'' ∧ ∃ t, items[i]? = some t ∧ At K B' H'' x t) :=
    ⟨fun i H' hi ⟨B', st, bd⟩ => (it B' H' st bd).1 i hi, fun H' ⟨B', st, bd⟩ => (it B' H' st bd).2.1, fun i H' x H'' hi _ y B' st bd => (it B' H' st bd).2.2 i x H'' hi y⟩
  refine for_it w (fun i σ' H' => ∃ env', Rel K O H' σ' env' ∧ Stp env1 H1 env' H' ∧ pForGo pg pb d (items.drop i) env') ⟨env1, r1, .refl _ _, p1⟩ (fun i σ' H' _ ⟨env', r, s, _⟩ => ⟨_, s.stb, r.b'⟩) ?_ ?_
  · rintro i x σ' H' H'' hlt ⟨env', r, s, pg'⟩ y
    obtain ⟨sm, t, e, a⟩ := y _ s.stb r.b'
    have ed : items.drop i = t :: items.drop (i + 1) := by
      obtain ⟨h1, h2⟩ := List.getElem?_eq_some_iff.mp e
      rw [← h2]; exact List.drop_eq_getElem_cons h1
    rw [ed] at pg'
    have r2 := r.same sm
    refine hg O H'' σ' env' x t _ _ r2 a pg' fun σ2 env2 H2 p2 rr2 ss2 => ?_
    have st2 : Stp env1 H1 env2 H2 := (s.trans (.same sm)).trans ss2
    have de := hd.from st2
    exact hb O H2 σ2 env2 _ _ rr2 p2 ⟨fun σ3 env3 H3 p3 r3 s3 => ⟨env3, r3, st2.trans s3, p3⟩, de.nx, fun σ3 env3 H3 p3 r3 s3 => ⟨env3, r3, st2.trans s3, p3⟩, de.rt⟩
  · rintro σ' H' ⟨env', r, s, pg'⟩
    rw [List.drop_length] at pg'
    exact hd.nx σ' env' H' pg' r s
theorem rf_for [h0 : Hist] {wi : TI} {g : TG} {tb : TS} {pi : PIt} {pg : PG} {pb : PS} (hi : RefI K wi pi) (hg : RefG K g pg) (hb : RefS K fr tb pb) : RefS K fr (tFor wi g tb) (pFor pi pg pb) := by
  intro O H σ env D d R hp hd
  exact hi O H σ env _ _ R hp fun items env1 J H1 p1 r1 s1 it => for_core hg hb r1 it p1 (hd.from s1)
def wipeE (env : Env) : List Nat → Env
  | [] => env
  | v :: vs => (wipeE env vs).set v .none
theorem wipeE_len (env : Env) : ∀ vs : List Nat, (wipeE env vs).length = env.length
  | [] => rfl
  | v :: vs => by unfold wipeE; rw [List.length_set, wipeE_len env vs]
theorem wipeE_get (env : Env) (i : Nat) : ∀ vs : List Nat, (wipeE env vs)[i]? = if i ∈ vs ∧ i < env.length then some .none else env[i]?
  | [] => by simp [wipeE]
  | v :: vs => by
    unfold wipeE
    rw [List.getElem?_set, wipeE_len, wipeE_get env i vs]
    by_cases h : v = i
    · subst h
      by_cases h2 : v < env.length
      · simp [h2]
      · simp [h2, List.getElem?_eq_none_iff.mpr (Nat.le_of_not_lt h2)]
    · rw [if_neg h]
      have : (i ∈ v :: vs) ↔ (i ∈ vs) := ⟨fun z => (List.mem_cons.mp z).resolve_left (fun q => h q.symm), List.mem_cons_of_mem _⟩
      simp only [this]
theorem wipe_get (σ : L2.St) (i : Nat) : ∀ vs : List Nat, (wipe σ vs)[i]? = if i ∈ vs ∧ i < σ.length then some Option.none else σ[i]?
  | [] => by simp [wipe]
  | v :: vs => by
    unfold wipe
    rw [List.getElem?_set, wipe_length, wipe_get σ i vs]
    by_cases h : v = i
    · subst h
      by_cases h2 : v < σ.length
      · simp [h2]
      · simp [h2, List.getElem?_eq_none_iff.mpr (Nat.le_of_not_lt h2)]
    · rw [if_neg h]
      have : (i ∈ v :: vs) ↔ (i ∈ vs) := ⟨fun z => (List.mem_cons.mp z).resolve_left (fun q => h q.symm), List.mem_cons_of_mem _⟩
      simp only [this]
theorem root_wipe {vs : List Nat} {a : Addr} (h : Root (wipeE env vs) a) : Root env a := by
  obtain ⟨i, s, e, r⟩ := h
  rw [wipeE_get] at e
  split at e
  · cases e; cases r
  · exact ⟨i, s, e, r⟩
theorem Rel.wipe [h0 : Hist] {vs : List Nat} {σ' : L2.St} (R : Rel K O H σ env) (hl : σ'.length = σ.length) (hs : ∀ i, i ∉ vs → σ'[i]? = σ[i]?) : Rel K O H σ' (wipeE env vs) := by
  refine ⟨⟨R.tb, by rw [hl, wipeE_len]; exact R.len, fun i s e => ?_, fun i j s u a e1 e2 r1 r2 => ?_, fun a q z => R.out a q (root_wipe z), R.dom⟩, R.hO, R.hN, R.hst.keepT, fun a q => R.hst.more a (root_wipe q), R.hst.dom⟩
  · rw [wipeE_get] at e
    split at e
    · cases e; trivial
    · rename_i hc
      by_cases hi : i ∈ vs
      · have : ¬ i < env.length := fun z => hc ⟨hi, z⟩
        rw [List.getElem?_eq_none_iff.mpr (Nat.le_of_not_lt this)] at e; cases e
      · rw [hs i hi]
        exact (R.slot i s e).keep (.less fun a q => q.elim .inl fun z => .inr (root_wipe z)) fun _ _ => rfl
  · rw [wipeE_get] at e1 e2
    split at e1
    · cases e1; cases r1
    · split at e2
      · cases e2; cases r2
      · exact R.one i j s u a e1 e2 r1 r2
theorem stp_wipe {vs : List Nat} : Stp env H (wipeE env vs) H := ⟨fun _ _ _ _ e => e, fun a q => .inl (root_wipe q), fun _ q => q⟩
theorem wipe_same {vs : List Nat} (σ : L2.St) : ∀ i, i ∉ vs → (wipe σ vs)[i]? = σ[i]? := fun i h => by rw [wipe_get, if_neg fun z => h z.1]
theorem wipe_eq {vs : List Nat} {σ σ' : L2.St} (hl : σ'.length = σ.length) (h : ∀ i, i ∉ vs → σ'[i]? = σ[i]?) : wipe σ' vs = wipe σ vs := by
  apply List.ext_getElem?
  intro i
  rw [wipe_get, wipe_get, hl]
  by_cases hi : i ∈ vs
  · by_cases h2 : i < σ.length
    · rw [if_pos ⟨hi, h2⟩, if_pos ⟨hi, h2⟩]
    · rw [if_neg fun z => h2 z.2, if_neg fun z => h2 z.2, List.getElem?_eq_none_iff.mpr (by omega), List.getElem?_eq_none_iff.mpr (by omega)]
  · rw [if_neg fun z => hi z.1, if_neg fun z => hi z.1, h i hi]
/-- a target that writes the slots of vs alone -/
def RefGw [h0 : Hist] (K : PySem.W.Frag) (vs : List Nat) (g : TG) (pg : PG) : Prop := ∀ (O : Addr → Prop) (H : Hp) (σ : L2.St) (env : Env) (v : V) (t : T) (P : Env → Prop) (R : L2.St → Hp → Prop), Rel K O H σ env → At K (Bd O env) H v t → pg t env P →
  (∀ σ' env', P env' → Rel K O H σ' env' → Stp env H env' H → σ'.length = σ.length → (∀ i, i ∉ vs → σ'[i]? = σ[i]?) → R σ' H) → g v σ H R
theorem rfgw_name [h0 : Hist] {vs : List Nat} {i : Nat} (hi : i ∈ vs) : RefGw K vs (gName i) (pgName i) := fun O H σ env v t P R r a hp hq =>
  hq _ _ hp.2 (r.putV a) stp_putV (by rw [List.length_set]) fun j hj => by rw [List.getElem?_set, if_neg (fun z => by subst z; exact hj hi)]
def RefGsw [h0 : Hist] (K : PySem.W.Frag) (ws : List Nat) (g : TGs) (pg : PGs) : Prop := ∀ (O : Addr → Prop) (H : Hp) (σ : L2.St) (env : Env) (vs : List V) (ts : List T) (P : Env → Prop) (R : L2.St → Hp → Prop), Rel K O H σ env → AtL K (Bd O env) H vs ts → pg ts env P →
  (∀ σ' env', P env' → Rel K O H σ' env' → Stp env H env' H → σ'.length = σ.length → (∀ i, i ∉ ws → σ'[i]? = σ[i]?) → R σ' H) → g vs σ H R
theorem rfgw_nil [h0 : Hist] {ws : List Nat} : RefGsw K ws gNil pgNil := by
  intro O H σ env vs ts P R r a hp hq
  obtain ⟨rfl, hp⟩ := hp
  cases a
  exact ⟨rfl, hq σ env hp r (.refl _ _) rfl fun _ _ => rfl⟩
theorem rfgw_cons [h0 : Hist] {ws : List Nat} {g : TG} {gs : TGs} {pg : PG} {pgs : PGs} (hg : RefGw K ws g pg) (hgs : RefGsw K ws gs pgs) : RefGsw K ws (gCons g gs) (pgCons pg pgs) := by
  intro O H σ env vs ts P R r a hp hq
  cases ts with
  | nil => exact hp.elim
  | cons t ts =>
    cases a with
    | cons a1 a2 =>
      refine ⟨_, _, rfl, hg O H σ env _ t _ _ r a1 hp fun σ1 env1 p1 r1 s1 l1 w1 => ?_⟩
      exact hgs O H σ1 env1 _ ts _ _ r1 (a2.keep s1.stb) p1 fun σ2 env2 p2 r2 s2 l2 w2 => hq σ2 env2 p2 r2 (s1.trans s2) (l2.trans l1) fun i hi => (w2 i hi).trans (w1 i hi)
theorem rfgw_tup [h0 : Hist] {ws : List Nat} {n : Nat} {gs : TGs} {pgs : PGs} (hgs : RefGsw K ws gs pgs) : RefGw K ws (gTup K n gs) (pgTup n pgs) := by
  intro O H σ env v t P R r a hp hq
  cases t with
  | tup ts =>
    obtain ⟨b, xs, rfl, hb, bl⟩ := Br.tup (.inl a)
    exact ⟨b, xs, rfl, hb, by rw [bl.length]; exact hp.1, hgs O H σ env xs ts _ _ r bl hp.2 hq⟩
  | _ => exact hp.elim
def pLcGo (pg : PG) (tt : PT) (te : PE) (vs : List Nat) (P : T → Env → Prop) : List T → List T → Env → Prop
  | [], acc, env => P (.lst acc) env
  | x :: xs, acc, env => pg x env fun env1 => tt env1 fun b env2 => if b = true then te env2 fun y env3 => pLcGo pg tt te vs P xs (acc ++ [y]) (wipeE env3 vs) else pLcGo pg tt te vs P xs acc (wipeE env2 vs)
def pLc (pi : PIt) (pg : PG) (tt : PT) (te : PE) (vs : List Nat) : PE := fun env P => pi env fun items env1 => items.length ≤ 1000000 ∧ pLcGo pg tt te vs P items [] (wipeE env1 vs)
def pYes : PT := fun env P => P true env
theorem rf_yes [h0 : Hist] : RefT K tYes pYes := fun O H σ env P Q R hp hq => hq true env H hp R (.refl _ _)
theorem Rel.updO [h0 : Hist] {D : Addr} {o : HO} (R : Rel K O H σ env) (hD : O D) (hz : h0.H0 D = none) (tbs : TbS H (upd H D o)) : Rel K O (upd H D o) σ env := by
  refine ⟨⟨tbs.tabs R.tb, R.len, fun i u e => (R.slot i u e).keep (stb_own (.inl hD)) fun a r => upd_ne fun z => ?_, R.one, R.out, fun a q => ?_⟩, R.hO, R.hN, fun a o n nt e => by rw [upd_ne (ne_of_none e hz)]; exact R.hst.keep a o n e, R.hst.more, fun a q => ?_⟩
  · subst z; exact R.out _ hD ⟨i, u, e, r⟩
  · by_cases z : a = D
    · rw [z, upd_same]; exact fun z => by cases z
    · rw [upd_ne z]; exact R.dom a q
  · by_cases z : a = D
    · rw [z, upd_same]; exact fun z => by cases z
    · rw [upd_ne z]; exact R.hst.dom a q
theorem lc_coreP [h0 : Hist] {J : It} {items : List T} {g : TG} {tt : TT} {te : TE} {vs : List Nat} {pg : PG} {pt : PT} {pe : PE} {P : T → Env → Prop} {Q : VK} (hg : RefGw K vs g pg) (ht : RefT K tt pt) (he : RefE K te pe) (r1 : Rel K O H1 σ env1) (it : ItOk K J items (Bd O env1) H1) (hz : items.length ≤ 1000000)
    (p1 : pLcGo pg pt pe vs P items [] (wipeE env1 vs)) (hq : ∀ t env' p H', P t env' → Rel K (fun a => O a ∨ a = p) H' σ env' → Stp env1 H1 env' H' → H1 p = none → Holds K (Bd (fun a => O a ∨ a = p) env') H' p t → Q (.ref p) H') : LcD J g tt te vs σ H1 Q := by
  intro D hD
  have smD : Same H1 (upd H1 D (.lst [])) := same_new hD
  have R1 := (r1.also hD smD (by rw [upd_same]; exact fun z => by cases z)).wipe (vs := vs) (wipe_length σ vs) (wipe_same σ)
  have w : Walk J items.length (fun H' => ∃ B', StB (Bd O env1) H1 B' H' ∧ ∀ a, B' a → H' a ≠ none) (fun i H' x H'' => ∀ B', StB (Bd O env1) H1 B' H' → (∀ a, B' a → H' a ≠ none) → Same H' H'' ∧ ∃ t, items[i]? = some t ∧ At K B' H'' x t) :=
    ⟨fun i H' hi ⟨B', st, bd⟩ => (it B' H' st bd).1 i hi, fun H' ⟨B', st, bd⟩ => (it B' H' st bd).2.1, fun i H' x H'' hi _ y B' st bd => (it B' H' st bd).2.2 i x H'' hi y⟩
  have toB : ∀ env' H', Stp env1 H1 env' H' → StB (Bd O env1) H1 (Bd (fun a => O a ∨ a = D) env') H' := fun env' H' s => ⟨fun a o n nt e => s.keep a o (fun z => n (.inr z)) e, fun a q => by
    rcases q with (q | q) | q
    · exact .inl (.inl q)
    · exact .inr (q ▸ hD)
    · rcases s.more a q with z | z
      · exact .inl (.inr z)
      · exact .inr z⟩
  have st0 : Stp env1 H1 (wipeE env1 vs) (upd H1 D (.lst [])) := (Stp.same smD).trans stp_wipe
  refine lc_it w (fun i H' => ∃ env' xs acc, Rel K (fun a => O a ∨ a = D) H' (wipe σ vs) env' ∧ Stp env1 H1 env' H' ∧ H' D = some (.lst xs) ∧ AtL K (Bd (fun a => O a ∨ a = D) env') H' xs acc ∧ xs.length ≤ i ∧ pLcGo pg pt pe vs P (items.drop i) acc env' ∧ (∀ j s, j ∈ vs → env'[j]? = some s → s = .none))
    ⟨wipeE env1 vs, [], [], R1, st0, upd_same, .nil, Nat.le_refl _, p1, fun j s hj e => by
      rw [wipeE_get] at e
      split at e
      · cases e; rfl
      · rename_i hc
        have : ¬ j < env1.length := fun z => hc ⟨hj, z⟩
        rw [List.getElem?_eq_none_iff.mpr (Nat.le_of_not_lt this)] at e; cases e⟩
    (fun i H' _ ⟨env', xs, acc, r, s, _⟩ => ⟨_, toB env' H' s, r.b'⟩) ?_ ?_
  · rintro i x H' H'' hlt ⟨env', xs, acc, r, s, eD, al, hxs, pgo, hno⟩ y
    obtain ⟨sm, t, e, a⟩ := y _ (toB env' H' s) r.b'
    have ed : items.drop i = t :: items.drop (i + 1) := by
      obtain ⟨h1, h2⟩ := List.getElem?_eq_some_iff.mp e
      rw [← h2]; exact List.drop_eq_getElem_cons h1
    rw [ed] at pgo
    have r2 := r.same sm
    have al2 := al.keep (.same sm)
    have s2 : Stp env1 H1 env' H'' := s.trans (.same sm)
    have eD2 := sm _ _ eD
    have wiped : ∀ (env3 : Env) (j : Nat) (u : Slot), j ∈ vs → (wipeE env3 vs)[j]? = some u → u = .none := fun env3 j u hj e => by
      rw [wipeE_get] at e
      split at e
      · cases e; rfl
      · rename_i hc
        have : ¬ j < env3.length := fun z => hc ⟨hj, z⟩
        rw [List.getElem?_eq_none_iff.mpr (Nat.le_of_not_lt this)] at e; cases e
    refine hg _ H'' (wipe σ vs) env' x t _ _ r2 a pgo fun σ2 env2 p2 rr2 ss2 hl hw => ⟨?_, ?_⟩
    · rw [wipe_eq hl hw]
      exact wipe_eq (wipe_length σ vs) (wipe_same σ)
    · have back : ∀ i, i ∉ vs → (wipe σ vs)[i]? = σ2[i]? := fun i hi => (hw i hi).symm
      refine ht _ H'' σ2 env2 _ _ rr2 p2 fun b env3 H3 p3 r3 s3 => ?_
      have s03 : Stp env1 H1 env3 H3 := (s2.trans ss2).trans s3
      have nr2 : ¬ Root env2 D := rr2.out D (.inr rfl)
      have eD3 := s3.keep _ _ nr2 eD2
      have al3 := (al2.keep ss2.stb).keep s3.stb
      cases b with
      | false =>
        rw [if_neg Bool.false_ne_true] at p3 ⊢
        exact ⟨wipeE env3 vs, xs, acc, r3.wipe hl.symm back, s03.trans stp_wipe, eD3, al3.keep (stp_wipe (H := H3)).stb, by omega, p3, wiped env3⟩
      | true =>
        rw [if_pos rfl] at p3 ⊢
        refine he _ H3 σ2 env3 _ _ r3 p3 fun y env4 u H4 p4 r4 s4 a4 => ?_
        have nr3 : ¬ Root env3 D := r3.out D (.inr rfl)
        have eD4 := s4.keep _ _ nr3 eD3
        have al4 := al3.keep s4.stb
        have st4 := stb_own (O := fun a => O a ∨ a = D) (env := env4) (H := H4) (p := D) (o := .lst (xs ++ [u])) (.inl (.inr rfl))
        refine ⟨xs, eD4, Nat.lt_of_lt_of_le (by omega : xs.length < 1000000) million, wipeE env4 vs, xs ++ [u], acc ++ [y], (r4.updO (.inr rfl) (r1.none0 hD) (.st eD4)).wipe hl.symm back, ?_, upd_same, ?_, by simp; omega, p4, wiped env4⟩
        · have s04 := s03.trans s4
          refine Stp.trans ⟨fun a o n nt e => ?_, s04.more, fun a q => ?_⟩ stp_wipe
          · rw [upd_ne (ne_of_none e hD)]; exact s04.keep a o n e
          · by_cases z : a = D
            · rw [z, upd_same]; exact fun z => by cases z
            · rw [upd_ne z]; exact s04.dom a q
        · exact ((al4.append (.cons a4 .nil)).keep st4).keep (stp_wipe (H := upd H4 D (.lst (xs ++ [u])))).stb
  · rintro H' ⟨env', xs, acc, r, s, eD, al, _, pgo, hno⟩
    rw [List.drop_length] at pgo
    have r' : Rel K (fun a => O a ∨ a = D) H' σ env' := by
      refine ⟨⟨r.tb, by rw [← wipe_length σ vs]; exact r.len, fun i u e => ?_, r.one, r.out, r.dom⟩, r.hO, r.hN, r.hst⟩
      by_cases hi : i ∈ vs
      · rw [hno i u hi e]; trivial
      · rw [← wipe_same σ i hi]; exact r.slot i u e
    exact hq _ env' D H' pgo r' s hD (.lst eD al)
theorem rf_lc [h0 : Hist] {wi : TI} {g : TG} {tt : TT} {te : TE} {vs : List Nat} {pi : PIt} {pg : PG} {pt : PT} {pe : PE} (hi : RefI K wi pi) (hg : RefGw K vs g pg) (ht : RefT K tt pt) (he : RefE K te pe) : RefF K (tLc wi g tt te vs) (pLc pi pg pt pe vs) := by
  intro O H σ env P Q R hp hq
  refine hi O H σ env _ _ R hp fun items env1 J H1 p1 r1 s1 it => ?_
  refine lc_coreP hg ht he r1 it p1.1 p1.2 fun t env' p H' pt r s hn ho => hq t env' p H' pt r (s1.trans s) ?_ ho
  cases q : H p with
  | none => rfl
  | some o => exact absurd hn (s1.dom p (by rw [q]; exact fun z => by cases z))
end
end Pu

namespace Hk
open PySem PySem.Spec PyProof.Rows L2 He
def tLockUE (t : TE) : TE := fun σ H Q => tLockE t σ H Q ∨ t σ H Q
section
variable {X : Cx}
theorem pe_lockU {e : Expr} {t : TE} (h : PE X e t) : PE X e (tLockUE t) := ⟨fun pins s σ H Q I hw => hw.elim (fun z => (pe_lock h).run pins s σ H Q I z) fun z => h.run pins s σ H Q I z⟩
end
end Hk
namespace Pu
open PySem PySem.Spec PyProof.Rows L2 He Hk
section
variable {K : PySem.W.Frag} {O B B' : Addr → Prop} {H H' H1 H2 : Hp} {env env' env1 env2 : Env} {σ : L2.St} {p : Addr} {v : V} {t : T} {fr : Bool}
theorem Holds.rd (s : RdB H H') (h : Holds K B H p t) : Holds K B H' p t ∨ ∃ ts, t = .dct ts := by
  cases h with
  | lst e h => exact .inl (.lst (s.lst _ _ e) (h.rd s))
  | ins e h => exact .inl (.ins (s.ins _ _ _ _ e) (h.rd s))
  | dct e h => exact .inr ⟨_, rfl⟩
theorem Holds.rdE (s : RdB H H') (e : H' p = H p) (h : Holds K B H p t) : Holds K B H' p t := by
  cases h with
  | lst e h => exact .lst (s.lst _ _ e) (h.rd s)
  | ins e h => exact .ins (s.ins _ _ _ _ e) (h.rd s)
  | dct e1 h => exact .dct (e.trans e1) (h.rd s)
theorem Rl.rd (R : Rl K O H σ env) (s : RdB H H') (hr : ∀ a, Root env a → H' a = H a) (hd : ∀ a, H a ≠ none → H' a ≠ none) : Rl K O H' σ env := by
  refine ⟨s.tbs.tabs R.tb, R.len, fun i u e => ?_, R.one, R.out, fun a q => hd a (R.dom a q)⟩
  have h := R.slot i u e
  cases u with
  | none => trivial
  | val t => obtain ⟨v, e1, e2⟩ := h; exact ⟨v, e1, e2.rd s⟩
  | own p t => exact ⟨h.1, h.2.rdE s (hr p ⟨i, _, e, rfl⟩)⟩
  | ref p t => exact ⟨h.1, h.2.rdE s (hr p ⟨i, _, e, rfl⟩)⟩
/-- the state under a lock -/
theorem Rl.lock {d : Addr} {o : Obj} {ks : List (Key × V)} (R : Rl K O H σ env) (e : H d = some (.dK ks)) (n : ¬ Bd O env d) : Rl K O (upd H d (.frz o (.dK ks))) σ env :=
  R.rd (.lock e) (fun a q => upd_ne fun z => n (z ▸ .inr q)) fun a q => by
    by_cases z : a = d
    · rw [z, upd_same]; exact fun z => by cases z
    · rw [upd_ne z]; exact q
theorem Rl.unlock {d : Addr} {o : Obj} {ks : List (Key × V)} (R : Rl K O H σ env) (e : H d = some (.frz o (.dK ks))) (n : ¬ Root env d) : Rl K O (upd H d (.dK ks)) σ env :=
  R.rd (.unlock e) (fun a q => upd_ne fun z => n (z ▸ q)) fun a q => by
    by_cases z : a = d
    · rw [z, upd_same]; exact fun z => by cases z
    · rw [upd_ne z]; exact q
theorem stp_lock {d : Addr} {o : Obj} {ks : List (Key × V)} (e : H d = some (.dK ks)) (n : ¬ Root env d) (s : Stp env (upd H d (.frz o (.dK ks))) env' H') : H' d = some (.frz o (.dK ks)) ∧ ¬ Root env' d ∧ Stp env H env' (upd H' d (.dK ks)) := by
  have e' := s.keep d _ n upd_same
  have n' : ¬ Root env' d := fun z => by
    rcases s.more d z with q | q
    · exact n q
    · rw [upd_same] at q; cases q
  refine ⟨e', n', fun a u na nt ea => ?_, fun a q => ?_, fun a q => ?_⟩
  · by_cases z : a = d
    · subst z; rw [e] at ea; cases ea; exact upd_same
    · rw [upd_ne z]; exact s.keep a u na (by rw [upd_ne z]; exact ea)
  · rcases s.more a q with z | z
    · exact .inl z
    · by_cases w : a = d
      · subst w; exact absurd q n'
      · rw [upd_ne w] at z; exact .inr z
  · by_cases z : a = d
    · rw [z, upd_same]; exact fun z => by cases z
    · rw [upd_ne z]; exact s.dom a (by rw [upd_ne z]; exact q)
/-- a beginning of one's own -/
@[reducible] def hAt (O : Addr → Prop) (env : Env) (H : Hp) : Hist := ⟨O, env, H⟩
theorem Rl.begin (R : Rl K O H σ env) : @Rel (hAt O env H) K O H σ env := @Rel.mk (hAt O env H) _ _ _ _ _ R (fun _ q => q) (fun _ q => .inl (.inl q)) (Stp.refl env H)
/-- back to the first beginning -/
theorem Rel.join [h0 : Hist] {σ' : L2.St} {O' : Addr → Prop} (R : Rel K O H σ env) (R' : Rl K O' H' σ' env') (hO : ∀ a, O a → O' a) (s : Stp env H env' H') (hN : ∀ a, O' a → O a ∨ H a = none := by exact fun _ q => .inl q) : Rel K O' H' σ' env' := ⟨R', fun a q => hO a (R.hO a q), fun a q => (hN a q).elim (R.hN a) fun z => .inr (R.none0 z), R.hst.trans s⟩
theorem Rel.join2 [h0 : Hist] {σ' : L2.St} {O' : Addr → Prop} (R : Rel K O H σ env) (R' : Rl K O' H' σ' env') (hO : ∀ a, O a → O' a) (s : Stp env H env' H') (hN : ∀ a, O' a → Bd O env a ∨ H a = none) : Rel K O' H' σ' env' :=
  ⟨R', fun a q => hO a (R.hO a q), fun a q => (hN a q).elim (fun z => z.elim (R.hN a) fun z => (R.hst.more a z).imp .inr id) fun z => .inr (R.none0 z), R.hst.trans s⟩
/-- what of a dict is walked -/
inductive DW where
  | keys
  | vals
  | items
def DW.of : DW → List (Key × T) → List T
  | .keys, kvs => kvs.map fun kv => kT kv.1
  | .vals, kvs => kvs.map (·.2)
  | .items, kvs => kvs.map fun kv => .tup [kT kv.1, kv.2]
def DW.it (w : DW) (d : Addr) (o : Obj) (kvs : List (Key × V)) : It := match w with
  | .keys => Itk d o kvs
  | .vals => Itd d o kvs
  | .items => Iti d o kvs
def DW.ti (w : DW) (td : TE) : TI := match w with
  | .keys => iKeys td
  | .vals => iVals td
  | .items => iItems td
def piD (w : DW) (pe : PE) : PIt := fun env P => pe env fun t env' => match t with | .dct kvs => P (w.of kvs) env' | _ => False
theorem AtK.get : ∀ {kvs : List (Key × V)} {ts : List (Key × T)} {i : Nat} {k : Key} {x : V}, AtK K B H kvs ts → kvs[i]? = some (k, x) → ∃ t, ts[i]? = some (k, t) ∧ At K B H x t
  | _, _, _, _, _, .nil, e => by simp at e
  | _, _, 0, _, _, .cons h _, e => by simp at e; obtain ⟨rfl, rfl⟩ := e; exact ⟨_, rfl, h⟩
  | _, _, i + 1, k, x, .cons _ r, e => by
    obtain ⟨t, h1, h2⟩ := AtK.get (i := i) (k := k) (x := x) r (by simpa using e)
    exact ⟨t, by simpa using h1, h2⟩
theorem at_kT (k : Key) : At K B H (kV k) (kT k) := by cases k; exact .int _; exact .str _
theorem it_dict {w : DW} {d : Addr} {o : Obj} {ks : List (Key × V)} {kvs : List (Key × T)} (n : ¬ B d) (e : H d = some (.frz o (.dK ks))) (al : AtK K B H ks kvs) : ItOk K (w.it d o ks) (w.of kvs) B H := by
  intro B' H' st bd
  have e' := st.keep _ _ n e
  have al' := al.keep st
  have hl : (w.of kvs).length = ks.length := by cases w <;> simp [DW.of, al.length]
  rw [hl]
  cases w with
  | keys =>
    refine ⟨fun i hi => ⟨e', hi⟩, ⟨e', Nat.le_refl _⟩, fun i x H'' hi y => ?_⟩
    obtain ⟨rfl, k, u, eu, rfl⟩ := y
    obtain ⟨t, et, at'⟩ := al'.get eu
    exact ⟨Same.refl _, kT k, by show (kvs.map fun kv => kT kv.1)[i]? = _; rw [List.getElem?_map, et]; rfl, at_kT k⟩
  | vals =>
    refine ⟨fun i hi => ⟨e', hi⟩, ⟨e', Nat.le_refl _⟩, fun i x H'' hi y => ?_⟩
    obtain ⟨rfl, k, eu⟩ := y
    obtain ⟨t, et, at'⟩ := al'.get eu
    exact ⟨Same.refl _, t, by show (kvs.map (·.2))[i]? = _; rw [List.getElem?_map, et]; rfl, at'⟩
  | items =>
    refine ⟨fun i hi => ⟨e', hi⟩, ⟨e', Nat.le_refl _⟩, fun i x H'' hi y => ?_⟩
    obtain ⟨T', k, u, eu, rfl, hT, rfl⟩ := y
    obtain ⟨t, et, at'⟩ := al'.get eu
    have sm : Same H' (upd H' T' (.tup [kV k, u])) := same_new hT
    exact ⟨sm, .tup [kT k, t], by show (kvs.map fun kv => T.tup [kT kv.1, kv.2])[i]? = _; rw [List.getElem?_map, et]; rfl, .tup (fun z => bd _ z hT) (.inl upd_same) (.cons (at_kT k) (.cons (at'.keep (.same sm)) .nil))⟩
/-- the walk begins: the dict is known -/
theorem ti_frz {w : DW} {td : TE} {d : Addr} {o : Obj} {ks : List (Key × V)} {R : It → Hp → Prop} (h : td σ H fun x H1 => x = .ref d ∧ H1 = H) (mono : ∀ (Q Q' : VK), (∀ x H1, Q x H1 → Q' x H1) → td σ H Q → td σ H Q') (e : H d = some (.frz o (.dK ks))) (q : R (w.it d o ks) H) : w.ti td σ H R := by
  cases w with
  | keys => exact mono _ _ (fun x H1 z => by obtain ⟨rfl, rfl⟩ := z; exact ⟨d, o, rfl, .inl ⟨ks, e, q⟩⟩) h
  | vals => exact mono _ _ (fun x H1 z => by obtain ⟨rfl, rfl⟩ := z; exact ⟨d, o, ks, rfl, e, q⟩) h
  | items => exact mono _ _ (fun x H1 z => by obtain ⟨rfl, rfl⟩ := z; exact ⟨d, o, ks, rfl, e, q⟩) h
theorem ti_var {w : DW} {i : Nat} {d : Addr} {o : Obj} {ks : List (Key × V)} {R : It → Hp → Prop} (ev : σ[i]? = some (some (.ref d))) (e : H d = some (.frz o (.dK ks))) (q : R (w.it d o ks) H) : w.ti (tVar i) σ H R :=
  ti_frz ⟨_, ev, rfl, rfl⟩ (fun Q Q' h ⟨v, e, z⟩ => ⟨v, e, h _ _ z⟩) e q
theorem rf_lcD [h0 : Hist] {w : DW} {i : Nat} {g : TG} {tt : TT} {te : TE} {vs : List Nat} {pg : PG} {pt : PT} {pe : PE} (hg : ∀ [h0 : Hist], RefGw K vs g pg) (ht : ∀ [h0 : Hist], RefT K tt pt) (he : ∀ [h0 : Hist], RefE K te pe) : RefF K (tLockUE (tLc (w.ti (tVar i)) g tt te vs)) (pLc (piD w (pVar i)) pg pt pe vs) := by
  intro O H σ env P Q R hp hq
  have hp' : pVar i env fun t env' => match t with | .dct kvs => (w.of kvs).length ≤ 1000000 ∧ pLcGo pg pt pe vs P (w.of kvs) [] (wipeE env' vs) | _ => False := hp
  have key : ∀ (kvs : List (Key × T)) (env1 : Env) (v : V), σ[i]? = some (some v) → ((w.of kvs).length ≤ 1000000 ∧ pLcGo pg pt pe vs P (w.of kvs) [] (wipeE env1 vs)) → Rel K O H σ env1 → Stp env H env1 H → At K (Bd O env1) H v (.dct kvs) → tLockUE (tLc (w.ti (tVar i)) g tt te vs) σ H Q := by
    intro kvs env1 v ev p1 r1 s1 a1
    cases a1 with
    | @dct a ks _ n e al =>
      have nr : ¬ Root env1 a := fun z => n (.inr z)
      rcases e with e | ⟨o, e⟩
      · refine .inl ⟨a, .dK ks, e, trivial, fun od => ?_⟩
        have rl := (r1.rl.lock (o := od) e n).begin
        refine ti_var ev upd_same ?_
        refine lc_coreP (h0 := hAt O env1 (upd H a (.frz od (.dK ks)))) (Q := fun v H' => H' a = some (.frz od (.dK ks)) ∧ Q v (upd H' a (.dK ks))) (@hg (hAt _ _ _)) (@ht (hAt _ _ _)) (@he (hAt _ _ _)) rl (it_dict n upd_same (al.rd (.lock e))) p1.1 p1.2 fun t env' p H' pt r s hn ho => ?_
        obtain ⟨e1, n1, s2⟩ := stp_lock e nr s
        have np : p ≠ a := fun q => by rw [q, upd_same] at hn; cases hn
        rw [upd_ne np] at hn
        exact ⟨e1, hq t env' p _ pt (r1.join (r.rl.unlock e1 n1) (fun _ q => .inl q) s2 (fun _ q => q.elim .inl fun z => .inr (z ▸ hn))) (s1.trans s2) hn (ho.rdE (.unlock e1) (upd_ne np))⟩
      · exact .inr (ti_var ev e (lc_coreP hg ht he r1 (it_dict n e al) p1.1 p1.2 fun t env' p H' pt r s hn ho => hq t env' p H' pt r (s1.trans s) hn ho))
  unfold pVar at hp'
  cases e : env[i]? with
  | none => rw [e] at hp'; exact hp'.elim
  | some s =>
    rw [e] at hp'
    cases s with
    | none => exact hp'.elim
    | ref p t => exact hp'.elim
    | val t =>
      obtain ⟨v, h1, h2⟩ := R.slot i _ e
      cases t with
      | dct kvs => exact key kvs env v (R.var e h1) hp' R (.refl _ _) h2
      | _ => exact hp'.elim
    | own p t =>
      obtain ⟨h1, h2, h3⟩ := R.free e
      cases t with
      | dct kvs => exact key kvs _ _ h1 hp' h2 stp_putV h3
      | _ => exact hp'.elim
def pWhile (c : PT) (pb : PS) : PS := fun d env => ∃ W : Nat → Env → Prop, (∃ m, W m env) ∧ ∀ m env, W m env →
  c env fun b env1 => if b = true then ∃ N : Env → Prop, (∀ env', N env' → ∃ m', m' < m ∧ W m' env') ∧ pb { d with nx := N, ct := N, bk := d.nx } env1 else d.nx env1
theorem rf_while [h0 : Hist] {c : TT} {pc : PT} {tb : TS} {pb : PS} (hc : RefT K c pc) (hb : RefS K fr tb pb) : RefS K fr (tWhile c tb) (pWhile pc pb) := by
  rintro O H σ env D d R ⟨W, ⟨m0, w0⟩, turn⟩ hd
  refine ⟨fun m σ' H' => ∃ env', W m env' ∧ Rel K O H' σ' env' ∧ Stp env H env' H', ⟨m0, env, w0, R, .refl _ _⟩, ?_⟩
  rintro m σ1 H1 ⟨env1, w1, r1, s1⟩
  refine hc O H1 σ1 env1 _ _ r1 (turn m env1 w1) fun b env2 H2 p2 r2 s2 => ?_
  have s12 := s1.trans s2
  cases b with
  | true =>
    rw [if_pos rfl] at p2 ⊢
    obtain ⟨N, hN, p2⟩ := p2
    refine ⟨fun σ' H' => ∃ env', N env' ∧ Rel K O H' σ' env' ∧ Stp env H env' H', ?_, ?_⟩
    · rintro σ' H' ⟨env', n', r', s'⟩
      obtain ⟨m', hm, w'⟩ := hN env' n'
      exact ⟨m', hm, env', w', r', s'⟩
    · have de := hd.from s12
      exact hb O H2 σ1 env2 _ _ r2 p2 ⟨fun σ3 env3 H3 p3 r3 s3 => ⟨env3, p3, r3, s12.trans s3⟩, de.nx, fun σ3 env3 H3 p3 r3 s3 => ⟨env3, p3, r3, s12.trans s3⟩, de.rt⟩
  | false =>
    rw [if_neg Bool.false_ne_true] at p2 ⊢
    exact hd.nx σ1 env2 H2 p2 r2 s12
end
end Pu

namespace Pu
open PySem PySem.Spec PyProof.Rows L2 He Hk
abbrev PSp := List Slot → (T → List Slot → Prop) → Prop
inductive Shp : List Slot → List Slot → Prop
  | nil : Shp [] []
  | val {t : T} {a b : List Slot} (h : Shp a b) : Shp (.val t :: a) (.val t :: b)
  | ref {p : Addr} {t u : T} {a b : List Slot} (h : Shp a b) : Shp (.ref p t :: a) (.ref p u :: b)
def Fresh (K : PySem.W.Frag) (O : Addr → Prop) (H : Hp) (σ' : L2.St) (env' : Env) (v : V) (H' : Hp) (t : T) : Prop := ∃ p, v = .ref p ∧ H p = none ∧ Rl K (fun a => O a ∨ a = p) H' σ' env' ∧ Holds K (Bd (fun a => O a ∨ a = p) env') H' p t
/-- the promise on the heap -/
def spP (K : PySem.W.Frag) (fr : Bool) (ps : PSp) : Sp := fun vs H Q _ => ∃ (O : Addr → Prop) (sl : List Slot) (P : T → List Slot → Prop), Rl K O H (vs.map some) sl ∧ ps sl P ∧
  ∀ t sl' v H', P t sl' → Shp sl sl' → Rl K O H' (vs.map some) sl' → Stp sl H sl' H' → At K (Bd O sl') H' v t → (fr = true → Fresh K O H (vs.map some) sl' v H' t) → Q v H'
def slotsOf (env : Env) : List Ar → Option (List Slot)
  | [] => some []
  | .val t :: as => match slotsOf env as with | some sl => some (.val t :: sl) | none => none
  | .var i :: as => match ownT env[i]? with | some (p, t) => (match slotsOf env as with | some sl => some (.ref p t :: sl) | none => none) | none => none
def backE (env : Env) : List Ar → List Slot → Env
  | .var i :: as, .ref _ t :: sl => backE (reown env i t) as sl
  | .val _ :: as, _ :: sl => backE env as sl
  | _, _ => env
def isVar (i : Nat) : Ar → Bool
  | .var j => i == j
  | _ => false
def ndA : List Ar → Bool
  | [] => true
  | .val _ :: as => ndA as
  | .var i :: as => !(as.any (isVar i)) && ndA as
def pCall (ps : PSp) (pa : PA) : PE := fun env P => pa env fun as env' => match slotsOf env' as with
  | some sl => ndA as = true ∧ ps sl fun t sl' => P t (backE env' as sl')
  | none => False
section
variable {K : PySem.W.Frag} {O B B' : Addr → Prop} {H H' H1 H2 : Hp} {env env' env1 env2 : Env} {σ : L2.St} {p : Addr} {v : V} {t : T} {fr : Bool}
theorem Shp.get {sl sl' : List Slot} (h : Shp sl sl') : ∀ (i : Nat) (s : Slot), sl'[i]? = some s → ∃ u, sl[i]? = some u ∧ u.root = s.root := by
  induction h with
  | nil => intro i s e; simp at e
  | val _ ih =>
    intro i s e
    cases i with
    | zero => simp at e; subst e; exact ⟨_, rfl, rfl⟩
    | succ i => exact ih i s (by simpa using e)
  | ref _ ih =>
    intro i s e
    cases i with
    | zero => simp at e; subst e; exact ⟨_, rfl, rfl⟩
    | succ i => exact ih i s (by simpa using e)
theorem Shp.root {sl sl' : List Slot} (h : Shp sl sl') {a : Addr} (r : Root sl' a) : Root sl a := by
  obtain ⟨i, s, e, r⟩ := r
  obtain ⟨u, e2, r2⟩ := h.get i s e
  exact ⟨i, u, e2, r2.trans r⟩
theorem ownT_reown {i j : Nat} {u : T} (h : i ≠ j) : ownT (reown env i u)[j]? = ownT env[j]? := by
  unfold reown
  split
  · rw [List.getElem?_set, if_neg h]
  · rw [List.getElem?_set, if_neg h]
  · rfl
theorem reown_ne {i j : Nat} {u : T} (h : i ≠ j) : (reown env i u)[j]? = env[j]? := by
  unfold reown
  split
  · rw [List.getElem?_set, if_neg h]
  · rw [List.getElem?_set, if_neg h]
  · rfl
theorem slotsOf_reown {i : Nat} {u : T} : ∀ {as : List Ar}, as.any (isVar i) = false → slotsOf (reown env i u) as = slotsOf env as
  | [], _ => rfl
  | .val t :: as, h => by
    unfold slotsOf
    rw [slotsOf_reown (as := as) (by simpa [isVar] using h)]
  | .var j :: as, h => by
    rw [List.any_cons, Bool.or_eq_false_iff] at h
    have hj : i ≠ j := fun z => by
      have := h.1
      simp [isVar, z] at this
    unfold slotsOf
    rw [slotsOf_reown (as := as) h.2, ownT_reown hj]
/-- the passed slots alone have new contents -/
theorem back_get : ∀ {as : List Ar} {sl sl' : List Slot} {env : Env}, slotsOf env as = some sl → Shp sl sl' → ndA as = true → ∀ j : Nat,
    ((∃ (k : Nat) (p : Addr) (t : T), as[k]? = some (.var j) ∧ sl'[k]? = some (.ref p t) ∧ (∃ t0, ownT env[j]? = some (p, t0)) ∧ ownT (backE env as sl')[j]? = some (p, t)) ∨ ((∀ k : Nat, as[k]? ≠ some (Ar.var j)) ∧ (backE env as sl')[j]? = env[j]?)) ∧ (backE env as sl').length = env.length
  | [], sl, sl', env, e, h, _, j => by
    cases e; cases h; exact ⟨.inr ⟨fun k z => by simp at z, rfl⟩, rfl⟩
  | .val t :: as, sl, sl', env, e, h, n, j => by
    unfold slotsOf at e
    cases q : slotsOf env as with
    | none => rw [q] at e; cases e
    | some sl0 =>
      rw [q] at e; cases e
      cases h with
      | val h =>
        obtain ⟨h1, h2⟩ := back_get (as := as) q h n j
        refine ⟨?_, h2⟩
        rcases h1 with ⟨k, p, t, e1, e2, e3, e4⟩ | h1
        · exact .inl ⟨k + 1, p, t, by simpa using e1, by simpa using e2, e3, e4⟩
        · refine .inr ⟨fun k z => ?_, h1.2⟩
          cases k with
          | zero => simp at z
          | succ k => exact h1.1 k (by simpa using z)
  | .var i :: as, sl, sl', env, e, h, n, j => by
    unfold slotsOf at e
    unfold ndA at n
    obtain ⟨n1, n2⟩ := Bool.and_eq_true_iff.mp n
    have n1' : as.any (isVar i) = false := by simpa using n1
    cases q0 : ownT env[i]? with
    | none => rw [q0] at e; cases e
    | some pt =>
      obtain ⟨p, t⟩ := pt
      rw [q0] at e
      dsimp only at e
      cases q : slotsOf env as with
      | none => rw [q] at e; cases e
      | some sl0 =>
        rw [q] at e; cases e
        cases h with
        | @ref _ _ u _ b h =>
          have q' : slotsOf (reown env i u) as = some sl0 := by rw [slotsOf_reown n1']; exact q
          obtain ⟨h1, h2⟩ := back_get (as := as) q' h n2 j
          have len : (reown env i u).length = env.length := by unfold reown; split <;> first | (rw [List.length_set]) | rfl
          refine ⟨?_, h2.trans len⟩
          rcases h1 with ⟨k, p', t', e1, e2, e3, e4⟩ | h1
          · have hij : i ≠ j := fun z => by
              subst z
              have : as.any (isVar i) = true := List.any_eq_true.mpr ⟨.var i, List.mem_of_getElem? e1, by simp [isVar]⟩
              rw [this] at n1'; cases n1'
            rw [ownT_reown hij] at e3
            exact .inl ⟨k + 1, p', t', by simpa using e1, by simpa using e2, e3, e4⟩
          · by_cases hij : i = j
            · subst hij
              refine .inl ⟨0, p, u, rfl, rfl, ⟨t, q0⟩, ?_⟩
              show ownT (backE (reown env i u) as b)[i]? = _
              rw [h1.2]
              unfold reown
              cases q5 : env[i]? with
              | none => rw [q5] at q0; cases q0
              | some s =>
                rw [q5] at q0
                have hi := (List.getElem?_eq_some_iff.mp q5).1
                cases s with
                | own p' t' => cases q0; show ownT (env.set i (.own p u))[i]? = _; rw [List.getElem?_set, if_pos rfl, if_pos hi]; rfl
                | ref p' t' => cases q0; show ownT (env.set i (.ref p u))[i]? = _; rw [List.getElem?_set, if_pos rfl, if_pos hi]; rfl
                | none => cases q0
                | val _ => cases q0
            · refine .inr ⟨fun k z => ?_, ?_⟩
              · cases k with
                | zero => simp at z; exact hij z
                | succ k => exact h1.1 k (by simpa using z)
              · show (backE (reown env i u) as b)[j]? = _
                rw [h1.2, reown_ne hij]
theorem ownT_some {s : Option Slot} {p : Addr} {t : T} (h : ownT s = some (p, t)) : ∃ u, s = some u ∧ u.root = some p ∧ (u = .own p t ∨ u = .ref p t) := by
  cases s with
  | none => cases h
  | some u =>
    cases u with
    | own p' t' => cases h; exact ⟨_, rfl, rfl, .inl rfl⟩
    | ref p' t' => cases h; exact ⟨_, rfl, rfl, .inr rfl⟩
    | none => cases h
    | val _ => cases h
/-- the callee's slots -/
theorem args_rel : ∀ {as : List Ar} {vs : List V} {sl : List Slot}, Rl K O H σ env → ArOk K (Bd O env) H σ as vs → slotsOf env as = some sl → vs.length = sl.length ∧ (∀ (k : Nat) (s : Slot), sl[k]? = some s → ∃ v, vs[k]? = some v ∧
      ((∃ t, s = .val t ∧ At K (Bd O env) H v t) ∨ ∃ j p t, as[k]? = some (.var j) ∧ s = .ref p t ∧ v = .ref p ∧ ownT env[j]? = some (p, t) ∧ Holds K (Bd O env) H p t))
  | [], [], sl, R, h, e => by cases e; exact ⟨rfl, fun k s e => by simp at e⟩
  | .val t :: as, v :: vs, sl, R, h, e => by
    unfold slotsOf at e
    cases q : slotsOf env as with
    | none => rw [q] at e; cases e
    | some sl0 =>
      rw [q] at e; cases e
      obtain ⟨l, h2⟩ := args_rel R h.2 q
      refine ⟨by simp [l], fun k s e => ?_⟩
      cases k with
      | zero => simp at e; subst e; exact ⟨v, rfl, .inl ⟨t, rfl, h.1⟩⟩
      | succ k =>
        obtain ⟨w, h3, h4⟩ := h2 k s (by simpa using e)
        refine ⟨w, by simpa using h3, ?_⟩
        rcases h4 with h4 | ⟨j, p, t, e1, r⟩
        · exact .inl h4
        · exact .inr ⟨j, p, t, by simpa using e1, r⟩
  | .var i :: as, v :: vs, sl, R, h, e => by
    unfold slotsOf at e
    cases q0 : ownT env[i]? with
    | none => rw [q0] at e; cases e
    | some pt =>
      obtain ⟨p, t⟩ := pt
      rw [q0] at e
      dsimp only at e
      cases q : slotsOf env as with
      | none => rw [q] at e; cases e
      | some sl0 =>
        rw [q] at e; cases e
        obtain ⟨l, h2⟩ := args_rel R h.2 q
        refine ⟨by simp [l], fun k s e => ?_⟩
        cases k with
        | zero =>
          simp at e; subst e
          have ho := ownT_holds R q0
          obtain ⟨u, eu, ru, _⟩ := ownT_some q0
          have sv := ((R.slot i u eu).root ru).1
          rw [h.1] at sv
          cases sv
          exact ⟨_, rfl, .inr ⟨i, p, t, rfl, rfl, rfl, q0, ho⟩⟩
        | succ k =>
          obtain ⟨w, h3, h4⟩ := h2 k s (by simpa using e)
          refine ⟨w, by simpa using h3, ?_⟩
          rcases h4 with h4 | ⟨j, p, t, e1, r⟩
          · exact .inl h4
          · exact .inr ⟨j, p, t, by simpa using e1, r⟩
  | [], _ :: _, _, _, h, _ => h.elim
  | .val _ :: _, [], _, _, h, _ => h.elim
  | .var _ :: _, [], _, _, h, _ => h.elim
theorem ndA_one : ∀ {as : List Ar} {i j n : Nat}, ndA as = true → as[i]? = some (.var n) → as[j]? = some (.var n) → i = j
  | [], i, j, n, _, e, _ => by simp at e
  | a :: as, i, j, n, h, e1, e2 => by
    have hr : ndA as = true := by
      cases a with
      | val _ => exact h
      | var m => exact (Bool.and_eq_true_iff.mp h).2
    have hd : ∀ k : Nat, a = Ar.var n → as[k]? = some (Ar.var n) → False := fun k ea ek => by
      subst ea
      have h1 := (Bool.and_eq_true_iff.mp h).1
      have : as.any (isVar n) = true := List.any_eq_true.mpr ⟨.var n, List.mem_of_getElem? ek, by simp [isVar]⟩
      rw [this] at h1; cases h1
    cases i with
    | zero =>
      cases j with
      | zero => rfl
      | succ j => exact (hd j (by simpa using e1) (by simpa using e2)).elim
    | succ i =>
      cases j with
      | zero => exact (hd i (by simpa using e2) (by simpa using e1)).elim
      | succ j => exact congrArg Nat.succ (ndA_one hr (by simpa using e1) (by simpa using e2))
/-- the callee's state, and back -/
theorem call_in {as : List Ar} {vs : List V} {sl : List Slot} (R : Rl K O H σ env) (ha : ArOk K (Bd O env) H σ as vs) (e : slotsOf env as = some sl) (nd : ndA as = true) : Rl K (fun a => (O a ∨ Root env a) ∧ ¬ Root sl a) H (vs.map some) sl ∧ (∀ a, Root sl a → Root env a) := by
  obtain ⟨hl, h⟩ := args_rel R ha e
  have hroot : ∀ a, Root sl a → ∃ (k j : Nat) (t : T), as[k]? = some (.var j) ∧ sl[k]? = some (.ref a t) ∧ ownT env[j]? = some (a, t) := by
    rintro a ⟨k, s, es, rs⟩
    obtain ⟨v, hv, q⟩ := h k s es
    rcases q with ⟨t, rfl, _⟩ | ⟨j, p, t, e1, rfl, rfl, e2, _⟩
    · cases rs
    · cases rs; exact ⟨k, j, t, e1, es, e2⟩
  have hsub : ∀ a, Root sl a → Root env a := fun a r => by
    obtain ⟨k, j, t, _, _, e2⟩ := hroot a r
    exact ownT_root e2
  have hb : ∀ a, Bd (fun a => (O a ∨ Root env a) ∧ ¬ Root sl a) sl a → Bd O env a := fun a q => by
    rcases q with q | q
    · exact q.1
    · exact .inr (hsub a q)
  refine ⟨⟨R.tb, by rw [List.length_map]; exact hl, fun k s es => ?_, fun k l s u a e1 e2 r1 r2 => ?_, fun a q => q.2, fun a q => R.bdom q.1⟩, hsub⟩
  · obtain ⟨v, hv, q⟩ := h k s es
    have ev : (vs.map some)[k]?.getD Option.none = some v := by rw [List.getElem?_map, hv]; rfl
    rw [ev]
    rcases q with ⟨t, rfl, at'⟩ | ⟨j, p, t, e1, rfl, rfl, e2, ho⟩
    · exact ⟨v, rfl, at'.keep (.less hb)⟩
    · exact ⟨rfl, ho.keep (.less hb) rfl⟩
  · obtain ⟨v1, _, q1⟩ := h k s e1
    obtain ⟨v2, _, q2⟩ := h l u e2
    rcases q1 with ⟨t1, rfl, _⟩ | ⟨j1, p1, t1, f1, rfl, _, g1, _⟩
    · cases r1
    · rcases q2 with ⟨t2, rfl, _⟩ | ⟨j2, p2, t2, f2, rfl, _, g2, _⟩
      · cases r2
      · cases r1; cases r2
        obtain ⟨u1, a1, b1, _⟩ := ownT_some g1
        obtain ⟨u2, a2, b2, _⟩ := ownT_some g2
        have ej := R.one j1 j2 u1 u2 _ a1 a2 b1 b2
        subst ej
        exact ndA_one nd f1 f2
theorem Shp.symm {sl sl' : List Slot} (h : Shp sl sl') : Shp sl' sl := by
  induction h with
  | nil => exact .nil
  | val _ ih => exact .val ih
  | ref _ ih => exact .ref ih
abbrev OC (O : Addr → Prop) (env : Env) (sl : List Slot) : Addr → Prop := fun a => (O a ∨ Root env a) ∧ ¬ Root sl a
theorem call_out [h0 : Hist] {X : Addr → Prop} {as : List Ar} {vs : List V} {sl sl' : List Slot} (hX : ∀ a, X a → H a = none ∧ H' a ≠ none) (R : Rel K O H σ env) (ha : ArOk K (Bd O env) H σ as vs) (e : slotsOf env as = some sl) (nd : ndA as = true) (sh : Shp sl sl')
    (R' : Rl K (fun a => OC O env sl a ∨ X a) H' (vs.map some) sl') (s : Stp sl H sl' H') : Rel K (fun a => O a ∨ X a) H' σ (backE env as sl') ∧ Stp env H (backE env as sl') H' ∧ (∀ a, Bd (fun a => O a ∨ X a) (backE env as sl') a → Bd (fun a => OC O env sl a ∨ X a) sl' a) := by
  obtain ⟨R0, hsub⟩ := call_in R.rl ha e nd
  have bg := fun j => (back_get e sh nd j).1
  have blen := (back_get e sh nd 0).2
  have broot : ∀ (j : Nat) (u : Slot), (backE env as sl')[j]? = some u → ∃ w, env[j]? = some w ∧ w.root = u.root := by
    intro j u eu
    rcases bg j with ⟨k, p, t, _, _, ⟨t0, g⟩, g2⟩ | g
    · rw [eu] at g2
      obtain ⟨u1, a1, b1, _⟩ := ownT_some g
      obtain ⟨u2, a2, b2, _⟩ := ownT_some g2
      cases a2
      exact ⟨u1, a1, b1.trans b2.symm⟩
    · rw [g.2] at eu; exact ⟨u, eu, rfl⟩
  have broot1 : ∀ a, Root (backE env as sl') a → Root env a := fun a ⟨j, u, eu, ru⟩ => by
    obtain ⟨w, ew, rw'⟩ := broot j u eu
    exact ⟨j, w, ew, rw'.trans ru⟩
  have hbd : ∀ a, Bd (fun a => O a ∨ X a) (backE env as sl') a → Bd (fun a => OC O env sl a ∨ X a) sl' a := by
    rintro a q
    by_cases c : Root sl a
    · exact .inr (sh.symm.root c)
    · rcases q with (q | q) | q
      · exact .inl (.inl ⟨.inl q, c⟩)
      · exact .inl (.inr q)
      · exact .inl (.inl ⟨.inr (broot1 a q), c⟩)
  have st : StB (Bd O env) H (Bd (fun a => O a ∨ X a) (backE env as sl')) H' := by
    refine ⟨fun a o n nt e => s.keep a o (fun z => n (.inr (hsub a z))) e, fun a q => ?_⟩
    rcases q with (q | q) | q
    · exact .inl (.inl q)
    · exact .inr (hX a q).1
    · exact .inl (.inr (broot1 a q))
  have stp : Stp env H (backE env as sl') H' := ⟨fun a o n nt e => s.keep a o (fun z => n (hsub a z)) e, fun a q => .inl (broot1 a q), s.dom⟩
  refine ⟨R.join ⟨R'.tb, by rw [blen]; exact R.len, fun j u eu => ?_, fun j l u w a e1 e2 r1 r2 => ?_, fun a q z => ?_, fun a q => ?_⟩ (fun _ q => .inl q) stp (fun a q => q.elim .inl fun z => .inr (hX a z).1), stp, hbd⟩
  · rcases bg j with ⟨k, p, t, f1, f2, ⟨t0, g⟩, g2⟩ | g
    · rw [eu] at g2
      obtain ⟨u1, a1, b1, _⟩ := ownT_some g
      obtain ⟨u2, a2, b2, c2⟩ := ownT_some g2
      cases a2
      have sv := ((R.slot j u1 a1).root b1).1
      have hk := R'.slot k _ f2
      have ho : Holds K (Bd (fun a => O a ∨ X a) (backE env as sl')) H' p t := hk.2.keep (.less hbd) rfl
      rcases c2 with rfl | rfl
      · exact ⟨sv, ho⟩
      · exact ⟨sv, ho⟩
    · obtain ⟨g0, g⟩ := g
      rw [g] at eu
      by_cases c : ∃ a, u.root = some a ∧ Root sl a
      · obtain ⟨a, ra, k, w, ew, rw'⟩ := c
        obtain ⟨hl, hh⟩ := args_rel R.rl ha e
        obtain ⟨v, hv, q⟩ := hh k w ew
        rcases q with ⟨t, rfl, _⟩ | ⟨j', p, t, e1, rfl, rfl, e2, _⟩
        · cases rw'
        · cases rw'
          obtain ⟨u1, a1, b1, _⟩ := ownT_some e2
          have ej := R.one j j' u u1 _ eu a1 ra b1
          subst ej
          exact absurd e1 (g0 k)
      · refine (R.slot j u eu).keep st fun a ra => ?_
        obtain ⟨_, t, ho⟩ := (R.slot j u eu).root ra
        cases q : H a with
        | none => exact absurd q ho.def
        | some o => exact s.keep a o (fun z => c ⟨a, ra, z⟩) q (ho.nt q)
  · obtain ⟨w1, f1, g1⟩ := broot j u e1
    obtain ⟨w2, f2, g2⟩ := broot l w e2
    exact R.one j l w1 w2 a f1 f2 (g1.trans r1) (g2.trans r2)
  · rcases q with q | q
    · exact R.out a q (broot1 a z)
    · exact R.bdom (.inr (broot1 a z)) (hX a q).1
  · rcases q with q | q
    · exact s.dom a (R.dom a q)
    · exact (hX a q).2
theorem rf_call [h0 : Hist] {ps : PSp} {ta : TA} {pa : PA} {E : XK} (ha : RefA K ta pa) : RefE K (tCall (spP K fr ps) [] E ta) (pCall ps pa) := by
  intro O H σ env P Q R hp hq
  refine ha O H σ env _ _ R hp fun as env' vs H' p1 r1 s1 a1 => ?_
  cases e : slotsOf env' as with
  | none => rw [e] at p1; exact p1.elim
  | some sl =>
    rw [e] at p1
    obtain ⟨nd, p1⟩ := p1
    rw [List.append_nil]
    obtain ⟨R0, _⟩ := call_in r1.rl a1 e nd
    refine ⟨_, sl, _, R0, p1, fun t sl' v H2 p2 sh R2 s2 at2 _ => ?_⟩
    obtain ⟨R3, s3, b3⟩ := call_out (X := fun _ => False) (fun a z => z.elim) r1 a1 e nd sh (R2.less fun a z => z.elim id False.elim) s2
    have R4 : Rel K O H2 σ (backE env' as sl') := R3.less (fun a z => .inl z) r1.hO
    refine hq t _ v H2 p2 R4 (s1.trans s3) (at2.keep (.less fun a z => ?_))
    rcases b3 a (z.elim (fun q => .inl (.inl q)) .inr) with (q | q) | q
    · exact .inl q
    · exact q.elim
    · exact .inr q
theorem rf_callF [h0 : Hist] {ps : PSp} {ta : TA} {pa : PA} {E : XK} (ha : RefA K ta pa) : RefF K (tCall (spP K true ps) [] E ta) (pCall ps pa) := by
  intro O H σ env P Q R hp hq
  refine ha O H σ env _ _ R hp fun as env' vs H' p1 r1 s1 a1 => ?_
  cases e : slotsOf env' as with
  | none => rw [e] at p1; exact p1.elim
  | some sl =>
    rw [e] at p1
    obtain ⟨nd, p1⟩ := p1
    rw [List.append_nil]
    obtain ⟨R0, _⟩ := call_in r1.rl a1 e nd
    refine ⟨_, sl, _, R0, p1, fun t sl' v H2 p2 sh R2 s2 at2 f => ?_⟩
    obtain ⟨p, rfl, hn, Rp, ho⟩ := f rfl
    obtain ⟨R3, s3, b3⟩ := call_out (X := fun a => a = p) (fun a z => by subst z; exact ⟨hn, ho.def⟩) r1 a1 e nd sh Rp s2
    refine hq t _ p H2 p2 R3 (s1.trans s3) ?_ (ho.keep (.less b3) rfl)
    cases q : H p with
    | none => rfl
    | some o => exact absurd hn (s1.dom p (by rw [q]; exact fun z => by cases z))
/-- what the caller gets back of the slots handed in -/
def retSl : List Slot → Env → List Slot
  | .ref _ _ :: r, s :: e => s :: retSl r e
  | s :: r, _ :: e => s :: retSl r e
  | sl, _ => sl
def keepsRef : List Slot → Env → Prop
  | [], _ => True
  | .val _ :: r, _ :: e => keepsRef r e
  | .ref p _ :: r, .ref q _ :: e => p = q ∧ keepsRef r e
  | _, _ => False
def pdOf (fr : Bool) (sl : List Slot) (P : T → List Slot → Prop) : PD := { nx := fun env => fr = false ∧ keepsRef sl env ∧ P .non (retSl sl env), rt := fun t env => keepsRef sl env ∧ P t (retSl sl env) }
def nones (n : Nat) : Env := List.replicate n .none
theorem ret_shp : ∀ {sl : List Slot} {env : Env}, keepsRef sl env → Shp sl (retSl sl env)
  | [], env, _ => by cases env <;> exact .nil
  | .val t :: r, _ :: e, h => .val (ret_shp (sl := r) (env := e) h)
  | .ref p t :: r, .ref q u :: e, h => by obtain ⟨rfl, h⟩ := h; exact .ref (ret_shp h)
  | .val _ :: _, [], h => h.elim
  | .ref _ _ :: _, [], h => h.elim
  | .ref _ _ :: _, .val _ :: _, h => h.elim
  | .ref _ _ :: _, .none :: _, h => h.elim
  | .ref _ _ :: _, .own _ _ :: _, h => h.elim
  | .none :: _, _, h => by cases h
  | .own _ _ :: _, _, h => by cases h
theorem ret_get : ∀ {sl : List Slot} {env : Env}, keepsRef sl env → ∀ (k : Nat) (s : Slot), (retSl sl env)[k]? = some s → (∃ t, sl[k]? = some (.val t) ∧ s = .val t) ∨ ∃ p t t', sl[k]? = some (.ref p t) ∧ env[k]? = some (.ref p t') ∧ s = .ref p t'
  | [], env, _, k, s, e => by cases env <;> simp [retSl] at e
  | .val t :: r, _ :: e, h, k, s, es => by
    cases k with
    | zero => simp [retSl] at es; exact .inl ⟨t, rfl, es.symm⟩
    | succ k => 
      rcases ret_get (sl := r) (env := e) h k s (by simpa [retSl] using es) with ⟨t, h1, h2⟩ | ⟨p, t, t', h1, h2, h3⟩
      · exact .inl ⟨t, by simpa using h1, h2⟩
      · exact .inr ⟨p, t, t', by simpa using h1, by simpa using h2, h3⟩
  | .ref p t :: r, .ref q u :: e, h, k, s, es => by
    obtain ⟨rfl, h⟩ := h
    cases k with
    | zero => simp [retSl] at es; exact .inr ⟨p, t, u, rfl, rfl, es.symm⟩
    | succ k => 
      rcases ret_get (sl := r) (env := e) h k s (by simpa [retSl] using es) with ⟨t, h1, h2⟩ | ⟨p, t, t', h1, h2, h3⟩
      · exact .inl ⟨t, by simpa using h1, h2⟩
      · exact .inr ⟨p, t, t', by simpa using h1, by simpa using h2, h3⟩
  | .val _ :: _, [], h, _, _, _ => h.elim
  | .ref _ _ :: _, [], h, _, _, _ => h.elim
  | .ref _ _ :: _, .val _ :: _, h, _, _, _ => h.elim
  | .ref _ _ :: _, .none :: _, h, _, _, _ => h.elim
  | .ref _ _ :: _, .own _ _ :: _, h, _, _, _ => h.elim
  | .none :: _, _, h, _, _, _ => by cases h
  | .own _ _ :: _, _, h, _, _, _ => by cases h
theorem ret_len : ∀ {sl : List Slot} {env : Env}, keepsRef sl env → (retSl sl env).length = sl.length
  | [], env, _ => by cases env <;> rfl
  | .val t :: r, _ :: e, h => by simp [retSl, ret_len (sl := r) (env := e) h]
  | .ref p t :: r, .ref q u :: e, h => by obtain ⟨rfl, h⟩ := h; simp [retSl, ret_len h]
  | .val _ :: _, [], h => h.elim
  | .ref _ _ :: _, [], h => h.elim
  | .ref _ _ :: _, .val _ :: _, h => h.elim
  | .ref _ _ :: _, .none :: _, h => h.elim
  | .ref _ _ :: _, .own _ _ :: _, h => h.elim
  | .none :: _, _, h => by cases h
  | .own _ _ :: _, _, h => by cases h
theorem root_nones {sl : List Slot} {m : Nat} {a : Addr} : Root (sl ++ nones m) a ↔ Root sl a := by
  constructor
  · rintro ⟨i, s, e, r⟩
    by_cases h : i < sl.length
    · rw [List.getElem?_append_left h] at e; exact ⟨i, s, e, r⟩
    · rw [List.getElem?_append_right (by omega)] at e
      unfold nones at e
      rw [List.getElem?_replicate] at e
      split at e
      · cases e; cases r
      · cases e
  · rintro ⟨i, s, e, r⟩
    exact ⟨i, s, by rw [List.getElem?_append_left (List.getElem?_eq_some_iff.mp e).1]; exact e, r⟩
theorem ret_rel {X : Addr → Prop} {vs : List V} {sl : List Slot} {m : Nat} {σ' : L2.St} (hX : ∀ a, X a → H a = none ∧ H' a ≠ none) (R : Rl K O H (vs.map some) sl) (R' : Rl K (fun a => O a ∨ X a) H' σ' env') (s : Stp (sl ++ nones m) H env' H') (k : keepsRef sl env') :
    Rl K (fun a => O a ∨ X a) H' (vs.map some) (retSl sl env') ∧ Stp sl H (retSl sl env') H' ∧ ∀ a, Root (retSl sl env') a → Root env' a := by
  have rg := ret_get k
  have sh := ret_shp k
  have r1 : ∀ a, Root (retSl sl env') a → Root env' a := fun a ⟨i, u, e, r⟩ => by
    rcases rg i u e with ⟨t, _, rfl⟩ | ⟨p, t, t', _, h2, rfl⟩
    · cases r
    · exact ⟨i, _, h2, r⟩
  have r2 : ∀ a, Root (retSl sl env') a → Root sl a := fun a q => sh.root q
  have st : StB (Bd O sl) H (Bd (fun a => O a ∨ X a) (retSl sl env')) H' := by
    refine ⟨fun a o n nt e => s.keep a o (fun z => n (.inr (root_nones.mp z))) e, fun a q => ?_⟩
    rcases q with (q | q) | q
    · exact .inl (.inl q)
    · exact .inr (hX a q).1
    · exact .inl (.inr (r2 a q))
  refine ⟨⟨R'.tb, by rw [ret_len k]; exact R.len, fun i u e => ?_, fun i j u w a e1 e2 q1 q2 => ?_, fun a q z => R'.out a q (r1 a z), R'.dom⟩, ⟨fun a o n nt e => s.keep a o (fun z => n (root_nones.mp z)) e, fun a q => .inl (r2 a q), s.dom⟩, r1⟩
  · rcases rg i u e with ⟨t, h1, rfl⟩ | ⟨p, t, t', h1, h2, rfl⟩
    · exact (R.slot i _ h1).keep st fun a r => by cases r
    · have sv := (R.slot i _ h1).1
      have ho := (R'.slot i _ h2).2
      exact ⟨sv, ho.keep (.less fun a q => q.elim .inl fun z => .inr (r1 a z)) rfl⟩
  · rcases rg i u e1 with ⟨t, h1, rfl⟩ | ⟨p, t, t', h1, h2, rfl⟩
    · cases q1
    · rcases rg j w e2 with ⟨t2, g1, rfl⟩ | ⟨p2, t2, t2', g1, g2, rfl⟩
      · cases q2
      · cases q1; cases q2
        exact R.one i j _ _ _ h1 g1 rfl rfl
theorem start_rel {vs : List V} {sl : List Slot} {N : List Str} (R : Rl K O H (vs.map some) sl) : Rl K O H (start N vs) (sl ++ nones (N.length - vs.length)) := by
  have hl : vs.length = sl.length := by have := R.len; rwa [List.length_map] at this
  refine ⟨R.tb, by unfold L2.start nones; simp [hl], fun i s e => ?_, fun i j s u a e1 e2 r1 r2 => ?_, fun a q z => R.out a q (root_nones.mp z), R.dom⟩
  · by_cases h : i < sl.length
    · rw [List.getElem?_append_left h] at e
      unfold L2.start
      rw [List.getElem?_append_left (by rw [List.length_map, hl]; exact h)]
      exact (R.slot i s e).keep (.less fun a q => q.elim .inl fun z => .inr (root_nones.mp z)) fun _ _ => rfl
    · rw [List.getElem?_append_right (by omega)] at e
      unfold nones at e
      rw [List.getElem?_replicate] at e
      split at e
      · cases e; trivial
      · cases e
  · obtain ⟨s1, a1⟩ : ∃ x, sl[i]? = some x ∧ x = s := by
      by_cases h : i < sl.length
      · rw [List.getElem?_append_left h] at e1; exact ⟨s, e1, rfl⟩
      · rw [List.getElem?_append_right (by omega)] at e1
        unfold nones at e1
        rw [List.getElem?_replicate] at e1
        split at e1
        · cases e1; cases r1
        · cases e1
    obtain ⟨s2, a2⟩ : ∃ x, sl[j]? = some x ∧ x = u := by
      by_cases h : j < sl.length
      · rw [List.getElem?_append_left h] at e2; exact ⟨u, e2, rfl⟩
      · rw [List.getElem?_append_right (by omega)] at e2
        unfold nones at e2
        rw [List.getElem?_replicate] at e2
        split at e2
        · cases e2; cases r2
        · cases e2
    exact R.one i j s u a (a1.2 ▸ a1.1) (a2.2 ▸ a2.1) r1 r2
/-- what was handed in to be written stands there still -/
theorem keep_root : ∀ {sl : List Slot} {env : Env} {j : Nat} {s : Slot} {a : Addr}, keepsRef sl env → sl[j]? = some s → s.root = some a → Root env a
  | [], _, j, s, a, _, e, _ => by simp at e
  | .val t :: r, w :: env, 0, s, a, k, e, h => by cases e; cases h
  | .val t :: r, w :: env, j + 1, s, a, k, e, h => by
    obtain ⟨i, u, e2, r2⟩ := keep_root (sl := r) (env := env) (j := j) k (by simpa using e) h
    exact ⟨i + 1, u, by simpa using e2, r2⟩
  | .ref p t :: r, .ref q u :: env, 0, s, a, k, e, h => by cases e; exact ⟨0, .ref q u, rfl, by rw [← h, k.1]; rfl⟩
  | .ref p t :: r, .ref q u :: env, j + 1, s, a, k, e, h => by
    obtain ⟨i, v, e2, r2⟩ := keep_root (sl := r) (env := env) (j := j) k.2 (by simpa using e) h
    exact ⟨i + 1, v, by simpa using e2, r2⟩
  | .val _ :: _, [], _, _, _, k, _, _ => k.elim
  | .ref _ _ :: _, [], _, _, _, k, _, _ => k.elim
  | .ref _ _ :: _, .val _ :: _, _, _, _, k, _, _ => k.elim
  | .ref _ _ :: _, .none :: _, _, _, _, k, _, _ => k.elim
  | .ref _ _ :: _, .own _ _ :: _, _, _, _, k, _, _ => k.elim
  | .none :: _, _, _, _, _, k, _, _ => by cases k
  | .own _ _ :: _, _, _, _, _, k, _, _ => by cases k
theorem keep_new {sl : List Slot} {env : Env} {m : Nat} {p : Addr} (k : keepsRef sl env) (n : ¬ Root env p) (h : Root (sl ++ nones m) p ∨ H p = none) : H p = none := h.elim (fun ⟨j, s, e, r⟩ => by
  by_cases hj : j < sl.length
  · rw [List.getElem?_append_left hj] at e
    exact absurd (keep_root k e r) n
  · rw [List.getElem?_append_right (by omega)] at e
    unfold nones at e
    rw [List.getElem?_replicate] at e
    split at e
    · cases e; cases r
    · cases e) id
/-- from a body's reading to the def's promise -/
theorem body_ok {ps : PSp} {ts : TS} {pb : PS} {N : List Str} {n : Nat} (hr : ∀ [h0 : Hist], RefS K fr ts pb) (hn : ∀ sl P, ps sl P → sl.length = n) (hp : ∀ sl P, ps sl P → pb (pdOf fr sl P) (sl ++ nones (N.length - n))) {vs : List V} {Q : VK} {E : XK} (h : spP K fr ps vs H Q E) :
    ts { nx := fun _ H' => Q .non H', rt := Q } (start N vs) H := by
  obtain ⟨O, sl, P, R, hps, hq⟩ := h
  have hl : vs.length = sl.length := by have := R.len; rwa [List.length_map] at this
  have hv : vs.length = n := hl.trans (hn sl P hps)
  have R0 := start_rel (N := N) R
  have hb := hp sl P hps
  rw [hv] at R0
  refine @hr (hAt O (sl ++ nones (N.length - n)) H) O H _ _ _ _ R0.begin hb (@EndsOk.mk (hAt _ _ _) _ _ _ _ _ _ _ (fun σ' env' H' h r s => ?_) (fun σ' env' H' h r s => h.elim) (fun σ' env' H' h r s => h.elim) (fun t σ' env' v H' h r s a f => ?_))
  · obtain ⟨rfl, k, hP⟩ := h
    obtain ⟨q1, q2, q3⟩ := ret_rel (X := fun _ => False) (fun a z => z.elim) R (r.rl.less fun a z => z.elim id False.elim) s k
    exact hq .non _ .non H' hP (ret_shp k) (q1.less fun a z => .inl z) q2 .non fun z => by cases z
  · obtain ⟨k, hP⟩ := h
    obtain ⟨q1, q2, q3⟩ := ret_rel (X := fun _ => False) (fun a z => z.elim) R (r.rl.less fun a z => z.elim id False.elim) s k
    refine hq t _ v H' hP (ret_shp k) (q1.less fun a z => .inl z) q2 (a.keep (.less fun a z => z.elim .inl fun w => .inr (q3 a w))) fun z => ?_
    obtain ⟨p, rfl, hn, rp, ho⟩ := f z
    have hn := keep_new k (rp.rl.out p (.inr rfl)) hn
    obtain ⟨w1, w2, w3⟩ := ret_rel (X := fun a => a = p) (fun a z => by subst z; exact ⟨hn, ho.def⟩) R rp.rl s k
    exact ⟨p, rfl, hn, w1, ho.keep (.less fun a z => z.elim .inl fun w => .inr (w3 a w)) rfl⟩
end
end Pu

namespace Hk
open PySem PySem.Calls PySem.Spec PyProof.Rows PyProof.V L2 PySem.W
abbrev EnumIt (h : Heap) (e it : Addr) (c : Int) (item : Value) (a : Addr) (f : Bool) : Prop :=
  h.get? e = some { cls := .type "enumerate", dict := none, data := .fields #[rawInt a, .bool f, .ref it, rawInt c, .none, item], slots := #[] }
section
variable {prog : Program} {w : World} {A : Around} {E : Value → Shared → Prop} {s : Shared}
def EnSt (h : Heap) (e it S : Addr) (i : Nat) : Prop :=
  (i = 0 ∧ IsEnum h e it ((0 : Nat) : Int) .none) ∨ ∃ old a f oa, EnumIt h e it ((i : Nat) : Int) old a f ∧ h.get? a = some oa ∧ a ≠ e ∧ a ≠ it ∧ a ≠ S
theorem EnSt.keep {h h' : Heap} {e it S : Addr} {i : Nat} (x : EnSt h e it S i) (hk : ∀ b o, b ≠ S → h.get? b = some o → h'.get? b = some o) (hS : e ≠ S) : EnSt h' e it S i := by
  rcases x with ⟨z, he⟩ | ⟨old, a, f, oa, he, ha, h1, h2, h3⟩
  · exact .inl ⟨z, hk _ _ hS he⟩
  · exact .inr ⟨old, a, f, oa, hk _ _ hS he, hk _ _ h3 ha, h1, h2, h3⟩
end
end Hk

namespace Hk
open PySem PySem.Spec PyProof.Rows L2 He
section
variable {X : Cx}
def rInD : R2 := fun y x H Q => ∃ a o, x = .ref a ∧ DGet H a y o ∧ Q (.bl o.isSome) H
theorem op_inD (hu : X.A.units + 64 < cLine) : OpR X (compareOp .In) rInD := by
  intro pins s σ H x y v u Q I rx ry h
  obtain ⟨a, o, rfl, g, q⟩ := h
  cases ry
  exact d_in (lt1 hu) I g rx fun s3 I3 => ⟨.bl o.isSome, H, I3, rfl, q⟩
def rInA (K : PySem.W.Frag) : R2 := fun x y H Q => rInU K x y H Q ∨ rInD x y H Q
theorem oInA (hu : X.A.units + 64 < cLine) : OpR X (compareOp .In) (rInA X.K) := OpR.or (oIn hu) (op_inD hu)
end
end Hk

namespace Pu
open PySem PySem.Spec PyProof.Rows L2 He Hk
section
variable {K : PySem.W.Frag} {O B B' : Addr → Prop} {H H' H1 H2 : Hp} {env env' env1 env2 : Env} {σ : L2.St} {p : Addr} {v : V} {t : T} {fr : Bool}
theorem OpOk.join {r r' : R2} {a b : OpT} (h : OpOk K (r2 r) a) (h' : OpOk K (r2 r') b) : OpOk K (r2 fun x y H Q => r x y H Q ∨ r' x y H Q) (fun ts P => a ts P ∨ b ts P) := by
  intro B H vs ts P Q hB hb hp hq
  have key : ∀ {q : R2}, r2 q vs H Q → ((∀ x y H Q, q x y H Q → r x y H Q ∨ r' x y H Q) → r2 (fun x y H Q => r x y H Q ∨ r' x y H Q) vs H Q) := by
    intro q hq f
    match vs, hq with
    | [x, y], hq => exact f x y H Q hq
  rcases hp with hp | hp
  · exact key (h B H vs ts P Q hB hb hp hq) fun _ _ _ _ => .inl
  · exact key (h' B H vs ts P Q hB hb hp hq) fun _ _ _ _ => .inr
def hasT (kvs : List (Key × T)) (k : Key) : Bool := (valT kvs k).isSome
def oDInG (neg : Bool) : OpT
  | [k, .dct kvs], P => match keyT k with | some k => P (.bl (neg ^^ hasT kvs k)) | none => False
  | _, _ => False
theorem dget_any {a : Addr} {kvs : List (Key × V)} {ks : List (Key × T)} {k : Key} {w : V} {u : T} (ha : Rd H a (.dK kvs)) (al : AtK K B H kvs ks) (hw : Br K B H w u) (e : keyT u = some k) : ∃ o, DGet H a w o ∧ o.isSome = hasT ks k := by
  refine ⟨valV kvs k, .inl ⟨kvs, k, ha, at_key hw e, rfl⟩, ?_⟩
  unfold hasT
  cases q : valT ks k with
  | none => rw [al.val_none q]; rfl
  | some t => obtain ⟨x, e1, _⟩ := al.val q; rw [e1]; rfl
theorem ok_dIn : OpOk K (r2 rInD) (oDInG false) := by
  refine OpOk.pair (fun B H v w t u P Q hB hv hw hp hq => ?_) fun ts P h => by unfold oDInG at h; split at h <;> first | exact ⟨_, _, rfl⟩ | exact h.elim
  unfold oDInG at hp
  split at hp
  · rename_i e; cases e
    obtain ⟨a, kvs, rfl, ha, al⟩ := hw.dct
    cases e : keyT t with
    | none => rw [e] at hp; exact hp.elim
    | some k =>
      rw [e] at hp
      obtain ⟨o, g, h⟩ := dget_any ha al hv e
      refine ⟨a, o, rfl, g, ?_⟩
      rw [h]
      have q := hq _ _ H hp (Same.refl H) (.bl _)
      rw [Bool.false_xor] at q
      exact q
  · exact hp.elim
def oInA : OpT := fun ts P => oIn ts P ∨ oDInG false ts P
theorem ok_inA : OpOk K (r2 (rInA K)) oInA := OpOk.join (r := rInU K) (r' := rInD) ok_in ok_dIn
theorem AtL.dropLast {xs : List V} {ts : List T} (h : AtL K B H xs ts) : AtL K B H xs.dropLast ts.dropLast := by
  rw [List.dropLast_eq_take, List.dropLast_eq_take, h.length]; exact h.take _
end
end Pu

namespace Pu
open PySem PySem.Spec PyProof.Rows L2 He Hk
abbrev PX := T → Env → Prop
/-- the wish of an error on the heap is that of X -/
def XOk [h0 : Hist] (K : PySem.W.Frag) (W : WX) (X : PX) : Prop := ∀ (O : Addr → Prop) (H : Hp) (σ : L2.St) (env : Env) (C d : Addr) (fs : List (Str × V)) (ts : List (Key × T)),
  X (.ins C ts) env → Rel K O H σ env → H d = some (.xd fs) → AtK K (Bd O env) H (fK fs) ts → W (.ref C) (some d) σ H
section
variable {K : PySem.W.Frag} {O B B' : Addr → Prop} {H H' H1 H2 : Hp} {env env' env1 env2 : Env} {σ : L2.St} {p : Addr} {v : V} {t : T} {fr : Bool} {W : WX} {X : PX}
/-- raise C(e) -/
def tRaise (W : WX) (C : Addr) (f : Str) (ta : TA) : TS := fun _ σ H => tMk1 C f ta σ H fun cls d H' => W cls d σ H'
def pRaise (X : PX) (C : Addr) (f : Str) (pe : PE) : PS := fun _ env => pe env fun t env' => X (.ins C [(.inr f, t)]) env'
theorem rf_raise [h0 : Hist] {C : Addr} {f : Str} {te : TE} {pe : PE} (hx : XOk K W X) (he : RefE K te pe) : RefS K fr (tRaise W C f (tCons te tNil)) (pRaise X C f pe) := by
  intro O H σ env D d R hp hd
  refine he O H σ env _ _ R hp fun t env' v H' p1 r1 s1 a1 => ⟨v, rfl, fun d hn => ?_⟩
  have sm : Same H' (upd H' d (.xd [(f, v)])) := same_new hn
  exact hx O _ σ env' C d [(f, v)] _ p1 (r1.same sm) upd_same (.cons (a1.keep (.same sm)) .nil)
abbrev PSpX := List Slot → (T → List Slot → Prop) → (T → List Slot → Prop) → Prop
def spX (K : PySem.W.Frag) (fr : Bool) (ps : PSpX) : Sp := fun vs H Q E => ∃ (O : Addr → Prop) (sl : List Slot) (P X : T → List Slot → Prop), Rl K O H (vs.map some) sl ∧ ps sl P X ∧
  (∀ t sl' v H', P t sl' → Shp sl sl' → Rl K O H' (vs.map some) sl' → Stp sl H sl' H' → At K (Bd O sl') H' v t → (fr = true → Fresh K O H (vs.map some) sl' v H' t) → Q v H') ∧
  ∀ C ts sl' d fs H', X (.ins C ts) sl' → Shp sl sl' → Rl K O H' (vs.map some) sl' → Stp sl H sl' H' → H' d = some (.xd fs) → AtK K (Bd O sl') H' (fK fs) ts → E (.ref C) (some d) H'
def pCallX (ps : PSpX) (X : PX) (pa : PA) : PE := fun env P => pa env fun as env' => match slotsOf env' as with
  | some sl => ndA as = true ∧ ps sl (fun t sl' => P t (backE env' as sl')) fun x sl' => X x (backE env' as sl')
  | none => False
theorem rf_callX [h0 : Hist] {ps : PSpX} {ta : TA} {pa : PA} (hx : XOk K W X) (ha : RefA K ta pa) : RefE K (tCallS (spX K fr ps) (WE W) ta) (pCallX ps X pa) := by
  intro O H σ env P Q R hp hq
  refine ha O H σ env _ _ R hp fun as env' vs H' p1 r1 s1 a1 => ?_
  cases e : slotsOf env' as with
  | none => rw [e] at p1; exact p1.elim
  | some sl =>
    rw [e] at p1
    obtain ⟨nd, p1⟩ := p1
    obtain ⟨R0, _⟩ := call_in r1.rl a1 e nd
    refine ⟨_, sl, _, _, R0, p1, fun t sl' v H2 p2 sh R2 s2 at2 _ => ?_, fun C ts sl' d fs H2 p2 sh R2 s2 hd ak => ?_⟩
    · obtain ⟨R3, s3, b3⟩ := call_out (X := fun _ => False) (fun a z => z.elim) r1 a1 e nd sh (R2.less fun a z => z.elim id False.elim) s2
      refine hq t _ v H2 p2 (R3.less (fun a z => .inl z) r1.hO) (s1.trans s3) (at2.keep (.less fun a z => ?_))
      rcases b3 a (z.elim (fun q => .inl (.inl q)) .inr) with (q | q) | q
      · exact .inl q
      · exact q.elim
      · exact .inr q
    · obtain ⟨R3, s3, b3⟩ := call_out (X := fun _ => False) (fun a z => z.elim) r1 a1 e nd sh (R2.less fun a z => z.elim id False.elim) s2
      refine hx O H2 σ _ C d fs ts p2 (R3.less (fun a z => .inl z) r1.hO) hd (ak.keep (.less fun a z => ?_))
      rcases b3 a (z.elim (fun q => .inl (.inl q)) .inr) with (q | q) | q
      · exact .inl q
      · exact q.elim
      · exact .inr q
/-- nothing is raised -/
theorem xok_no [h0 : Hist] : XOk K (fun _ _ _ _ => False) (fun _ _ => False) := fun _ _ _ _ _ _ _ _ z _ _ _ => z
def pxOf (sl : List Slot) (X : T → List Slot → Prop) : PX := fun x env => keepsRef sl env ∧ X x (retSl sl env)
theorem body_okX {ps : PSpX} {ts : WX → TS} {pb : PX → PS} {N : List Str} {n : Nat} (hr : ∀ [h0 : Hist] (W : WX) (X : PX), XOk K W X → RefS K fr (ts W) (pb X)) (hn : ∀ sl P X, ps sl P X → sl.length = n)
    (hp : ∀ sl P X, ps sl P X → pb (pxOf sl X) (pdOf fr sl P) (sl ++ nones (N.length - n))) {vs : List V} {Q : VK} {E : XK} (h : spX K fr ps vs H Q E) :
    ts (fun cls d _ H' => E cls d H') { nx := fun _ H' => Q .non H', rt := Q } (start N vs) H := by
  obtain ⟨O, sl, P, X, R, hps, hq, hx⟩ := h
  have hl : vs.length = sl.length := by have := R.len; rwa [List.length_map] at this
  have hv : vs.length = n := hl.trans (hn sl P X hps)
  have R0 := start_rel (N := N) R
  have hb := hp sl P X hps
  rw [hv] at R0
  refine @hr (hAt O (sl ++ nones (N.length - n)) H) _ (pxOf sl X) ?_ O H _ _ _ _ R0.begin hb (@EndsOk.mk (hAt _ _ _) _ _ _ _ _ _ _ (fun σ' env' H' h r s => ?_) (fun σ' env' H' h r s => h.elim) (fun σ' env' H' h r s => h.elim) (fun t σ' env' v H' h r s a f => ?_))
  · intro O' H' σ' env' C d fs ts hX r hd ak
    obtain ⟨k, hX⟩ := hX
    have hO : ∀ a, O a → O' a := @Rel.hO (hAt _ _ _) _ _ _ _ _ r
    obtain ⟨q1, q2, q3⟩ := ret_rel (X := fun _ => False) (fun a z => z.elim) R (r.rl.less fun a z => z.elim (hO a) False.elim) r.hs k
    exact hx C ts _ d fs H' hX (ret_shp k) (q1.less fun a z => .inl z) q2 hd (ak.keep (.less fun a z => z.elim (fun q => .inl (hO a q)) fun w => .inr (q3 a w)))
  · obtain ⟨rfl, k, hP⟩ := h
    obtain ⟨q1, q2, q3⟩ := ret_rel (X := fun _ => False) (fun a z => z.elim) R (r.rl.less fun a z => z.elim id False.elim) s k
    exact hq .non _ .non H' hP (ret_shp k) (q1.less fun a z => .inl z) q2 .non fun z => by cases z
  · obtain ⟨k, hP⟩ := h
    obtain ⟨q1, q2, q3⟩ := ret_rel (X := fun _ => False) (fun a z => z.elim) R (r.rl.less fun a z => z.elim id False.elim) s k
    refine hq t _ v H' hP (ret_shp k) (q1.less fun a z => .inl z) q2 (a.keep (.less fun a z => z.elim .inl fun w => .inr (q3 a w))) fun z => ?_
    obtain ⟨p, rfl, hn, rp, ho⟩ := f z
    have hn := keep_new k (rp.rl.out p (.inr rfl)) hn
    obtain ⟨w1, w2, w3⟩ := ret_rel (X := fun a => a = p) (fun a z => by subst z; exact ⟨hn, ho.def⟩) R rp.rl s k
    exact ⟨p, rfl, hn, w1, ho.keep (.less fun a z => z.elim .inl fun w => .inr (w3 a w)) rfl⟩
theorem Rl.putV {i : Nat} (R : Rl K O H σ env) (h : At K (Bd O env) H v t) : Rl K O H (σ.set i (some v)) (env.set i (.val t)) := by
  have hi : ∀ a, Bd O (env.set i (.val t)) a → Bd O env a := fun a q => by
    rcases q with q | q
    · exact .inl q
    · rcases root_set q with ⟨z, _⟩ | ⟨j, u, _, e, r⟩
      · cases z
      · exact .inr ⟨j, u, e, r⟩
  exact R.put hi (fun _ q => q) (fun a _ z => by cases z) ⟨v, rfl, h.keep (.less hi)⟩ (fun j u a _ _ _ z => by cases z)
theorem root_unset {i : Nat} {a : Addr} (q : Root (env.set i .none) a) : Root env a := by
  rcases root_set q with ⟨z, _⟩ | ⟨j, u, _, e, r⟩
  · cases z
  · exact ⟨j, u, e, r⟩
theorem stp_unset {i : Nat} : Stp env H (env.set i .none) H := ⟨fun _ _ _ _ e => e, fun a q => .inl (root_unset q), fun _ q => q⟩
theorem Rl.unset {i : Nat} (R : Rl K O H σ env) : Rl K O H (σ.set i none) (env.set i .none) := by
  have back : ∀ (j : Nat) (u : Slot), (env.set i .none)[j]? = some u → (u = .none) ∨ (j ≠ i ∧ env[j]? = some u) := fun j u e => by
    rw [List.getElem?_set] at e
    by_cases h1 : i = j
    · rw [if_pos h1] at e
      split at e
      · cases e; exact .inl rfl
      · cases e
    · rw [if_neg h1] at e; exact .inr ⟨fun z => h1 z.symm, e⟩
  refine ⟨R.tb, by rw [List.length_set, List.length_set]; exact R.len, fun j u e => ?_, fun j k u w a e1 e2 r1 r2 => ?_, fun a q z => R.out a q (root_unset z), R.dom⟩
  · rcases back j u e with rfl | ⟨hj, e⟩
    · trivial
    · rw [List.getElem?_set, if_neg (fun z => hj z.symm)]
      exact (R.slot j u e).keep (.less fun a q => q.elim .inl fun z => .inr (root_unset z)) fun _ _ => rfl
  · rcases back j u e1 with rfl | ⟨_, e1⟩
    · cases r1
    · rcases back k w e2 with rfl | ⟨_, e2⟩
      · cases r2
      · exact R.one j k u w a e1 e2 r1 r2
theorem Rl.noXd (R : Rl K O H σ env) {d : Addr} {fs : List (Str × V)} (h : H d = some (.xd fs)) : ¬ Root env d := fun ⟨i, s, e, r⟩ => by
  obtain ⟨_, t, ho⟩ := (R.slot i s e).root r
  cases ho with
  | lst e _ => rw [h] at e; cases e
  | dct e _ => rw [h] at e; cases e
  | ins e _ => rw [h] at e; cases e
/-- the error that a suite holds, as it was at the suite's beginning -/
def ExcIn [h0 : Hist] (K : PySem.W.Frag) (x : T) (cls : Value) (d : Option Addr) : Prop := ∃ C dd fs ts, x = .ins C ts ∧ cls = .ref C ∧ d = some dd ∧ h0.H0 dd = some (.xd fs) ∧ ¬ Root h0.env0 dd ∧ AtK K (Bd h0.O0 h0.env0) h0.H0 (fK fs) ts
def dAs (i : Nat) (d : PD) : PD := { nx := fun env => d.nx (env.set i .none), rt := d.rt, bk := fun env => d.bk (env.set i .none), ct := fun env => d.ct (env.set i .none) }
theorem EndsOk.begin [h0 : Hist] {D : Ends} {d : PD} (R : Rel K O H σ env) (e : EndsOk K O env H fr D d) : @EndsOk (hAt O env H) K O env H fr D d := by
  refine @EndsOk.mk (hAt O env H) _ _ _ _ _ _ _ (fun σ' env' H' h r s => e.nx σ' env' H' h (R.join r.rl (fun _ q => q) s) s) (fun σ' env' H' h r s => e.bk σ' env' H' h (R.join r.rl (fun _ q => q) s) s) (fun σ' env' H' h r s => e.ct σ' env' H' h (R.join r.rl (fun _ q => q) s) s) fun t σ' env' v H' h r s a f => e.rt t σ' env' v H' h (R.join r.rl (fun _ q => q) s) s a fun z => ?_
  obtain ⟨p, e1, e2, e3, e4⟩ := f z
  exact ⟨p, e1, e2.elim (R.hst.more p) fun z => .inr (R.none0 z), R.join2 e3.rl (fun _ q => .inl q) s (fun _ q => q.elim (fun z => .inl (.inl z)) fun z => z ▸ e2.imp .inr id), e4⟩
def lookK (f : Str) : List (Key × T) → Option T
  | [] => none
  | (.inr g, t) :: r => if f = g then some t else lookK f r
  | (.inl _, _) :: r => lookK f r
theorem look_fK {f : Str} : ∀ {fs : List (Str × V)} {ts : List (Key × T)} {t : T}, AtK K B H (fK fs) ts → lookK f ts = some t → ∃ v, fs.lookup f = some v ∧ At K B H v t
  | [], _, t, .nil, h => by cases h
  | (g, x) :: fs, _, t, .cons (t := u) h r, e => by
    unfold lookK at e
    rw [lookup_put]
    by_cases c : f = g
    · rw [if_pos c] at e; cases e
      rw [if_pos c]; exact ⟨x, rfl, h⟩
    · rw [if_neg c] at e
      rw [if_neg c]; exact look_fK (fs := fs) r e
def pXf (a : Addr) (x : T) (C : Addr) (f : Str) (i : Nat) : PE := fun env P => env[i]? = some (.val (.glo a)) ∧ match x with
  | .ins D ts => D = C ∧ (match lookK f ts with | some t => P t env | none => False)
  | _ => False
theorem rf_xf [h0 : Hist] {a C : Addr} {x : T} {cls : Value} {d : Option Addr} {f : Str} {i : Nat} (hx : ExcIn K x cls d) : RefE K (tXf a cls d C f (tVar i)) (pXf a x C f i) := by
  rintro O H σ env P Q R ⟨e, hp⟩ hq
  obtain ⟨D, dd, fs, ts, rfl, rfl, rfl, e4, nr, ak⟩ := hx
  obtain ⟨rfl, hp⟩ := hp
  obtain ⟨v, h1, h2⟩ := R.slot i _ e
  cases h2
  refine ⟨_, R.var e h1, rfl, rfl, dd, fs, ?_⟩
  cases q : lookK f ts with
  | none => rw [q] at hp; exact hp.elim
  | some t =>
    rw [q] at hp
    obtain ⟨u, hu, at'⟩ := look_fK ak q
    exact ⟨u, rfl, R.hst.keep _ _ nr e4, hu, hq t env u H hp R (.refl _ _) (at'.keep R.stb)⟩
end
end Pu

namespace Pu
open PySem PySem.Spec PyProof.Rows L2 He Hk
section
variable {X : Cx} {pins : List (Addr × Obj)} {σ : L2.St} {H : Hp} {s : Shared} {B : Addr → Prop}
theorem sys_neR {o : Obj} (I : Inv X pins σ H s) (hk : X.K.lookup sysModules = some o) {a : Addr} {u : HO} (e : Rd H a u) : a ≠ sysModules := by
  rcases e with e | ⟨q, e⟩
  · exact sys_ne I hk e
  · exact sys_ne I hk e
theorem reads_keysP {K : PySem.W.Frag} {P : Program} {w : World} {h : Heap} : ∀ {es : List DictEntry} {vs : List (Key × Value)} {kvs : List (Key × V)} {ts : List (Key × T)}, Pairs (mixKind P w) es vs → KV kvs vs → AtK K B H kvs ts →
    ReadsAll h (es.map (·.key)) ((T.toDk ts).map (·.1)) [] ∧ Vals (kvs.map (·.2)) (es.map (·.val)) ∧ (T.toDk ts).map (·.2) = T.toDs (ts.map (·.2))
  | _, _, _, _, .nil, r, h => by
    cases r; cases h
    exact ⟨.nil, .nil, rfl⟩
  | _, _, _, _, .cons e1 e2 p, r, h => by
    cases r with
    | cons r1 r2 =>
      cases h with
      | cons h1 h2 =>
        obtain ⟨q1, q2, q3⟩ := reads_keysP p r2 h2
        obtain ⟨ek, ev⟩ := r1
        refine ⟨ReadsAll.cons (as := []) (bs := []) (reads_key ?_) q1, .cons ?_ q2, ?_⟩
        · exact (by rw [← ek] at e1; exact e1)
        · dsimp only
          rw [e2]
          exact ev
        · show _ :: _ = _ :: _
          rw [q3]
mutual
theorem At.reads {o : Obj} (I : Inv X pins σ H s) (hk : X.K.lookup sysModules = some o) : ∀ {x : V} {t : T} {u : Value}, At X.K B H x t → RelV x u → t.dat true = true → ∃ as, Reads s.heap u t.toD as ∧ sysModules ∉ as
  | _, _, _, .non, r, _ => by cases r; exact ⟨_, Reads.none, by simp⟩
  | _, _, _, .bl b, r, _ => by cases r; exact ⟨_, Reads.bool b, by simp⟩
  | _, _, _, .int i, r, _ => by obtain ⟨t, rfl⟩ := r; exact ⟨_, Reads.int i t, by simp⟩
  | _, _, _, .str z, r, _ => by obtain ⟨t, rfl⟩ := r; exact ⟨_, Reads.str z t, by simp⟩
  | _, _, _, .lst n e h, r, d => by
    cases r
    have ne := sys_ne I hk e
    obtain ⟨_, its, m, rv, ho⟩ := I.hok _ _ e
    obtain ⟨as, q, nm⟩ := AtL.reads I hk h rv d
    exact ⟨_, Reads.list ho rfl rfl (by simpa using q), by simp [ne.symm, nm]⟩
  | _, _, _, .tup n e h, r, d => by
    cases r
    obtain ⟨its, rv, ⟨ob, ho, hc, m, hd⟩, _⟩ := I.tuple (.inl e)
    obtain ⟨as, q, nm⟩ := AtL.reads I hk h rv d
    exact ⟨_, Reads.tuple ho hc hd (by simpa using q), nm⟩
  | _, _, _, .tupK e h, r, d => by
    cases r
    obtain ⟨its, rv, ⟨ob, ho, hc, m, hd⟩, _⟩ := I.tuple (.inr e)
    obtain ⟨as, q, nm⟩ := AtL.reads I hk h rv d
    exact ⟨_, Reads.tuple ho hc hd (by simpa using q), nm⟩
  | _, _, _, .dct n e h, r, d => by
    cases r
    have ne := sys_neR I hk e
    obtain ⟨_, _, vs, kv, ob, es, ep, ho, hc, hd, _, hp, _⟩ := e.ok I.hok
    obtain ⟨q1, q2, q3⟩ := reads_keysP (h := s.heap) hp kv h
    obtain ⟨bs, q, nm⟩ := AtK.reads I hk h q2 d
    exact ⟨_, Reads.dict ho hc.1 hd q1 (by rw [q3]; exact q), by simp [ne.symm, nm]⟩
  | _, _, _, .ty _, _, d => by cases d
  | _, _, _, .glo _, _, d => by cases d
  | _, _, _, .scr _ _, _, d => by cases d
  | _, _, _, .scrK _, _, d => by cases d
  | _, _, _, .ins _ _ _, _, d => by cases d
theorem AtL.reads {o : Obj} (I : Inv X pins σ H s) (hk : X.K.lookup sysModules = some o) : ∀ {xs : List V} {ts : List T} {us : List Value}, AtL X.K B H xs ts → Vals xs us → T.datL true ts = true → ∃ as, ReadsAll s.heap us (T.toDs ts) as ∧ sysModules ∉ as
  | _, _, _, .nil, r, _ => by cases r; exact ⟨_, ReadsAll.nil, by simp⟩
  | _, _, _, .cons h t, r, d => by
    obtain ⟨d1, d2⟩ := Bool.and_eq_true_iff.mp d
    cases r with
    | cons r1 r2 =>
      obtain ⟨as, q1, n1⟩ := At.reads I hk h r1 d1
      obtain ⟨bs, q2, n2⟩ := AtL.reads I hk t r2 d2
      exact ⟨_, ReadsAll.cons q1 q2, by simp [n1, n2]⟩
theorem AtK.reads {o : Obj} (I : Inv X pins σ H s) (hk : X.K.lookup sysModules = some o) : ∀ {xs : List (Key × V)} {ts : List (Key × T)} {us : List Value}, AtK X.K B H xs ts → Vals (xs.map (·.2)) us → T.datK true ts = true → ∃ as, ReadsAll s.heap us (T.toDs (ts.map (·.2))) as ∧ sysModules ∉ as
  | _, _, _, .nil, r, _ => by cases r; exact ⟨_, ReadsAll.nil, by simp⟩
  | _, _, _, .cons h t, r, d => by
    obtain ⟨d1, d2⟩ := Bool.and_eq_true_iff.mp d
    cases r with
    | cons r1 r2 =>
      obtain ⟨as, q1, n1⟩ := At.reads I hk h r1 d1
      obtain ⟨bs, q2, n2⟩ := AtK.reads I hk t r2 d2
      exact ⟨_, ReadsAll.cons q1 q2, by simp [n1, n2]⟩
end
def T.text (t : T) : Str := t.toD.shown
/-- it may be written by repr -/
structure Shows (t : T) : Prop where
  dat : t.dat true = true
  able : t.toD.showable = true
  deep : t.toD.depth ≤ 40
  size : t.text.length ≤ 16000000
def rReprP (K : PySem.W.Frag) : List V → Hp → VK → Prop := fun xs H Q => ∃ (x : V) (B : Addr → Prop) (t : T), xs = [x] ∧ Br K B H x t ∧ Shows t ∧ Q (.str t.text) H
theorem Br.reads {o : Obj} {x : V} {t : T} {u : Value} (I : Inv X pins σ H s) (hk : X.K.lookup sysModules = some o) (h : Br X.K B H x t) (r : RelV x u) (d : t.dat true = true) : ∃ as, Reads s.heap u t.toD as ∧ sysModules ∉ as := by
  rcases h with h | ⟨p, rfl, h⟩
  · exact h.reads I hk r d
  · have h' : At X.K (fun a => B a ∧ False) H (.ref p) t := h.at (fun z => z.2) fun a z => z.1
    exact h'.reads I hk r d
theorem call_reprQ {o : Obj} (hu0 : X.A.units + 64 < cLine) (gf : X.A.guards = some []) (hk : X.K.lookup sysModules = some o) : CallR X (.builtin "repr") (rReprP X.K) := by
  intro pins s σ H xs us Q I r h
  obtain ⟨x, B, t, rfl, ht, ok, q⟩ := h
  obtain ⟨u, rfl, ru⟩ := vals1 r
  have hz : t.toD.shown.length ≤ sizeLine := Nat.le_trans ok.size line16
  have hu := hu0
  have ref : ∀ a, u = .ref a → wpAny (model X.prog X.w) X.A (call (.builtin "repr") [u]) (EP X pins σ Q) X.xe s := by
    rintro a rfl
    obtain ⟨as, rd, nm⟩ := ht.reads I hk ru ok.dat
    exact repr_of_reads' rd ok.able (fun _ => nm) gf (by have := ok.deep; omega) (fun _ _ e => e) (fun h' u tk kp => ⟨.str _, H, I.kept kp, ⟨_, rfl⟩, q⟩) hz
  have okd := ok.dat
  cases t with
  | non => cases ht.non; cases ru; exact PySem.P.repr_of_none ⟨.str _, H, I.tok _, ⟨_, rfl⟩, q⟩
  | bl b => cases ht.bl; cases ru; exact PySem.P.repr_of_bool ⟨.str _, H, I.tok _, ⟨_, rfl⟩, q⟩
  | int i =>
    cases ht.int
    obtain ⟨tk, rfl⟩ := ru
    exact PySem.P.repr_of_int (of_decide_eq_true ok.able) ⟨.str _, H, I.tok _, ⟨_, rfl⟩, q⟩
  | str z =>
    cases ht.str
    obtain ⟨tk, rfl⟩ := ru
    exact PySem.P.repr_of_str ⟨.str _, H, I.tok _, ⟨_, rfl⟩, q⟩ hz
  | lst ts => obtain ⟨a, _, rfl, _⟩ := ht.lst; exact ref a ru
  | tup ts => obtain ⟨a, _, rfl, _⟩ := ht.tup; exact ref a ru
  | dct ts => obtain ⟨a, _, rfl, _⟩ := ht.dct; exact ref a ru
  | _ => cases okd
theorem call_reprP {k : Nat} {o : Obj} (g : RoomG k X.A) (hk : X.K.lookup sysModules = some o) : CallR X (.builtin "repr") (rReprP X.K) := call_reprQ g.units g.free hk
end
def oRepr : OpT
  | [t], P => Shows t ∧ P (.str t.text)
  | _, _ => False
section
variable {K : PySem.W.Frag} {O B B' : Addr → Prop} {H H' H1 H2 : Hp} {env env' env1 env2 : Env} {σ : L2.St} {p : Addr} {v : V} {t : T} {fr : Bool}
theorem ok_repr : OpOk K (rReprP K) oRepr := by
  refine OpOk.uno (fun B H v t P Q hB hv hp hq => ?_) fun ts P h => by unfold oRepr at h; split at h <;> first | exact ⟨_, rfl⟩ | exact h.elim
  exact ⟨v, B, t, rfl, hv, hp.1, hq _ _ H hp.2 (Same.refl H) (.str _)⟩
end
section
variable {P : Program} {w : World} {K : PySem.W.Frag} {mg : Str → Option Value} {base : Heap}
theorem spP_len {fr : Bool} {ps : PSp} {n : Nat} (hn : ∀ sl P, ps sl P → sl.length = n) : ∀ vs H Q E, spP K fr ps vs H Q E → vs.length = n := by
  rintro vs H Q E ⟨O, sl, P, R, hps, _⟩
  have hl : vs.length = sl.length := by have := R.len; rwa [List.length_map] at this
  exact hl.trans (hn sl P hps)
theorem mkP {x : Str} {st : Stmt} {N ps : List Str} {k : Nat} {fr : Bool} {psp : PSp} {pb : PS} {ts : TS} (F : ∃ fd, FnP K x st (ga K x) fd) (g : mg x = some (.ref (ga K x))) (sc : FnScope N ps (defScope st))
    (hb : ∀ (kV doc pm : Value) (an : Option Addr) (cdv ct : Value) (us : List Value), us.length = ps.length → bindArgs (PySem.W.fnOf x x (defArgs st) (defBody st) (defScope st) .none kV doc pm an cdv ct) ⟨us, []⟩ = pure (ps.zip us))
    (hd : ∀ (cdv : Value) (A : Around) (outer : List PySem.Env) (s : Shared) (H : Hp) (E : XK), RoomG k (A.deeper (envOfC x (defScope st) s.heap.objs.size (ga K x) cdv)) → PSs (cxOf CX0 P w K mg base N x (defScope st) (ga K x) cdv A outer s H E).nox (defBody st) ts)
    (hr : ∀ [h0 : Hist], RefS K fr ts pb) (hn : ∀ sl P, psp sl P → sl.length = ps.length) (hp : ∀ sl P, psp sl P → pb (pdOf fr sl P) (sl ++ nones (N.length - ps.length))) : FOG P w K mg base CX0 (k + 1) x ps (spP K fr psp) :=
  mkG F g sc (spP_len hn) hb fun cdv A outer s H vs Q E hrm h => ⟨ts, hd cdv A outer s H E hrm, body_ok hr hn hp h⟩
/-- a promise that is never asked -/
theorem fog_no {x : Str} {st : Stmt} {ps : List Str} {k : Nat} {sp : Sp} (F : ∃ fd, FnP K x st (ga K x) fd) (g : mg x = some (.ref (ga K x)))
    (hb : ∀ (kV doc pm : Value) (an : Option Addr) (cdv ct : Value) (us : List Value), us.length = ps.length → bindArgs (PySem.W.fnOf x x (defArgs st) (defBody st) (defScope st) .none kV doc pm an cdv ct) ⟨us, []⟩ = pure (ps.zip us))
    (hno : ∀ vs H Q E, ¬ sp vs H Q E) : FOG P w K mg base CX0 k x ps sp := by
  obtain ⟨fd, F⟩ := F
  exact ⟨g, F.kp, fd, F.bindsN hb, fun vs H Q E h => (hno vs H Q E h).elim, fun A outer s H args us vs Q E _ _ _ _ h => (hno vs H Q E h).elim⟩
end
end Pu

namespace Pu
open PySem PySem.Spec PyProof.Rows L2 He Hk
section
variable {X : Cx} {CX : CXT} {k : Nat} {x : Str} {ps : List Str} {sp : Sp} {E : L2.St → XK} {e : Expr} {es : List Expr} {t : TA} {p pos : Pos}
theorem run_fnGS {f : Addr} {fd : FuncData} {pins : List (Addr × Obj)} {σ : L2.St} {H : Hp} {s : Shared} {Q : VK} {us : List Value} {vs : List V} (F : FnG X.prog X.w X.K X.mg X.base CX k f fd ps sp) (g : RoomG k X.A) (hb : Binds X.K fd ps []) (hx : PassesAt CX X σ (E σ))
    (I : L2.Inv X pins σ H s) (r : Vals vs us) (h : sp vs H Q (E σ)) : wpAny (model X.prog X.w) X.A (call (.ref f) us) (EP X pins σ Q) X.xe s := by
  have n1 : us.length = ps.length := by rw [← r.length]; exact F.len _ _ _ _ h
  have b1 := hb s us I.kIn (by rw [List.append_nil]; exact n1)
  rw [List.append_nil] at b1
  refine wpAny_call (codeAny_mono (F.go X.A X.stack s H ⟨us, []⟩ us vs Q (E σ) g I.env0 b1 r h) fun r s' z => ?_)
  cases r with
  | error e => exact hx pins H s e s' I z
  | ok fl => cases fl <;> first | exact I.after z | exact False.elim z
theorem pe_callGS (F : FOG X.prog X.w X.K X.mg X.base CX k x ps sp) (g : RoomG k X.A) (hg : Gl X x) (hx : ∀ σ, PassesAt CX X σ (E σ)) (ha : L2.PA X (e :: es) t)
    (hdb : (x == ("__debug__" : Str)) = false := by decide) (he : starEach (e :: es) X.env = (false, eval e X.env) :: starEach es X.env := by rfl) (hpl : (backTo pos (starEach es X.env)).any (·.1) = false := by rfl) :
    L2.PE X (.Call (.Name x p) (e :: es) [] pos) (tCallS sp E t) := by
  obtain ⟨a, b, fd, c, d⟩ := F
  refine ⟨fun pins s σ H Q I h => wpAny_Call_Name_kw (ld_glob I hg a ?_ hdb)⟩
  refine PySem.W.callWith_K (h₀ := X.base) I.ok.mod.kin b (thn (ha.run pos pins s σ H _ I h) fun us s1 ⟨vs, H1, I1, r, q⟩ => ⟨I1.kIn, ?_⟩) he hpl
  exact run_fnGS d g c (hx σ) I1 r q
end
abbrev WF : WX := fun _ _ _ _ => False
abbrev XF : PX := fun _ _ => False
section
variable {P : Program} {w : World} {K : PySem.W.Frag} {mg : Str → Option Value} {base : Heap}
theorem spX_len {fr : Bool} {ps : PSpX} {n : Nat} (hn : ∀ sl P X, ps sl P X → sl.length = n) : ∀ vs H Q E, spX K fr ps vs H Q E → vs.length = n := by
  rintro vs H Q E ⟨O, sl, P, X, R, hps, _⟩
  have hl : vs.length = sl.length := by have := R.len; rwa [List.length_map] at this
  exact hl.trans (hn sl P X hps)
theorem mkPX {x : Str} {st : Stmt} {N ps : List Str} {k : Nat} {fr : Bool} {psp : PSpX} {pb : PX → PS} {ts : WX → TS} (F : ∃ fd, FnP K x st (ga K x) fd) (g : mg x = some (.ref (ga K x))) (sc : FnScope N ps (defScope st))
    (hb : ∀ (kV doc pm : Value) (an : Option Addr) (cdv ct : Value) (us : List Value), us.length = ps.length → bindArgs (PySem.W.fnOf x x (defArgs st) (defBody st) (defScope st) .none kV doc pm an cdv ct) ⟨us, []⟩ = pure (ps.zip us))
    (hd : ∀ (cdv : Value) (A : Around) (outer : List PySem.Env) (s : Shared) (H : Hp) (E : XK), RoomG k (A.deeper (envOfC x (defScope st) s.heap.objs.size (ga K x) cdv)) → PSs (cxOf (L2.CX P w) P w K mg base N x (defScope st) (ga K x) cdv A outer s H E) (defBody st) (ts fun cls d _ H' => E cls d H'))
    (hr : ∀ [h0 : Hist] (W : WX) (X : PX), XOk K W X → RefS K fr (ts W) (pb X)) (hn : ∀ sl P X, psp sl P X → sl.length = ps.length) (hp : ∀ sl P X, psp sl P X → pb (pxOf sl X) (pdOf fr sl P) (sl ++ nones (N.length - ps.length))) :
    FOG P w K mg base (L2.CX P w) (k + 1) x ps (spX K fr psp) := by
  obtain ⟨fd, F⟩ := F
  exact ⟨g, F.kp, fd, F.bindsN hb, fnG_of F sc (spX_len hn) fun cdv A outer s H vs Q E hrm h => ⟨_, hd cdv A outer s H E hrm, body_okX hr hn hp h⟩⟩
/-- an error's __init__ is walked once -/
theorem mkIni {x f qual msg : Str} {params : Arguments} {body : List Stmt} {scope : Scope} {N ps : List Str} {k : Nat} (F : ∃ fd, FunD K "__init__" qual params body scope [] [] (fAd K (x, some "__init__")) fd) (g : mg x = some (.ref (ga K x))) (T : ErrC K (ga K x) (fAd K (x, some "__init__")) f) (sc : FnScope N ps scope)
    (hN : N.length = 2) (hps : ps.length = 2) (hb : ∀ fd, FunD K "__init__" qual params body scope [] [] (fAd K (x, some "__init__")) fd → Binds K fd ps [])
    (hd : ∀ (cdv : Value) (A : Around) (outer : List PySem.Env) (s : Shared) (H : Hp) (E : XK), PSs (cxOf CX0 P w K mg base N qual scope (fAd K (x, some "__init__")) cdv A outer s H E) body (tIni K f msg)) : ErrG P w K mg base (k + 1) x f := by
  obtain ⟨fd, F⟩ := F
  refine ⟨g, T, fd, ps, hb fd F, fnG_of F sc (fun vs H Q E h => ?_) fun cdv A outer s H vs Q E _ h => ⟨_, hd cdv A outer s H E, ini_ok T hN h⟩⟩
  obtain ⟨a, y, rfl, _⟩ := h
  exact hps.symm
end
/-- what the text says of an error's class, by its name -/
theorem RoomG.suite {k : Nat} {X : Cx} {a : Addr} {pn : List (Addr × Obj)} (g : RoomG k X.A) : (X.suite a pn).A.units + 64 < cLine ∧ (X.suite a pn).A.guards = some [] := ⟨g.units, g.free⟩
end Pu

namespace Hk
open PySem PySem.Spec PyProof.Rows L2 He Pu
theorem pass0At {X : Cx} {σ : L2.St} {E : XK} : PassesAt CX0 X σ E := fun _ _ _ _ _ _ h => h.elim
theorem RoomG.make {k : Nat} {A : Around} (r : RoomG (k + 1) A) (C : Addr) (us : List Value) : RoomG k (A.under (.builtin "type.__call__" ⟨.ref C :: us, []⟩)) := ⟨r.room.make C us [], r.free⟩
/-- the method m of the classes that may be asked -/
def MOG (P : Program) (w : World) (K : PySem.W.Frag) (mg : Str → Option Value) (base : Heap) (CX : CXT) (k : Nat) (m : Str) (tab : List (Addr × Sp)) : Prop :=
  ∀ q, q ∈ tab → Cls K q.1 ∧ ∃ (f : Addr) (fd : FuncData) (ps : List Str), Meth K q.1 m f ∧ Binds K fd ps [] ∧ FnG P w K mg base CX k f fd ps q.2
/-- the defs that a name may hold -/
def VOG (P : Program) (w : World) (K : PySem.W.Frag) (mg : Str → Option Value) (base : Heap) (CX : CXT) (k : Nat) (tab : List (Addr × Sp)) : Prop :=
  ∀ q, q ∈ tab → PySem.W.keepIn K (.ref q.1) = true ∧ ∃ (fd : FuncData) (ps : List Str), Binds K fd ps [] ∧ FnG P w K mg base CX k q.1 fd ps q.2
/-- a class that is made, its __init__ -/
def COG (P : Program) (w : World) (K : PySem.W.Frag) (mg : Str → Option Value) (base : Heap) (CX : CXT) (k : Nat) (x : Str) (sp : Sp) : Prop :=
  mg x = some (.ref (ga K x)) ∧ ∃ (f : Addr) (fd : FuncData) (ps : List Str), Mk K (ga K x) f ∧ Binds K fd ps [] ∧ FnG P w K mg base CX k f fd ps sp
section
variable {P : Program} {w : World} {K : PySem.W.Frag} {mg : Str → Option Value} {base : Heap} {CX : CXT} {j k : Nat}
theorem MOG.mono {m : Str} {tab : List (Addr × Sp)} (M : MOG P w K mg base CX j m tab) (h : j ≤ k) : MOG P w K mg base CX k m tab := fun q hq => by
  obtain ⟨c, f, fd, ps, a, b, d⟩ := M q hq
  exact ⟨c, f, fd, ps, a, b, d.mono h⟩
theorem VOG.mono {tab : List (Addr × Sp)} (M : VOG P w K mg base CX j tab) (h : j ≤ k) : VOG P w K mg base CX k tab := fun q hq => by
  obtain ⟨c, fd, ps, b, d⟩ := M q hq
  exact ⟨c, fd, ps, b, d.mono h⟩
theorem COG.mono {x : Str} {sp : Sp} (M : COG P w K mg base CX j x sp) (h : j ≤ k) : COG P w K mg base CX k x sp := by
  obtain ⟨c, f, fd, ps, a, b, d⟩ := M
  exact ⟨c, f, fd, ps, a, b, d.mono h⟩
theorem MOG.nil {m : Str} : MOG P w K mg base CX k m [] := fun q hq => by cases hq
theorem MOG.cons {m : Str} {C : Addr} {sp : Sp} {tab : List (Addr × Sp)} (h : Cls K C ∧ ∃ (f : Addr) (fd : FuncData) (ps : List Str), Meth K C m f ∧ Binds K fd ps [] ∧ FnG P w K mg base CX k f fd ps sp) (r : MOG P w K mg base CX k m tab) : MOG P w K mg base CX k m ((C, sp) :: tab) := fun q hq => by
  rcases List.mem_cons.mp hq with rfl | hq
  · exact h
  · exact r q hq
theorem VOG.nil : VOG P w K mg base CX k [] := fun q hq => by cases hq
theorem VOG.cons {f : Addr} {sp : Sp} {tab : List (Addr × Sp)} (h : PySem.W.keepIn K (.ref f) = true ∧ ∃ (fd : FuncData) (ps : List Str), Binds K fd ps [] ∧ FnG P w K mg base CX k f fd ps sp) (r : VOG P w K mg base CX k tab) : VOG P w K mg base CX k ((f, sp) :: tab) := fun q hq => by
  rcases List.mem_cons.mp hq with rfl | hq
  · exact h
  · exact r q hq
end
/-- o.m(..) -/
def tMethS (m : Str) (tab : List (Addr × Sp)) (E : L2.St → XK) (ta : TE) (t : TA) : TE := fun σ H Q => ta σ H fun x H1 => ∃ a C dx fs sp, (C, sp) ∈ tab ∧ x = .ref a ∧ H1 a = some (.ins C dx fs) ∧ fs.lookup m = none ∧ t σ H1 fun vs H2 => sp (.ref a :: vs) H2 Q (E σ)
/-- C(..) -/
def tMakeS (C : Addr) (sp : Sp) (E : L2.St → XK) (t : TA) : TE := fun σ H Q => t σ H fun vs H1 => ∀ x dx, H1 x = none → H1 dx = none → dx ≠ x →
  sp (.ref x :: vs) (upd (upd H1 dx (.own x)) x (.ins C dx [])) (fun v H2 => v = .non ∧ Q (.ref x) H2) (E σ)
section
variable {X : Cx} {CX : CXT} {k : Nat} {x m : Str} {sp : Sp} {tab : List (Addr × Sp)} {E : L2.St → XK} {e o : Expr} {es : List Expr} {ta : TE} {t : TA} {p pos apos p1 p2 : Pos}
theorem pe_methS {pl : Sem Bool} (he : L2.PE X o ta) (M : MOG X.prog X.w X.K X.mg X.base CX k m tab) (g : RoomG k X.A) (hx : ∀ σ, PassesAt CX X σ (E σ)) (ha : L2.PA X (e :: es) t)
    (hst : starEach (e :: es) X.env = (false, eval e X.env) :: starEach es X.env := by rfl) (hpl : (backTo pos (starEach es X.env)).any (·.1) = false := by rfl)
    (ht : eval (.Call (.Attribute o m apos) (e :: es) [] pos) X.env = (do
      let ov ← eval o X.env
      standAt apos.atName
      let (f, first) ← holding [ov] (getMethod ov m pl)
      callWith pos f first (backTo pos (starEach (e :: es) X.env)) (backToKw pos (keywordEach [] X.env))) := by rfl) :
    L2.PE X (.Call (.Attribute o m apos) (e :: es) [] pos) (tMethS m tab E ta t) := by
  refine ⟨fun pins s σ H Q I h => ?_⟩
  refine PySem.W.methodCall_KW (pl := pl) (thn (he.run pins s σ H _ I h) fun u s1 ⟨x, H1, I1, rx, a, C, dx, fs, sp, hm, ex, ea, l, q⟩ => ?_) ht
  subst ex
  obtain rfl : u = Value.ref a := rx
  obtain ⟨c, f, fd, ps, hmt, hb, F⟩ := M _ hm
  refine getmeth_ok I1 ea c hmt l ?_
  refine PySem.W.callWith_K (first := [.ref a]) (h₀ := X.base) I.ok.mod.kin hmt.kp (thn (ha.run pos pins s1 σ H1 _ I1 q) fun us s2 ⟨vs, H2, I2, r, q2⟩ => ⟨I2.kIn, ?_⟩) hst hpl
  exact run_fnGS (us := .ref a :: us) (vs := .ref a :: vs) F g hb (hx σ) I2 (.cons rfl r) q2
theorem pe_methS0 {pl : Sem Bool} (he : L2.PE X o ta) (M : MOG X.prog X.w X.K X.mg X.base CX k m tab) (g : RoomG k X.A) (hx : ∀ σ, PassesAt CX X σ (E σ))
    (ht : eval (.Call (.Attribute o m apos) [] [] pos) X.env = (do
      let ov ← eval o X.env
      standAt apos.atName
      let (f, first) ← holding [ov] (getMethod ov m pl)
      callWith pos f first (backTo pos (starEach [] X.env)) (backToKw pos (keywordEach [] X.env))) := by rfl) :
    L2.PE X (.Call (.Attribute o m apos) [] [] pos) (tMethS m tab E ta tNil) := by
  refine ⟨fun pins s σ H Q I h => ?_⟩
  refine PySem.W.methodCall_KW (pl := pl) (thn (he.run pins s σ H _ I h) fun u s1 ⟨x, H1, I1, rx, a, C, dx, fs, sp, hm, ex, ea, l, q⟩ => ?_) ht
  subst ex
  obtain rfl : u = Value.ref a := rx
  obtain ⟨c, f, fd, ps, hmt, hb, F⟩ := M _ hm
  refine getmeth_ok I1 ea c hmt l ?_
  exact PySem.W.callWith_K0 (first := [.ref a]) I1.kIn hmt.kp (run_fnGS (us := [.ref a]) (vs := [.ref a]) F g hb (hx σ) I1 (.cons rfl .nil) q)
theorem run_makeS {C f : Addr} {fd : FuncData} {ps : List Str} {pins : List (Addr × Obj)} {σ : L2.St} {H : Hp} {s : Shared} {Q : VK} {us : List Value} {vs : List V} (M : Mk X.K C f) (F : FnG X.prog X.w X.K X.mg X.base CX k f fd ps sp) (hr : RoomG (k + 1) X.A) (hb : Binds X.K fd ps [])
    (hx : PassesAt CX X σ (E σ)) (I : L2.Inv X pins σ H s) (r : Vals vs us)
    (h : ∀ x dx, H x = none → H dx = none → dx ≠ x → sp (.ref x :: vs) (upd (upd H dx (.own x)) x (.ins C dx [])) (fun v H2 => v = .non ∧ Q (.ref x) H2) (E σ)) :
    wpAny (model X.prog X.w) X.A (call (.ref C) us) (EP X pins σ Q) X.xe s := by
  have hq := h (s.heap.objs.size + 1) s.heap.objs.size (I.hok.fresh (Nat.le_succ _)) (I.hok.fresh (Nat.le_refl _)) (Nat.ne_of_lt (Nat.lt_succ_self _))
  have I2 := Inv.made (C := C) I
  have r2 : Vals (V.ref (s.heap.objs.size + 1) :: vs) (Value.ref (s.heap.objs.size + 1) :: us) := .cons rfl r
  have hl : (Value.ref (s.heap.objs.size + 1) :: us).length = ps.length := by
    have e := r2.length
    rw [F.len _ _ _ _ hq] at e
    exact e.symm
  have b1 := hb _ (Value.ref (s.heap.objs.size + 1) :: us) I2.kIn (by rw [List.append_nil]; exact hl)
  rw [List.append_nil] at b1
  refine wpAny_call (make_map (f := f) I.kIn M.makes M.init (beq_iff_eq.mp M.fn) (codeAny_mono (F.go _ X.stack _ _ ⟨Value.ref (s.heap.objs.size + 1) :: us, []⟩ (Value.ref (s.heap.objs.size + 1) :: us) _ _ (E σ) (hr.make C us)
    (I2.env0.make C us []) b1 r2 hq) fun r s' hq' => ?_))
  cases r with
  | error e => exact hx pins _ _ e s' I2 hq'
  | ok fl =>
    cases fl with
    | ret u =>
      obtain ⟨v, H', I3, rv, ev, q3⟩ := I2.after hq'
      subst ev
      exact ⟨rv, ⟨V.ref (s.heap.objs.size + 1), H', I3, rfl, q3⟩⟩
    | next => exact False.elim hq'
    | brk => exact False.elim hq'
    | cont => exact False.elim hq'
theorem pe_makeS (M : COG X.prog X.w X.K X.mg X.base CX k x sp) (hr : RoomG (k + 1) X.A) (hg : Gl X x) (hx : ∀ σ, PassesAt CX X σ (E σ)) (ha : L2.PA X (e :: es) t)
    (hdb : (x == ("__debug__" : Str)) = false := by decide) (he : starEach (e :: es) X.env = (false, eval e X.env) :: starEach es X.env := by rfl) (hpl : (backTo pos (starEach es X.env)).any (·.1) = false := by rfl) :
    L2.PE X (.Call (.Name x p) (e :: es) [] pos) (tMakeS (ga X.K x) sp E t) := by
  obtain ⟨hm, f, fd, ps, M, hb, F⟩ := M
  refine ⟨fun pins s σ H Q I h => ?_⟩
  refine wpAny_Call_Name_kw (ld_glob I hg hm ?_ hdb)
  refine PySem.W.callWith_K (h₀ := X.base) I.ok.mod.kin M.kp (thn (ha.run pos pins s σ H _ I h) fun us s1 ⟨vs, H1, I1, r, q⟩ => ⟨I1.kIn, ?_⟩) he hpl
  exact run_makeS M F hr hb (hx σ) I1 r q
/-- a def asked of the class that holds it: C.m(..) -/
structure ClF (K : PySem.W.Frag) (C : Addr) (m : Str) (f : Addr) : Prop where
  rd : PySem.W.readsIn K C (.type "type") = true
  ga : PySem.W.specialIn K (.ref C) "__getattribute__" = some (some (.builtin "type.__getattribute__"))
  at_ : PySem.W.findCls K (.ref C) (.type "type") m = some (.val (.ref f))
  kp : PySem.W.keepIn K (.ref f) = true
end
end Hk

namespace Pu
open PySem PySem.Spec PyProof.Rows L2 He Hk
section
variable {K : PySem.W.Frag} {O B B' : Addr → Prop} {H H' H1 H2 : Hp} {env env' env1 env2 : Env} {σ : L2.St} {p : Addr} {v : V} {t : T} {fr : Bool} {W : WX} {X : PX}
def cA (ps : PSp) (as : List Ar) (env : Env) (P : T → Env → Prop) : Prop := match slotsOf env as with
  | some sl => ndA as = true ∧ ps sl fun t sl' => P t (backE env as sl')
  | none => False
def cX (ps : PSpX) (X : PX) (as : List Ar) (env : Env) (P : T → Env → Prop) : Prop := match slotsOf env as with
  | some sl => ndA as = true ∧ ps sl (fun t sl' => P t (backE env as sl')) fun x sl' => X x (backE env as sl')
  | none => False
theorem sp_call [h0 : Hist] {ps : PSp} {as : List Ar} {vs : List V} {P : T → Env → Prop} {Q : VK} {E : XK} (r1 : Rel K O H' σ env') (a1 : ArOk K (Bd O env') H' σ as vs) (p1 : cA ps as env' P)
    (hq : ∀ t env2 v H2, P t env2 → Rel K O H2 σ env2 → Stp env' H' env2 H2 → At K (Bd O env2) H2 v t → Q v H2) : spP K fr ps vs H' Q E := by
  unfold cA at p1
  cases e : slotsOf env' as with
  | none => rw [e] at p1; exact p1.elim
  | some sl =>
    rw [e] at p1
    obtain ⟨nd, p1⟩ := p1
    obtain ⟨R0, _⟩ := call_in r1.rl a1 e nd
    refine ⟨_, sl, _, R0, p1, fun t sl' v H2 p2 sh R2 s2 at2 _ => ?_⟩
    obtain ⟨R3, s3, b3⟩ := call_out (X := fun _ => False) (fun a z => z.elim) r1 a1 e nd sh (R2.less fun a z => z.elim id False.elim) s2
    have R4 : Rel K O H2 σ (backE env' as sl') := R3.less (fun a z => .inl z) r1.hO
    refine hq t _ v H2 p2 R4 s3 (at2.keep (.less fun a z => ?_))
    rcases b3 a (z.elim (fun q => .inl (.inl q)) .inr) with (q | q) | q
    · exact .inl q
    · exact q.elim
    · exact .inr q
theorem sp_callX [h0 : Hist] {ps : PSpX} {as : List Ar} {vs : List V} {P : T → Env → Prop} {Q : VK} (hx : XOk K W X) (r1 : Rel K O H' σ env') (a1 : ArOk K (Bd O env') H' σ as vs) (p1 : cX ps X as env' P)
    (hq : ∀ t env2 v H2, P t env2 → Rel K O H2 σ env2 → Stp env' H' env2 H2 → At K (Bd O env2) H2 v t → Q v H2) : spX K fr ps vs H' Q (WE W σ) := by
  unfold cX at p1
  cases e : slotsOf env' as with
  | none => rw [e] at p1; exact p1.elim
  | some sl =>
    rw [e] at p1
    obtain ⟨nd, p1⟩ := p1
    obtain ⟨R0, _⟩ := call_in r1.rl a1 e nd
    refine ⟨_, sl, _, _, R0, p1, fun t sl' v H2 p2 sh R2 s2 at2 _ => ?_, fun C ts sl' d fs H2 p2 sh R2 s2 hd ak => ?_⟩
    · obtain ⟨R3, s3, b3⟩ := call_out (X := fun _ => False) (fun a z => z.elim) r1 a1 e nd sh (R2.less fun a z => z.elim id False.elim) s2
      refine hq t _ v H2 p2 (R3.less (fun a z => .inl z) r1.hO) s3 (at2.keep (.less fun a z => ?_))
      rcases b3 a (z.elim (fun q => .inl (.inl q)) .inr) with (q | q) | q
      · exact .inl q
      · exact q.elim
      · exact .inr q
    · obtain ⟨R3, s3, b3⟩ := call_out (X := fun _ => False) (fun a z => z.elim) r1 a1 e nd sh (R2.less fun a z => z.elim id False.elim) s2
      refine hx O H2 σ _ C d fs ts p2 (R3.less (fun a z => .inl z) r1.hO) hd (ak.keep (.less fun a z => ?_))
      rcases b3 a (z.elim (fun q => .inl (.inl q)) .inr) with (q | q) | q
      · exact .inl q
      · exact q.elim
      · exact .inr q
def putI (f : Str) (t : T) : List (Key × T) → List (Key × T)
  | [] => [(.inr f, t)]
  | (.inr g, x) :: r => if g = f then (.inr g, t) :: r else (.inr g, x) :: putI f t r
  | (.inl i, x) :: r => (.inl i, x) :: putI f t r
theorem AtK.putI {f : Str} {x : V} {t : T} (h : At K B H x t) : ∀ {fs : List (Str × V)} {ts : List (Key × T)}, AtK K B H (fK fs) ts → AtK K B H (fK (putF f x fs)) (putI f t ts)
  | [], _, .nil => .cons h .nil
  | (g, y) :: fs, _, .cons (t := u) h1 r => by
    unfold putF Pu.putI
    by_cases c : g = f
    · rw [if_pos c, if_pos c]; exact .cons h r
    · rw [if_neg c, if_neg c]; exact .cons h1 (AtK.putI h (fs := fs) r)
theorem fK_len {fs : List (Str × V)} : (fK fs).length = fs.length := by unfold fK; rw [List.length_map]
def kSetF (K : PySem.W.Frag) (i : Nat) (f : Str) (t : T) (env1 : Env) (Q : Env → Prop) : Prop := match ownT env1[i]? with
  | some (_, .ins C fs) => Cls K C ∧ NoAttr K C f ∧ fs.length < 1000 ∧ Q (reown env1 i (.ins C (putI f t fs)))
  | _ => False
def pSetF (K : PySem.W.Frag) (i : Nat) (pe : PE) (f : Str) : PS := fun d env => pe env fun t env1 => kSetF K i f t env1 d.nx
theorem rf_setF [h0 : Hist] {i : Nat} {te : TE} {pe : PE} {f : Str} (he : RefE K te pe) : RefS K fr (sFld K (tVar i) te f) (pSetF K i pe f) := by
  intro O H σ env D d R hp hd
  refine he O H σ env _ _ R hp fun t env1 v H1 p1 r1 s1 a1 => ?_
  unfold kSetF at p1
  cases e : ownT env1[i]? with
  | none => rw [e] at p1; exact p1.elim
  | some q =>
    obtain ⟨p, u⟩ := q
    rw [e] at p1
    cases u with
    | ins C ts =>
      obtain ⟨c, na, hl, p1⟩ := p1
      have ho := ownT_holds r1.rl e
      cases ho with
      | @ins _ dx fs _ eh al =>
        have rt := ownT_root e
        have st := stb_own (O := O) (H := H1) (o := .ins C dx (putF f v fs)) (.inr rt)
        obtain ⟨w1, w2, w3⟩ := r1.write (o := .ins C dx (putF f v fs)) e (.ins upd_same ((AtK.putI a1 al).keep st))
        refine ⟨_, w1, p, C, dx, fs, rfl, eh, c, na, ?_, hd.nx σ _ _ p1 w2 (s1.trans w3)⟩
        have := al.length
        rw [fK_len] at this
        omega
    | _ => exact p1.elim
def mtP (K : PySem.W.Frag) (fr : Bool) (tab : List (Addr × PSp)) : List (Addr × Sp) := tab.map fun q => (q.1, spP K fr q.2)
def mtX (K : PySem.W.Frag) (fr : Bool) (tab : List (Addr × PSpX)) : List (Addr × Sp) := tab.map fun q => (q.1, spX K fr q.2)
theorem look_none {f : Str} : ∀ {fs : List (Str × V)} {ts : List (Key × T)}, AtK K B H (fK fs) ts → lookK f ts = none → fs.lookup f = none
  | [], _, .nil, _ => rfl
  | (g, x) :: fs, _, .cons (t := u) h r, e => by
    unfold lookK at e
    rw [lookup_put]
    by_cases c : f = g
    · rw [if_pos c] at e; cases e
    · rw [if_neg c] at e
      rw [if_neg c]; exact look_none (fs := fs) r e
end
end Pu

namespace Pu
open PySem PySem.Spec PyProof.Rows L2 He Hk
section
variable {K : PySem.W.Frag} {O B B' : Addr → Prop} {H H' H1 H2 : Hp} {env env' env1 env2 : Env} {σ : L2.St} {p x dx C : Addr} {v : V} {t : T} {fr : Bool} {W : WX} {X : PX} {ts : List T} {vs : List V}
abbrev mkH (H : Hp) (x dx C : Addr) : Hp := upd (upd H dx (.own x)) x (.ins C dx [])
theorem mk_same (hx : H x = none) (hd : H dx = none) : Same H (mkH H x dx C) := fun a o e => by
  have n1 : a ≠ x := fun z => by rw [z, hx] at e; cases e
  have n2 : a ≠ dx := fun z => by rw [z, hd] at e; cases e
  unfold mkH
  rw [upd_ne n1, upd_ne n2]; exact e
theorem root_mk {a : Addr} {q : Addr} {u : T} (h : Root (.ref q u :: ts.map Slot.val) a) : a = q := by
  obtain ⟨i, s, e, r⟩ := h
  cases i with
  | zero => simp at e; subst e; cases r; rfl
  | succ i =>
    rw [List.getElem?_cons_succ, List.getElem?_map] at e
    cases q : ts[i]? with
    | none => rw [q] at e; cases e
    | some t => rw [q] at e; cases e; cases r
theorem arok_val : ∀ {ts : List T} {vs : List V}, ArOk K B H σ (ts.map Ar.val) vs → AtL K B H vs ts
  | [], [], _ => .nil
  | [], _ :: _, h => h.elim
  | _ :: _, [], h => h.elim
  | t :: ts, v :: vs, h => .cons h.1 (arok_val h.2)
theorem make_in (r1 : Rl K O H' σ env') (a1 : AtL K (Bd O env') H' vs ts) (hx : H' x = none) (hd : H' dx = none) : Rl K (fun a => O a ∨ Root env' a) (mkH H' x dx C) ((V.ref x :: vs).map some) (.ref x (.ins C []) :: ts.map Slot.val) := by
  have sm := mk_same (C := C) hx hd
  refine ⟨tabs_same sm r1.tb, by simp [a1.length], fun i s e => ?_, fun i j s u a e1 e2 q1 q2 => ?_, fun a q z => ?_, fun a q => ?_⟩
  · cases i with
    | zero =>
      simp at e; subst e
      exact ⟨rfl, .ins (dx := dx) (fs := []) upd_same .nil⟩
    | succ i =>
      rw [List.getElem?_cons_succ, List.getElem?_map] at e
      cases q : ts[i]? with
      | none => rw [q] at e; cases e
      | some t =>
        rw [q] at e; cases e
        obtain ⟨w, e1, h1⟩ := a1.get' q
        refine ⟨w, by simp [e1], h1.keep ⟨fun a o _ nt e => sm a o e, fun a z => ?_⟩⟩
        rcases z with (z | z) | z
        · exact .inl (.inl z)
        · exact .inl (.inr z)
        · rw [root_mk z]; exact .inr hx
  · have f : ∀ (i : Nat) (s : Slot), (Slot.ref x (.ins C []) :: ts.map Slot.val)[i]? = some s → s.root = some a → i = 0 := fun i s e r => by
      cases i with
      | zero => rfl
      | succ i =>
        rw [List.getElem?_cons_succ, List.getElem?_map] at e
        cases q : ts[i]? with
        | none => rw [q] at e; cases e
        | some t => rw [q] at e; cases e; cases r
    rw [f i s e1 q1, f j u e2 q2]
  · have := root_mk z; subst this
    rcases q with q | q
    · exact r1.dom _ q hx
    · exact r1.bdom (.inr q) hx
  · have h : H' a ≠ none := by
      rcases q with q | q
      · exact r1.dom a q
      · exact r1.bdom (.inr q)
    exact (Stp.same (env := env') sm).dom a h
theorem make_out [h0 : Hist] {sl' : List Slot} (r1 : Rel K O H' σ env') (hx : H' x = none) (hd : H' dx = none) (s2 : Stp (.ref x (.ins C []) :: ts.map Slot.val) (mkH H' x dx C) sl' H2) (tb2 : LamX.Tabs (TbK K) H2) : Rel K (fun a => O a ∨ a = x) H2 σ env' ∧ Stp env' H' env' H2 := by
  have sm := mk_same (C := C) hx hd
  have ra : Rel K (fun a => O a ∨ a = x) (mkH H' x dx C) σ env' := r1.also hx sm (by rw [show mkH H' x dx C x = _ from upd_same]; exact fun z => by cases z)
  have kp : ∀ a o, a ≠ x → NT o → mkH H' x dx C a = some o → H2 a = some o := fun a o na nt e => s2.keep a o (fun z => na (root_mk z)) e
  have nR : ¬ Root env' x := ra.out x (.inr rfl)
  have hx0 : h0.H0 x = none := r1.none0 hx
  refine ⟨⟨⟨tb2, ra.len, fun i s e => (ra.slot i s e).keep ⟨fun a o n nt e => kp a o (fun z => n (.inl (.inr z))) nt e, fun a q => .inl q⟩ fun a r => ?_, ra.one, ra.out, fun a q => s2.dom a (ra.dom a q)⟩, ra.hO, ra.hN, fun a o n nt e => kp a o (fun z => by subst z; rw [hx0] at e; cases e) nt (ra.hst.keep a o n e), ra.hst.more, fun a q => s2.dom a (ra.hst.dom a q)⟩, fun a o n nt e => kp a o (fun z => by subst z; rw [hx] at e; cases e) nt (sm a o e), fun a q => .inl q, fun a q => s2.dom a ((Stp.same (env := env') sm).dom a q)⟩
  have na : a ≠ x := fun z => by subst z; exact nR ⟨i, s, e, r⟩
  obtain ⟨_, t', h'⟩ := (ra.slot i s e).root r
  cases q : mkH H' x dx C a with
  | none => exact absurd q h'.def
  | some o => exact kp a o na (h'.nt q) q
/-- what __init__ leaves -/
def kMade (r : T) (sl' : List Slot) (env' : Env) (P : T → Env → Prop) : Prop := r = .non ∧ match sl' with
  | .ref _ u :: _ => P u env'
  | _ => False
def pMake (C : Addr) (ps : PSp) (pa : PA) : PE := fun env P => pa env fun as env' => ∃ ts : List T, as = ts.map Ar.val ∧ ∀ p, ps (.ref p (.ins C []) :: ts.map Slot.val) fun r sl' => kMade r sl' env' P
theorem rf_make [h0 : Hist] {ps : PSp} {ta : TA} {pa : PA} {E : L2.St → XK} (ha : RefA K ta pa) : RefF K (tMakeS C (spP K fr ps) E ta) (pMake C ps pa) := by
  intro O H σ env P Q R hp hq
  refine ha O H σ env _ _ R hp fun as env' vs H' p1 r1 s1 a1 => ?_
  obtain ⟨ts, rfl, p1⟩ := p1
  intro x dx hx hd ne
  refine ⟨_, _, _, make_in r1.rl (arok_val a1) hx hd, p1 x, fun r sl' v H2 p2 sh R2 s2 at2 _ => ?_⟩
  obtain ⟨rfl, p2⟩ := p2
  cases sh with
  | @ref _ _ u _ b sh =>
  obtain ⟨R3, s3⟩ := make_out r1 hx hd s2 R2.tb
  refine ⟨by cases at2; rfl, ?_⟩
  have hh := (R2.slot 0 _ rfl).2
  have hn : H x = none := by
    cases q : H x with
    | none => rfl
    | some o => exact absurd hx (s1.dom x (by rw [q]; exact fun z => by cases z))
  refine hq u env' x H2 p2 R3 (s1.trans s3) hn (hh.keep (.less fun a q => ?_) rfl)
  rcases q with (q | q) | q
  · exact .inl (.inl q)
  · exact .inr ⟨0, _, rfl, by rw [q]; rfl⟩
  · exact .inl (.inr q)
end
end Pu

namespace Hk
open PySem PySem.Calls PySem.Spec PyProof.Rows PyProof.V L2 PySem.W
abbrev ZipF (h : Heap) (z TI TO : Addr) (f0 : Value) (b : Bool) : Prop :=
  h.get? z = some { cls := .type "zip", dict := none, data := .fields #[f0, .bool b, .bool false, .ref TI, .ref TO], slots := #[] }
def ZF (h : Heap) (z TI TO : Addr) : Prop := ∃ (f0 : Value) (b : Bool), (f0 = .none ∨ ∃ T : Addr, f0 = rawInt T) ∧ ZipF h z TI TO f0 b
section
variable {prog : Program} {w : World} {A : Around} {E : Value → Shared → Prop} {s : Shared}
theorem ZF.keep {h h' : Heap} {z TI TO : Addr} (x : ZF h z TI TO) (k : ∀ o, h.get? z = some o → h'.get? z = some o) : ZF h' z TI TO := by
  obtain ⟨f0, b, hf, hz⟩ := x
  exact ⟨f0, b, hf, k _ hz⟩
end
end Hk

namespace Pu
open PySem PySem.Spec PyProof.Rows L2 He Hk
section
variable {env env' env1 : Env} {P : T → Env → Prop} {d : PD} {t u : T} {i : Nat} {p : Addr}
theorem w_seq {a b : PS} (h : a { d with nx := b d } env) : pSeq a b d env := h
theorem w_if {c : PT} {a b : PS} (h : c env fun b' env1 => if b' = true then a d env1 else b d env1) : pIf c a b d env := h
theorem w_ret {a : PE} (h : a env fun t env1 => d.rt t env1) : pRet a d env := h
theorem w_next (h : d.nx env) : pNext d env := h
theorem w_drop {a : PE} (h : a env fun _ env1 => d.nx env1) : pDrop a d env := h
theorem w_asg {a : PE} {g : PG} (h : a env fun t env1 => g t env1 d.nx) : pAsg a g d env := h
def kOwn (i : Nat) (t : T) (env : Env) (Q : Env → Prop) : Prop := noRef env i ∧ ∀ p, Q (env.set i (.own p t))
theorem w_own {a : PE} (h : a env fun t env1 => kOwn i t env1 d.nx) : pOwn a i d env := h
theorem w_kOwn {Q : Env → Prop} (hr : noRef env i) (h : ∀ p env', env.set i (.own p t) = env' → Q env') : kOwn i t env Q := ⟨hr, fun p => h p _ rfl⟩
theorem w_name {Q : Env → Prop} (hr : noRef env i) (e : env.set i (.val t) = env') (h : Q env') : pgName i t env Q := ⟨hr, e ▸ h⟩
theorem w_c (h : P t env) : pC t env P := h
theorem w_var (e : env[i]? = some (.val t)) (h : P t env) : pVar i env P := by unfold pVar; rw [e]; exact h
theorem w_varO (e : env[i]? = some (.own p t)) (e2 : env.set i (.val t) = env') (h : P t env') : pVar i env P := by subst e2; unfold pVar; rw [e]; exact h
def kO (rp : OpT) (as : List Ar) (env : Env) (P : T → Env → Prop) : Prop := match tsOf env as with
  | some ts => rp ts fun t => P t env
  | none => False
theorem w_op {rp : OpT} {pa : PA} (h : pa env fun as env' => kO rp as env' P) : pOp rp pa env P := h
theorem w_kO {rp : OpT} {as : List Ar} {ts : List T} (e : tsOf env as = some ts) (h : rp ts fun t => P t env) : kO rp as env P := by unfold kO; rw [e]; exact h
theorem w_nil {R : List Ar → Env → Prop} (h : R [] env) : pNil env R := h
theorem w_cons {a : PE} {pa : PA} {R : List Ar → Env → Prop} (h : a env fun t env1 => pa env1 fun as env2 => R (.val t :: as) env2) : pCons a pa env R := h
theorem w_consV {pa : PA} {R : List Ar → Env → Prop} (e : has env i) (h : pa env fun as env2 => R (.var i :: as) env2) : pConsV i pa env R := ⟨e, h⟩
def kB (t : T) (env : Env) (Q : Bool → Env → Prop) : Prop := match t with | .bl b => Q b env | _ => False
theorem w_test {a : PE} {Q : Bool → Env → Prop} (h : a env fun t env' => kB t env' Q) : pTest a env Q := h
theorem w_kB {b : Bool} {Q : Bool → Env → Prop} (h : Q b env) : kB (.bl b) env Q := h
theorem w_and {c e : PT} {Q : Bool → Env → Prop} (h : c env fun b env1 => if b = true then e env1 Q else Q false env1) : pAnd c e env Q := h
theorem w_or {c e : PT} {Q : Bool → Env → Prop} (h : c env fun b env1 => if b = true then Q true env1 else e env1 Q) : pOr c e env Q := h
theorem w_not {c : PT} {Q : Bool → Env → Prop} (h : c env fun b env1 => Q (!b) env1) : pNot c env Q := h
theorem w_andV {a b : PE} (h : a env fun t env1 => kB t env1 fun c env2 => if c = true then b env2 P else P (.bl false) env2) : pAndV a b env P := h
theorem w_orV {a b : PE} (h : a env fun t env1 => kB t env1 fun c env2 => if c = true then P (.bl true) env2 else b env2 P) : pOrV a b env P := h
theorem w_ifE {c : PT} {a b : PE} (h : c env fun k env1 => if k = true then a env1 P else b env1 P) : pIfE c a b env P := h
theorem w_chain {rp rp' : OpT} {a b c : PE} (h : a env fun t env1 => b env1 fun u env2 => rp [t, u] fun z => kB z env2 fun k env2 => if k = true then c env2 fun w env3 => rp' [u, w] fun y => P y env3 else P (.bl false) env2) : pChain rp rp' a b c env P := h
def kV2 (f : List T → T) (as : List Ar) (env : Env) (P : T → Env → Prop) : Prop := match ArV as with
  | some ts => ts.length ≤ 1000000 ∧ P (f ts) env
  | none => False
theorem w_lst {pa : PA} (h : pa env fun as env' => kV2 .lst as env' P) : pLst pa env P := h
theorem w_tup {pa : PA} (h : pa env fun as env' => kV2 .tup as env' P) : pTup pa env P := h
theorem w_kV2 {f : List T → T} {as : List Ar} {ts : List T} (e : ArV as = some ts) (hz : ts.length ≤ 1000000) (h : P (f ts) env) : kV2 f as env P := by unfold kV2; rw [e]; exact ⟨hz, h⟩
theorem w_dnew (h : P (.dct []) env) : pDNew env P := h
def kDs (l : List (T × T)) (env : Env) (P : T → Env → Prop) : Prop := match keyed l with
  | some kvs => kvs.length ≤ 15 ∧ P (.dct (mergeT [] kvs)) env
  | none => False
theorem w_disp {ps : List (PE × PE)} (h : pPairs ps env fun l env' => kDs l env' P) : pDisp ps env P := h
theorem w_pnil {R : List (T × T) → Env → Prop} (h : R [] env) : pPairs [] env R := h
theorem w_pcons {a b : PE} {r : List (PE × PE)} {R : List (T × T) → Env → Prop} (h : a env fun t env1 => b env1 fun u env2 => pPairs r env2 fun l env3 => R ((t, u) :: l) env3) : pPairs ((a, b) :: r) env R := h
theorem w_kDs {l : List (T × T)} {kvs : List (Key × T)} (e : keyed l = some kvs) (hz : kvs.length ≤ 15) (h : P (.dct (mergeT [] kvs)) env) : kDs l env P := by unfold kDs; rw [e]; exact ⟨hz, h⟩
theorem w_sl {a : PE} {lo hi : PO} (h : a env fun t env1 => lo env1 fun l env2 => hi env2 fun u env3 => oSl t l u fun z => P z env3) : pSl a lo hi env P := h
theorem w_noPart {Q : Option Int → Env → Prop} (h : Q none env) : pNoPart env Q := h
def kI (t : T) (env : Env) (Q : Option Int → Env → Prop) : Prop := match t with | .int i => Q (some i) env | _ => False
theorem w_part {a : PE} {Q : Option Int → Env → Prop} (h : a env fun t env' => kI t env' Q) : pPart a env Q := h
theorem w_kI {i : Int} {Q : Option Int → Env → Prop} (h : Q (some i) env) : kI (.int i) env Q := h
def kSl (o : Option T) (l u : Option Int) (P : T → Prop) : Prop := match o with | some t => oSl t l u P | none => False
theorem w_slV {lo hi : PO} (hs : has env i) (h : lo env fun l env2 => hi env2 fun u env3 => kSl (slotT env3[i]?) l u fun z => P z env3) : pSlV i lo hi env P := ⟨hs, h⟩
theorem w_kSl {o : Option T} {l u : Option Int} {R : T → Prop} (e : o = some t) (h : oSl t l u R) : kSl o l u R := by subst e; exact h
theorem v_slS {z : Str} {l u : Option Int} {R : T → Prop} (hz : z.length ≤ 16000000) (h : R (.str (cutS z l u))) : oSl (.str z) l u R := ⟨hz, h⟩
def kSetL (i : Nat) (t k : T) (env1 : Env) (P : Env → Prop) : Prop := match ownT env1[i]? with
  | some (_, .lst ts) => (match k with | .int k => (match ixN ts.length k with | some j => P (reown env1 i (.lst (ts.set j t))) | none => False) | _ => False)
  | _ => False
theorem w_setL {pi : PE} {Q : Env → Prop} (hs : has env i) (h : pi env fun k env1 => kSetL i t k env1 Q) : pgSetL i pi t env Q := ⟨hs, h⟩
theorem w_kSetL {ts : List T} {k : Int} {j : Nat} {Q : Env → Prop} (e : ownT env[i]? = some (p, .lst ts)) (ej : ixN ts.length k = some j) (ee : reown env i (.lst (ts.set j t)) = env') (h : Q env') : kSetL i t (.int k) env Q := by
  subst ee; unfold kSetL; rw [e]; dsimp only; rw [ej]; exact h
def kSetD (i : Nat) (t k : T) (env1 : Env) (P : Env → Prop) : Prop := match ownT env1[i]? with
  | some (_, .dct ts) => ts.length ≤ 1000000 ∧ (match keyT k with | some k => P (reown env1 i (.dct (putT ts k t))) | none => False)
  | _ => False
theorem w_setD {pi : PE} {Q : Env → Prop} (hs : has env i) (h : pi env fun k env1 => kSetD i t k env1 Q) : pgSetD i pi t env Q := ⟨hs, h⟩
theorem w_kSetD {ts : List (Key × T)} {k : T} {k' : Key} {Q : Env → Prop} (e : ownT env[i]? = some (p, .dct ts)) (hz : ts.length ≤ 1000000) (ek : keyT k = some k') (ee : reown env i (.dct (putT ts k' t)) = env') (h : Q env') : kSetD i t k env Q := by
  subst ee; unfold kSetD; rw [e]; dsimp only; rw [ek]; exact ⟨hz, h⟩
def kApp (i : Nat) (t : T) (env1 : Env) (P : Env → Prop) : Prop := match ownT env1[i]? with
  | some (_, .lst ts) => ts.length < 1000000 ∧ P (reown env1 i (.lst (ts ++ [t])))
  | _ => False
theorem w_append {pe : PE} {ts : List T} (hs : ownT env[i]? = some (p, .lst ts)) (h : pe env fun t env1 => kApp i t env1 d.nx) : pAppend i pe d env := ⟨⟨p, ts, hs⟩, h⟩
theorem w_kApp {ts : List T} {Q : Env → Prop} (e : ownT env[i]? = some (p, .lst ts)) (hz : ts.length < 1000000) (ee : reown env i (.lst (ts ++ [t])) = env') (h : Q env') : kApp i t env Q := by
  subst ee; unfold kApp; rw [e]; exact ⟨hz, h⟩
def kC (ps : PSp) (as : List Ar) (env : Env) (P : T → Env → Prop) : Prop := match slotsOf env as with
  | some sl => ndA as = true ∧ ps sl fun t sl' => P t (backE env as sl')
  | none => False
def kBk (as : List Ar) (env : Env) (sl : List Slot) (Q : Env → Prop) : Prop := Q (backE env as sl)
theorem w_call {ps : PSp} {pa : PA} (h : pa env fun as env' => kC ps as env' P) : pCall ps pa env P := h
theorem w_kC {ps : PSp} {as : List Ar} {sl : List Slot} (e : slotsOf env as = some sl) (n : ndA as = true) (h : ps sl fun t sl' => kBk as env sl' fun env' => P t env') : kC ps as env P := by unfold kC; rw [e]; exact ⟨n, h⟩
theorem w_kBk {as : List Ar} {sl : List Slot} {Q : Env → Prop} (e : backE env as sl = env') (h : Q env') : kBk as env sl Q := by subst e; exact h
def kM (rp : OpT) (pa : PA) (t : T) (env : Env) (P : T → Env → Prop) : Prop := match t with
  | .str z => pa env fun as env2 => (match tsOf env2 as with | some ts => rp (.str z :: ts) fun u => P u env2 | none => False)
  | _ => False
theorem w_m {rp : OpT} {a : PE} {pa : PA} (h : a env fun t env1 => kM rp pa t env1 P) : pM rp a pa env P := h
def kMO (rp : OpT) (z : Str) (as : List Ar) (env : Env) (P : T → Env → Prop) : Prop := match tsOf env as with | some ts => rp (.str z :: ts) fun u => P u env | none => False
theorem w_kM {rp : OpT} {pa : PA} {z : Str} (h : pa env fun as env2 => kMO rp z as env2 P) : kM rp pa (.str z) env P := h
theorem w_kMO {rp : OpT} {z : Str} {as : List Ar} {ts : List T} (e : tsOf env as = some ts) (h : rp (.str z :: ts) fun u => P u env) : kMO rp z as env P := by unfold kMO; rw [e]; exact h
section
variable {R : List T → Env → Prop}
def kL (t : T) (env : Env) (R : List T → Env → Prop) : Prop := match t with | .lst ts => R ts env | _ => False
theorem w_piList {a : PE} (h : a env fun t env' => kL t env' R) : piList a env R := h
theorem w_kL {ts : List T} (h : R ts env) : kL (.lst ts) env R := h
def chT (z : Str) : List T := z.cps.toList.map fun c => .str ⟨#[c]⟩
def kSt (t : T) (env : Env) (R : List T → Env → Prop) : Prop := match t with | .str z => R (chT z) env | _ => False
theorem w_piStr {a : PE} (h : a env fun t env' => kSt t env' R) : piStr a env R := h
theorem w_kSt {z : Str} (h : R (chT z) env) : kSt (.str z) env R := h
def kR1 (t : T) (env : Env) (R : List T → Env → Prop) : Prop := match t with | .int j => (-4611686018427387904 ≤ j ∧ j < 4611686018427387904) ∧ R (rngT 0 j.toNat) env | _ => False
theorem w_piRng1 {a : PE} (h : a env fun t env' => kR1 t env' R) : piRng1 a env R := h
theorem w_kR1 {j : Int} (h1 : -4611686018427387904 ≤ j ∧ j < 4611686018427387904) (h : R (rngT 0 j.toNat) env) : kR1 (.int j) env R := ⟨h1, h⟩
def kDw (w : DW) (t : T) (env : Env) (R : List T → Env → Prop) : Prop := match t with | .dct kvs => R (w.of kvs) env | _ => False
theorem w_piD {w : DW} {a : PE} (h : a env fun t env' => kDw w t env' R) : piD w a env R := h
theorem w_kD {w : DW} {kvs : List (Key × T)} (h : R (w.of kvs) env) : kDw w (.dct kvs) env R := h
end
theorem w_for {pi : PIt} {pg : PG} {pb : PS} (h : pi env fun items env1 => pForGo pg pb d items env1) : pFor pi pg pb d env := h
def LcK (pg : PG) (tt : PT) (te : PE) (vs : List Nat) (items : List T) (env : Env) (P : T → Env → Prop) : Prop := items.length ≤ 1000000 ∧ pLcGo pg tt te vs P items [] (wipeE env vs)
theorem w_lc {pi : PIt} {pg : PG} {tt : PT} {te : PE} {vs : List Nat} (h : pi env fun items env1 => LcK pg tt te vs items env1 P) : pLc pi pg tt te vs env P := h
/-- a for by what holds between its turns -/
theorem for_inv {pg : PG} {pb : PS} {items : List T} (Inv : Nat → Env → Prop) (h0 : Inv 0 env) (hd : ∀ env, Inv items.length env → d.nx env)
    (hs : ∀ (i : Nat) (x : T) (env : Env) (N : Env → Prop), items[i]? = some x → Inv i env → (∀ env', Inv (i + 1) env' → N env') → pg x env fun env1 => pb { d with nx := N, ct := N, bk := d.nx } env1) : pForGo pg pb d items env := by
  have key : ∀ (k i : Nat) (env : Env), items.length = i + k → Inv i env → pForGo pg pb d (items.drop i) env := by
    intro k
    induction k with
    | zero =>
      intro i env hl hi
      have e : i = items.length := by omega
      subst e
      rw [List.drop_length]
      exact hd env hi
    | succ k ih =>
      intro i env hl hi
      have hlt : i < items.length := by omega
      rw [List.drop_eq_getElem_cons hlt]
      exact hs i _ env _ (List.getElem?_eq_getElem hlt) hi fun env' h' => ih (i + 1) env' (by omega) h'
  have := key items.length 0 env (by omega) h0
  rwa [List.drop_zero] at this
/-- a comprehension by what holds between its turns -/
theorem lc_inv {pg : PG} {tt : PT} {te : PE} {vs : List Nat} {items : List T} {env0 : Env} (e0 : wipeE env vs = env0) (hz : items.length ≤ 1000000) (Inv : Nat → List T → Env → Prop) (h0 : Inv 0 [] env0) (hd : ∀ acc env, Inv items.length acc env → P (.lst acc) env)
    (hs : ∀ (i : Nat) (x : T) (acc : List T) (env : Env) (N : List T → Env → Prop), items[i]? = some x → Inv i acc env → (∀ acc' env', Inv (i + 1) acc' env' → N acc' env') → pg x env fun env1 => tt env1 fun b env2 => if b = true then te env2 fun y env3 => N (acc ++ [y]) (wipeE env3 vs) else N acc (wipeE env2 vs)) : LcK pg tt te vs items env P := by
  subst e0
  refine ⟨hz, ?_⟩
  have key : ∀ (k i : Nat) (acc : List T) (env : Env), items.length = i + k → Inv i acc env → pLcGo pg tt te vs P (items.drop i) acc env := by
    intro k
    induction k with
    | zero =>
      intro i acc env hl hi
      have e : i = items.length := by omega
      subst e
      rw [List.drop_length]
      exact hd acc env hi
    | succ k ih =>
      intro i acc env hl hi
      have hlt : i < items.length := by omega
      rw [List.drop_eq_getElem_cons hlt]
      exact hs i _ acc env (fun acc' env' => pLcGo pg tt te vs P (items.drop (i + 1)) acc' env') (List.getElem?_eq_getElem hlt) hi fun acc' env' h' => ih (i + 1) acc' env' (by omega) h'
  have := key items.length 0 [] _ (by omega) h0
  rwa [List.drop_zero] at this
/-- .. whose items are of a sort; the rest of the slots keeps W -/
theorem lc_all {te : PE} {vs : List Nat} {items : List T} {env0 : Env} {j : Nat} (e0 : wipeE env vs = env0) (hz : items.length ≤ 1000000) (W : Nat → Env → Prop) (S : T → Prop) (h0 : W 0 env0)
    (hs : ∀ (i : Nat) (x : T) (env : Env) (N : T → Env → Prop), i < items.length → items[i]? = some x → W i env → (∀ y env', S y → W (i + 1) (wipeE env' vs) → N y env') → pgName j x env fun env1 => te env1 N)
    (hd : ∀ (ys : List T) (env : Env), ys.length = items.length → (∀ y, y ∈ ys → S y) → W items.length env → P (.lst ys) env) : LcK (pgName j) pYes te vs items env P := by
  refine lc_inv e0 hz (fun i acc env => W i env ∧ acc.length = i ∧ ∀ y, y ∈ acc → S y) ⟨h0, rfl, fun y hy => nomatch hy⟩ (fun acc env h => hd acc env h.2.1 h.2.2 h.1) fun i x acc env N hx h hN => ?_
  obtain ⟨hw, hl, hall⟩ := h
  refine hs i x env _ (List.getElem?_eq_some_iff.mp hx).1 hx hw fun y env' hy hw' => ?_
  refine hN _ _ ⟨hw', by simp [hl], fun z hz => ?_⟩
  rcases List.mem_append.mp hz with h | h
  · exact hall z h
  · rw [show z = y from by simpa using h]; exact hy
theorem iteB {b : Bool} {A B : Prop} (h1 : b = true → A) (h2 : b = false → B) : if b = true then A else B := by
  cases b with
  | true => rw [if_pos rfl]; exact h1 rfl
  | false => rw [if_neg Bool.false_ne_true]; exact h2 rfl
theorem iteT' {A B : Prop} (h : A) : if true = true then A else B := by rw [if_pos rfl]; exact h
theorem iteF' {A B : Prop} (h : B) : if false = true then A else B := by rw [if_neg Bool.false_ne_true]; exact h
theorem iteTrue {b : Bool} {A B : Prop} (hb : b = true) (h : A) : if b = true then A else B := by subst hb; rw [if_pos rfl]; exact h
theorem iteFalse {b : Bool} {A B : Prop} (hb : b = false) (h : B) : if b = true then A else B := by subst hb; rw [if_neg Bool.false_ne_true]; exact h
section
variable {R : T → Prop} {i j : Int} {a b : Str} {xs ys : List T} {k l : Bool}
theorem v_addI (h : R (.int (i + j))) : oAdd [.int i, .int j] R := h
theorem v_addS (hz : a.length + b.length ≤ 16000000) (h : R (.str (a ++ b))) : oAdd [.str a, .str b] R := ⟨hz, h⟩
theorem v_addL (hz : xs.length + ys.length ≤ 1000000) (h : R (.lst (xs ++ ys))) : oAdd [.lst xs, .lst ys] R := ⟨hz, h⟩
theorem v_addT (hz : xs.length + ys.length ≤ 1000000) (h : R (.tup (xs ++ ys))) : oAdd [.tup xs, .tup ys] R := ⟨hz, h⟩
theorem v_sub (h : R (.int (i - j))) : oSub [.int i, .int j] R := h
theorem v_mulI (c : CMulW i j) (h : R (.int (i * j))) : oMul [.int i, .int j] R := ⟨c, h⟩
theorem v_mulL (c : 0 ≤ j ∧ j < 1000 ∧ xs.length ≤ 1000) (h : R (.lst (List.replicate j.toNat xs).flatten)) : oMul [.lst xs, .int j] R := ⟨c, h⟩
theorem v_div (c : 0 < j ∧ j < 18446744073709551616) (h : R (.int (i / j))) : oDiv [.int i, .int j] R := ⟨c, h⟩
theorem v_mod (c : 0 < j) (h : R (.int (i % j))) : oMod [.int i, .int j] R := ⟨c, h⟩
theorem v_pow (c : 0 ≤ j ∧ j ≤ 1000000 ∧ -18446744073709551616 < i ∧ i < 18446744073709551616) (h : R (.int (i ^ j.toNat))) : oPow [.int i, .int j] R := ⟨c, h⟩
theorem v_powE {k : Int} (c : 0 ≤ j ∧ j ≤ 1000000 ∧ -18446744073709551616 < i ∧ i < 18446744073709551616) (e : i ^ j.toNat = k) (h : R (.int k)) : oPow [.int i, .int j] R := by subst e; exact ⟨c, h⟩
theorem v_gt (h : R (.bl (decide (j < i)))) : oGt [.int i, .int j] R := h
theorem v_lt (h : R (.bl (decide (i < j)))) : oLt [.int i, .int j] R := h
theorem v_eq {t u : T} {r : Bool} (e : eqS t u = some r) (h : R (.bl r)) : oEq [t, u] R := by unfold oEq; dsimp only; rw [e]; exact h
theorem v_ne {t u : T} {r : Bool} (e : eqS t u = some r) (h : R (.bl (!r))) : oNe [t, u] R := by unfold oNe; dsimp only; rw [e]; exact h
theorem v_inS {c : Nat} (h : R (.bl (decide (c ∈ b.cps.toList)))) : oIn [.str ⟨#[c]⟩, .str b] R := ⟨rfl, by rw [Bool.false_xor]; exact h⟩
theorem v_notInS {c : Nat} (h : R (.bl (!decide (c ∈ b.cps.toList)))) : oNotIn [.str ⟨#[c]⟩, .str b] R := ⟨rfl, by rw [Bool.true_xor]; exact h⟩
theorem v_inL {t : T} (f : flatT t = true) (g : xs.all flatT = true) (h : R (.bl (inT t xs))) : oIn [t, .lst xs] R := ⟨⟨f, g⟩, by rw [Bool.false_xor]; exact h⟩
theorem v_ixL {t : T} (e : atI xs i = some t) (h : R t) : oIx [.lst xs, .int i] R := by show (match atI xs i with | some t => R t | none => False); rw [e]; exact h
theorem v_ixT {t : T} (e : atI xs i = some t) (h : R t) : oIx [.tup xs, .int i] R := by show (match atI xs i with | some t => R t | none => False); rw [e]; exact h
theorem v_ixLo (h0 : 0 ≤ i) (h1 : i < (xs.length : Int)) (h : ∀ t, t ∈ xs → xs[i.toNat]? = some t → R t) : oIx [.lst xs, .int i] R := by
  obtain ⟨t, e, e2, m⟩ := atI_in h0 h1
  exact v_ixL e (h t m e2)
theorem v_ixScr {ns : List Int} (h0 : 0 ≤ i) (h1 : i < (ns.length : Int)) (h : ∀ n, R (.int n)) : oIx [.scr ns, .int i] R := by
  obtain ⟨t, e, e2, m⟩ := atI_in h0 h1
  show (match atI ns i with | some n => R (.int n) | none => False)
  rw [e]; exact h t
theorem v_ixS (hz : a.length ≤ 16000000) (h0 : 0 ≤ i) (h1 : i < (a.length : Int)) (h : ∀ c, c ∈ a.cps.toList → a.cps.toList[i.toNat]? = some c → R (.str ⟨#[c]⟩)) : oIx [.str a, .int i] R := by
  obtain ⟨t, e, e2, m⟩ := atI_in (xs := a.cps.toList) h0 (by rw [Array.length_toList]; exact h1)
  refine ⟨hz, ?_⟩
  rw [e]; exact h t m e2
theorem v_lenL (h : R (.int xs.length)) : oLen [.lst xs] R := h
theorem v_lenC {ns : List Int} (h : R (.int ns.length)) : oLen [.scr ns] R := h
theorem v_lenS (hz : a.length ≤ 16000000) (h : R (.int a.length)) : oLen [.str a] R := ⟨hz, h⟩
theorem v_isi {t : T} {n a : String} {b : Bool} (e : tyN t = some a) (e2 : kitB a n = some b) (h : R (.bl b)) : oIsi [t, .ty n] R := by
  show (match tyN t with | some a => (match kitB a n with | some b => R (.bl b) | none => False) | none => False)
  rw [e]; dsimp only; rw [e2]; exact h
theorem v_max2 (h : R (.int (if j > i then j else i))) : oMax2 [.int i, .int j] R := h
theorem v_min2 (h : R (.int (if j < i then j else i))) : oMin2 [.int i, .int j] R := h
theorem v_int1 (h : R (.int (if k then 1 else 0))) : oInt1 [.bl k] R := h
theorem v_isN {t : T} (h : R (.bl (isNon t))) : oIsN [t, .non] R := h
theorem v_notN {t : T} (h : R (.bl (!isNon t))) : oNotN [t, .non] R := h
theorem v_join {ss : List Str} (hz : (ss.map (·.length)).sum + ss.length * a.length ≤ 16777216) (h : R (.str (Txt.join a ss))) : oJoin [.str a, .lst (ss.map T.str)] R := by
  show (match strsT (ss.map T.str) with | some ys => (ys.map (·.length)).sum + ys.length * a.length ≤ 16777216 ∧ R (.str (Txt.join a ys)) | none => False)
  rw [strs_map]; exact ⟨hz, h⟩
theorem v_repr {t : T} (s : Shows t) (h : R (.str t.text)) : oRepr [t] R := ⟨s, h⟩
end
end
end Pu

namespace Pu
open PySem PySem.Spec PyProof.Rows L2 He Hk
section
variable {env env' : Env} {d : PD} {P : T → Env → Prop} {R : T → Prop} {i : Nat} {p : Addr} {t : T} {xs : List T}
theorem v_inAd {kvs : List (Key × T)} {k : T} {k' : Key} (e : keyT k = some k') (h : R (.bl (hasT kvs k'))) : oInA [k, .dct kvs] R := by
  refine .inr ?_
  show (match keyT k with | some k => R (.bl (false ^^ hasT kvs k)) | none => False)
  rw [e]; dsimp only; rw [Bool.false_xor]; exact h
end
end Pu

namespace Hk
open PySem PySem.Spec PyProof.Rows L2 He
def rStrV : List V → Hp → VK → Prop := fun xs H Q => (∃ i, xs = [.int i] ∧ i.natAbs.log2 < 1920 ∧ Q (.str (toString i)) H) ∨ (∃ b : Bool, xs = [.bl b] ∧ Q (.str (if b then "True" else "False")) H) ∨ ∃ a, xs = [.str a] ∧ Q (.str a) H
theorem call_strV {X : Cx} : CallR X (.type "str") rStrV := by
  intro pins s σ H xs us Q I r h
  rcases h with ⟨i, rfl, hz, q⟩ | ⟨b, rfl, q⟩ | ⟨a, rfl, q⟩
  · obtain ⟨u, rfl, t, rfl⟩ := vals1 r
    exact PySem.P.str_of_int hz ⟨.str _, H, I.tok _, ⟨_, rfl⟩, q⟩
  · obtain ⟨u, rfl, ru⟩ := vals1 r
    cases ru
    exact PySem.P.str_of_bool ⟨.str _, H, I.tok _, ⟨_, rfl⟩, q⟩
  · obtain ⟨u, rfl, t, rfl⟩ := vals1 r
    exact PySem.P.str_of_str ⟨.str _, H, I, ⟨_, rfl⟩, q⟩
end Hk
namespace Pu
open PySem PySem.Spec PyProof.Rows L2 He Hk
def oStr : OpT
  | [.int i], P => i.natAbs.log2 < 1920 ∧ P (.str (toString i))
  | [.bl b], P => P (.str (if b then "True" else "False"))
  | [.str z], P => P (.str z)
  | _, _ => False
section
variable {K : PySem.W.Frag} {O B B' : Addr → Prop} {H H' H1 H2 : Hp} {env env' env1 env2 : Env} {σ : L2.St} {p : Addr} {v : V} {t : T} {fr : Bool}
theorem ok_str : OpOk K rStrV oStr := by
  refine OpOk.uno (fun B H v t P Q hB hv hp hq => ?_) fun ts P h => by unfold oStr at h; split at h <;> first | exact ⟨_, rfl⟩ | exact h.elim
  cases t with
  | int i => cases hv.int; exact .inl ⟨i, rfl, hp.1, hq _ _ H hp.2 (Same.refl H) (.str _)⟩
  | bl b => cases hv.bl; exact .inr (.inl ⟨b, rfl, hq _ _ H hp (Same.refl H) (.str _)⟩)
  | str z => cases hv.str; exact .inr (.inr ⟨z, rfl, hq _ _ H hp (Same.refl H) (.str _)⟩)
  | _ => exact hp.elim
theorem v_strI {R : T → Prop} {i : Int} (hz : i.natAbs.log2 < 1920) (h : R (.str (toString i))) : oStr [.int i] R := ⟨hz, h⟩
theorem w_raise {X : PX} {C : Addr} {f : Str} {pe : PE} {d : PD} (h : pe env fun t env' => X (.ins C [(.inr f, t)]) env') : pRaise X C f pe d env := h
def kCX (ps : PSpX) (X : PX) (as : List Ar) (env : Env) (P : T → Env → Prop) : Prop := match slotsOf env as with
  | some sl => ndA as = true ∧ ps sl (fun t sl' => P t (backE env as sl')) fun x sl' => X x (backE env as sl')
  | none => False
theorem w_callX {ps : PSpX} {X : PX} {pa : PA} {P : T → Env → Prop} (h : pa env fun as env' => kCX ps X as env' P) : pCallX ps X pa env P := h
theorem w_kCX {ps : PSpX} {X : PX} {as : List Ar} {sl : List Slot} {P : T → Env → Prop} (e : slotsOf env as = some sl) (n : ndA as = true) (h : ps sl (fun t sl' => kBk as env sl' fun env' => P t env') fun x sl' => kBk as env sl' fun env' => X x env') : kCX ps X as env P := by unfold kCX; rw [e]; exact ⟨n, h⟩
theorem w_xf {a C : Addr} {ts : List (Key × T)} {f : Str} {i : Nat} {P : T → Env → Prop} (e : env[i]? = some (.val (.glo a))) (l : lookK f ts = some t) (h : P t env) : pXf a (.ins C ts) C f i env P := ⟨e, rfl, by rw [l]; exact h⟩
end
end Pu



namespace Pu
open PySem PySem.Spec PyProof.Rows L2 He Hk
section
variable {K : PySem.W.Frag} {O B B' : Addr → Prop} {H H' H1 H2 : Hp} {env env' env1 env2 : Env} {σ : L2.St} {p : Addr} {v : V} {t : T} {fr : Bool}
theorem w_setF {i : Nat} {pe : PE} {f : Str} {d : PD} (h : pe env fun t env1 => kSetF K i f t env1 d.nx) : pSetF K i pe f d env := h
theorem w_kSetF {i : Nat} {f : Str} {C : Addr} {fs : List (Key × T)} {Q : Env → Prop} (e : ownT env[i]? = some (p, .ins C fs)) (c : Cls K C) (n : NoAttr K C f) (hl : fs.length < 1000) (ee : reown env i (.ins C (putI f t fs)) = env') (h : Q env') : kSetF K i f t env Q := by
  subst ee; unfold kSetF; rw [e]; exact ⟨c, n, hl, h⟩
theorem w_cA {ps : PSp} {as : List Ar} {P : T → Env → Prop} {sl : List Slot} (e : slotsOf env as = some sl) (nd : ndA as = true) (h : ps sl fun t sl' => P t (backE env as sl')) : cA ps as env P := by
  unfold cA; rw [e]; exact ⟨nd, h⟩
theorem w_cX {ps : PSpX} {X : PX} {as : List Ar} {P : T → Env → Prop} {sl : List Slot} (e : slotsOf env as = some sl) (nd : ndA as = true) (h : ps sl (fun t sl' => P t (backE env as sl')) fun x sl' => X x (backE env as sl')) : cX ps X as env P := by
  unfold cX; rw [e]; exact ⟨nd, h⟩
theorem w_kMade {q : Addr} {u : T} {sl : List Slot} {P : T → Env → Prop} (h : P u env) : kMade .non (.ref q u :: sl) env P := ⟨rfl, h⟩
end
end Pu




namespace Hk
open PySem PySem.Spec PyProof.Rows L2 He
section
variable {K : PySem.W.Frag} {C f : Addr} {m : Str}
theorem clsQ_ok (h : clsQ K C = true) : Cls K C := by
  unfold clsQ at h
  simp only [Bool.and_eq_true, decide_eq_true_eq] at h
  exact ⟨h.1, h.2.1, h.2.2.1, h.2.2.2⟩
theorem noQ_ok (h : noQ K C m = true) : NoAttr K C m := by
  have e : PySem.W.findIn K (.ref C) m = some none := of_decide_eq_true (show decide (PySem.W.findIn K (.ref C) m = some none) = true from h)
  exact e
theorem methQ_ok (h : methQ K C m f = true) : Meth K C m f := by
  unfold methQ at h
  simp only [Bool.and_eq_true, decide_eq_true_eq] at h
  exact ⟨h.1, h.2.1, h.2.2⟩
theorem mkQ_ok (h : mkQ K C f = true) : Mk K C f := by
  unfold mkQ at h
  simp only [Bool.and_eq_true, decide_eq_true_eq] at h
  exact ⟨h.1, h.2.1, h.2.2.1, h.2.2.2⟩
end
end Hk

namespace Pu
open PySem PySem.Spec PyProof.Rows L2 He Hk
section
variable {P : Program} {w : World} {K : PySem.W.Frag} {mg : Str → Option Value} {base : Heap}
/-- a def that stands in a class -/
def NOG (P : Program) (w : World) (K : PySem.W.Frag) (mg : Str → Option Value) (base : Heap) (CX : CXT) (k : Nat) (f : Addr) (ps : List Str) (sp : Sp) : Prop := ∃ fd, Binds K fd ps [] ∧ FnG P w K mg base CX k f fd ps sp
theorem NOG.mono {CX : CXT} {j k : Nat} {f : Addr} {ps : List Str} {sp : Sp} (F : NOG P w K mg base CX j f ps sp) (h : j ≤ k) : NOG P w K mg base CX k f ps sp := by
  obtain ⟨fd, a, b⟩ := F
  exact ⟨fd, a, b.mono h⟩
theorem mkM {x qual : Str} {st : Stmt} {N ps : List Str} {k : Nat} {fr : Bool} {f : Addr} {psp : PSp} {pb : PS} {ts : TS} (F : ∃ fd, FunD K x qual (defArgs st) (defBody st) (defScope st) [] [] f fd) (sc : FnScope N ps (defScope st))
    (hb : ∀ (kV doc pm : Value) (an : Option Addr) (cdv ct : Value) (us : List Value), us.length = ps.length → bindArgs (PySem.W.fnOf x qual (defArgs st) (defBody st) (defScope st) .none kV doc pm an cdv ct) ⟨us, []⟩ = pure (ps.zip us))
    (hd : ∀ (cdv : Value) (A : Around) (outer : List PySem.Env) (s : Shared) (H : Hp) (E : XK), RoomG k (A.deeper (envOfC qual (defScope st) s.heap.objs.size f cdv)) → PSs (cxOf CX0 P w K mg base N qual (defScope st) f cdv A outer s H E).nox (defBody st) ts)
    (hr : ∀ [h0 : Hist], RefS K fr ts pb) (hn : ∀ sl P, psp sl P → sl.length = ps.length) (hp : ∀ sl P, psp sl P → pb (pdOf fr sl P) (sl ++ nones (N.length - ps.length))) : NOG P w K mg base CX0 (k + 1) f ps (spP K fr psp) := by
  obtain ⟨fd, F⟩ := F
  exact ⟨fd, F.bindsN hb, fnG_of F sc (spP_len hn) fun cdv A outer s H vs Q E hrm h => ⟨ts, (hd cdv A outer s H E hrm).nox, body_ok hr hn hp h⟩⟩
theorem mkMX {x qual : Str} {st : Stmt} {N ps : List Str} {k : Nat} {fr : Bool} {f : Addr} {psp : PSpX} {pb : PX → PS} {ts : WX → TS} (F : ∃ fd, FunD K x qual (defArgs st) (defBody st) (defScope st) [] [] f fd) (sc : FnScope N ps (defScope st))
    (hb : ∀ (kV doc pm : Value) (an : Option Addr) (cdv ct : Value) (us : List Value), us.length = ps.length → bindArgs (PySem.W.fnOf x qual (defArgs st) (defBody st) (defScope st) .none kV doc pm an cdv ct) ⟨us, []⟩ = pure (ps.zip us))
    (hd : ∀ (cdv : Value) (A : Around) (outer : List PySem.Env) (s : Shared) (H : Hp) (E : XK), RoomG k (A.deeper (envOfC qual (defScope st) s.heap.objs.size f cdv)) → PSs (cxOf (L2.CX P w) P w K mg base N qual (defScope st) f cdv A outer s H E) (defBody st) (ts fun cls d _ H' => E cls d H'))
    (hr : ∀ [h0 : Hist] (W : WX) (X : PX), XOk K W X → RefS K fr (ts W) (pb X)) (hn : ∀ sl P X, psp sl P X → sl.length = ps.length) (hp : ∀ sl P X, psp sl P X → pb (pxOf sl X) (pdOf fr sl P) (sl ++ nones (N.length - ps.length))) :
    NOG P w K mg base (L2.CX P w) (k + 1) f ps (spX K fr psp) := by
  obtain ⟨fd, F⟩ := F
  exact ⟨fd, F.bindsN hb, fnG_of F sc (spX_len hn) fun cdv A outer s H vs Q E hrm h => ⟨_, hd cdv A outer s H E hrm, body_okX hr hn hp h⟩⟩
theorem nog_no {CX : CXT} {x qual : Str} {st : Stmt} {ps : List Str} {k : Nat} {f : Addr} {sp : Sp} (F : ∃ fd, FunD K x qual (defArgs st) (defBody st) (defScope st) [] [] f fd)
    (hb : ∀ (kV doc pm : Value) (an : Option Addr) (cdv ct : Value) (us : List Value), us.length = ps.length → bindArgs (PySem.W.fnOf x qual (defArgs st) (defBody st) (defScope st) .none kV doc pm an cdv ct) ⟨us, []⟩ = pure (ps.zip us))
    (hno : ∀ vs H Q E, ¬ sp vs H Q E) : NOG P w K mg base CX k f ps sp := by
  obtain ⟨fd, F⟩ := F
  exact ⟨fd, F.bindsN hb, fun vs H Q E h => (hno vs H Q E h).elim, fun A outer s H args us vs Q E _ _ _ _ h => (hno vs H Q E h).elim⟩
theorem NOG.cog {CX : CXT} {k : Nat} {x : Str} {f : Addr} {ps : List Str} {sp : Sp} (F : NOG P w K mg base CX k f ps sp) (g : mg x = some (.ref (ga K x))) (M : Mk K (ga K x) f) : COG P w K mg base CX k x sp := by
  obtain ⟨fd, a, b⟩ := F
  exact ⟨g, f, fd, ps, M, a, b⟩
theorem NOG.mog {CX : CXT} {k : Nat} {m : Str} {C f : Addr} {ps : List Str} {sp : Sp} {tab : List (Addr × Sp)} (F : NOG P w K mg base CX k f ps sp) (c : Cls K C) (M : Meth K C m f) (r : MOG P w K mg base CX k m tab) : MOG P w K mg base CX k m ((C, sp) :: tab) := by
  obtain ⟨fd, a, b⟩ := F
  exact .cons ⟨c, f, fd, ps, M, a, b⟩ r
theorem NOG.cls {CX : CXT} {k : Nat} {m : Str} {C f : Addr} {ps : List Str} {sp : Sp} (F : NOG P w K mg base CX k f ps sp) (B : ClF K C m f) : ∃ (f : Addr) (fd : FuncData) (ps : List Str), ClF K C m f ∧ Binds K fd ps [] ∧ FnG P w K mg base CX k f fd ps sp := by
  obtain ⟨fd, a, b⟩ := F
  exact ⟨f, fd, ps, B, a, b⟩
end
end Pu

namespace SrtO
open PySem PyProof.Rows Srt
section
variable {prog : Program} {w : World} {A : Around} {E : Value → Shared → Prop} {s : Shared}
def sv : Value → PySem.Str
  | .str z _ => z
  | _ => PySem.Str.empty
end
end SrtO




namespace Pu
open PySem PySem.Spec PyProof.Rows L2 He Hk
section
variable {K : PySem.W.Frag} {env env' : Env} {d : PD} {P : T → Env → Prop} {R : T → Prop} {i : Nat} {p : Addr} {t : T} {xs : List T}
theorem arV_is : ∀ {as : List Ar} {ts : List T}, ArV as = some ts → as = ts.map Ar.val
  | [], ts, h => by cases h; rfl
  | .val t :: as, ts, h => by
    cases q : ArV as with
    | none => simp [ArV, q] at h
    | some us => simp [ArV, q] at h; subst h; simp [arV_is q]
  | .var _ :: _, _, h => by cases h
theorem w_cA' {ps : PSp} {as : List Ar} {sl : List Slot} (e : slotsOf env as = some sl) (nd : ndA as = true) (h : ps sl fun t sl' => kBk as env sl' fun env' => P t env') : cA ps as env P := w_cA e nd h
def kMk (C : Addr) (ps : PSp) (as : List Ar) (env' : Env) (P : T → Env → Prop) : Prop := ∃ ts : List T, as = ts.map Ar.val ∧ ∀ p, ps (.ref p (.ins C []) :: ts.map Slot.val) fun r sl' => kMade r sl' env' P
theorem w_make' {C : Addr} {ps : PSp} {pa : PA} (h : pa env fun as env' => kMk C ps as env' P) : pMake C ps pa env P := h
theorem w_kMk {C : Addr} {ps : PSp} {as : List Ar} {ts : List T} (e : ArV as = some ts) (h : ∀ p, ps (.ref p (.ins C []) :: ts.map Slot.val) fun r sl' => kMade r sl' env P) : kMk C ps as env P := ⟨ts, arV_is e, h⟩
theorem w_gTup2 {i j : Nat} {a b : T} {Q : Env → Prop} (h1 : noRef env i) (h2 : noRef (env.set i (.val a)) j) (e : (env.set i (.val a)).set j (.val b) = env') (h : Q env') : pgTup 2 (pgCons (pgName i) (pgCons (pgName j) pgNil)) (.tup [a, b]) env Q := by
  subst e
  exact ⟨rfl, h1, h2, rfl, h⟩
end
end Pu



namespace St
open PySem PySem.Spec PyProof.Rows L2
variable {P : Program} {w : World} {κ : Type} [DecidableEq κ]
/-- a kind of keys, and how a value is read as one -/
structure KS (P : Program) (w : World) (κ : Type) [DecidableEq κ] where
  kd : PySem.KeyKind P w κ
  rd : Value → κ
/-- a good entry -/
def KS.Ok (C : KS P w κ) (e : Int × Value) : Prop := C.kd.is (C.rd e.2) e.2 = true ∧ e.1 = C.kd.hash (C.rd e.2) ∧ e.2.scannable = true
def KS.ks (C : KS P w κ) (es : Array (Int × Value)) : List κ := es.toList.map fun e => C.rd e.2
/-- the set at a has the keys l -/
def SetG (C : KS P w κ) (h : Heap) (a : Addr) (M : κ → Prop) (n : Nat) : Prop :=
  ∃ o es ep t, h.get? a = some o ∧ o.ExactSet ∧ o.data = .set es ep t ∧ (∀ e ∈ es.toList, C.Ok e) ∧ (C.ks es).Nodup ∧ (∀ k, k ∈ C.ks es ↔ M k) ∧ es.size < scanBound ∧ t.fits es.size = true ∧ es.size = n ∧ Ris t.place.toList ∧
    (w.params.followText "set-order" = true ∨ t.led = true)
section
variable {C : KS P w κ} {h h' : Heap} {a : Addr} {M : κ → Prop} {n : Nat}
theorem SetG.at (R : SetG C h a M n) (k : ∀ o, h.get? a = some o → h'.get? a = some o) : SetG C h' a M n := by
  obtain ⟨o, es, ep, t, ho, r⟩ := R
  exact ⟨o, es, ep, t, k o ho, r⟩
end
end St














namespace Pu
open PySem PySem.Spec PyProof.Rows L2 He Hk
section
variable {K : PySem.W.Frag} {O B B' : Addr → Prop} {H H' H1 H2 : Hp} {env env' env1 env2 : Env} {σ : L2.St} {p : Addr} {v : V} {t : T} {fr : Bool}
theorem Stp.none (s : Stp env H env' H') {a : Addr} (h : H' a = Option.none) : H a = Option.none := by
  cases e : H a with
  | none => rfl
  | some o => exact absurd h (s.dom a (by rw [e]; exact fun z => by cases z))
theorem get_init {i : Nat} {s : Slot} (h : env.dropLast[i]? = some s) : env[i]? = some s ∧ i < env.length - 1 := by
  have hi := (List.getElem?_eq_some_iff.mp h).1
  rw [List.length_dropLast] at hi
  rw [List.getElem?_dropLast, if_pos hi] at h
  exact ⟨h, hi⟩
theorem root_init {a : Addr} (h : Root env.dropLast a) : Root env a := by
  obtain ⟨i, s, e, r⟩ := h
  exact ⟨i, s, (get_init e).1, r⟩
theorem Rel.init [h0 : Hist] {x : Option V} {env4 : Env} (R : Rel K O H (σ ++ [x]) env4) : Rel K O H σ env4.dropLast := by
  have hl := R.len
  rw [List.length_append] at hl
  have hl' : σ.length + 1 = env4.length := hl
  have bd : ∀ a, Bd O env4.dropLast a → Bd O env4 a := fun a q => q.elim .inl fun z => .inr (root_init z)
  refine ⟨⟨R.tb, by rw [List.length_dropLast]; omega, fun i s e => ?_, fun i j s u a e1 e2 r1 r2 => R.one i j s u a (get_init e1).1 (get_init e2).1 r1 r2, fun a q z => R.out a q (root_init z), R.dom⟩, R.hO, R.hN, ⟨R.hst.keepT, fun a q => R.hst.more a (root_init q), R.hst.dom⟩⟩
  obtain ⟨e', hi⟩ := get_init e
  have := R.slot i s e'
  rw [List.getElem?_append_left (by omega)] at this
  exact this.keep (.less bd) fun _ _ => rfl
theorem ArOk.app : ∀ {as bs : List Ar} {vs ws : List V}, ArOk K B H σ as vs → ArOk K B H σ bs ws → ArOk K B H σ (as ++ bs) (vs ++ ws)
  | [], bs, [], ws, _, h => h
  | .val t :: as, bs, v :: vs, ws, h, g => ⟨h.1, ArOk.app h.2 g⟩
  | .var i :: as, bs, v :: vs, ws, h, g => ⟨h.1, ArOk.app h.2 g⟩
  | [], _, _ :: _, _, h, _ => h.elim
  | .val _ :: _, _, [], _, h, _ => h.elim
  | .var _ :: _, _, [], _, h, _ => h.elim
end
end Pu

namespace Hk
open PySem PySem.Spec PyProof.Rows L2 He
abbrev HdR := Value × Option Nat × (Addr → Value → Option Addr → TS)
def endG : Option Nat → Ends → Ends
  | none, D => D
  | some i, D => { nx := fun τ G => D.nx (τ.set i none) G, rt := D.rt, bk := fun τ G => D.bk (τ.set i none) G, ct := fun τ G => D.ct (τ.set i none) G }
def stG : Option Nat → Addr → L2.St → L2.St
  | none, _, τ => τ
  | some i, a, τ => τ.set i (some (.ref a))
def wG (K : PySem.W.Frag) (W0 : WX) (D : Ends) : List HdR → WX
  | [] => W0
  | (c, i, ts) :: r => fun cl d τ G => ∃ b, PySem.W.exmOne K cl c = some b ∧ (b = true → ∀ a, G a = none → ts a cl d (endG i D) (stG i a τ) G) ∧ (b = false → wG K W0 D r cl d τ G)
inductive HdsG (X : Cx) : List ExceptHandler → List HdR → Prop
  | nil : HdsG X [] []
  | only {x : Str} {c : Value} {ts : Addr → Value → Option Addr → TS} {st : Stmt} {su : List Stmt} {p1 p2 : Pos} {hs : List ExceptHandler} {l : List HdR} (hc : Names X x c)
      (hsu : ∀ (a : Addr) (oe : Obj) (cl : Value) (d : Option Addr) (pn : List (Addr × Obj)), Zc cl d oe → (∃ vs, oe.data = .fields vs) → PSs (X.suite a ((a, oe) :: pn)) (st :: su) (ts a cl d)) (r : HdsG X hs l) :
      HdsG X (.ExceptHandler (some (.Name x p1)) none (st :: su) p2 :: hs) ((c, none, ts) :: l)
  | named {x n : Str} {i : Nat} {c : Value} {ts : Addr → Value → Option Addr → TS} {st : Stmt} {su : List Stmt} {p1 p2 : Pos} {hs : List ExceptHandler} {l : List HdR} (hi : X.N[i]? = some n) (hk : X.env.kindOf n = some .local) (hc : Names X x c)
      (hsu : ∀ (a : Addr) (oe : Obj) (cl : Value) (d : Option Addr) (pn : List (Addr × Obj)), Zc cl d oe → (∃ vs, oe.data = .fields vs) → PSs (X.suite a ((a, oe) :: pn)) (st :: su) (ts a cl d)) (r : HdsG X hs l) :
      HdsG X (.ExceptHandler (some (.Name x p1)) (some n) (st :: su) p2 :: hs) ((c, some i, ts) :: l)
section
variable {X : Cx} {body : List Stmt} {e0 : ExceptHandler} {hs : List ExceptHandler} {l : List HdR} {pos : Pos} {tb : WX → TS} {W0 : WX}
theorem ps_tryG (h1 : X.stack = X.env :: X.outer) (h2 : X.env.frame = some X.env.locals) (hN : X.N.Nodup) (tk : Takes X W0)
    (hb : ∀ (W : WX) (pn : List (Addr × Obj)) (xe : Value → Shared → Prop), Takes (X.tr pn xe) W → PassesOwn (model X.prog X.w) X.A X.env xe → PSs (X.tr pn xe) body (tb W)) (hh : HdsG X (e0 :: hs) l) :
    PS X (.Try body (e0 :: hs) [] [] pos) (fun D τ G => tb (wG X.K W0 D l) D τ G) := by
  refine ⟨fun pins s τ G D I hq => ?_⟩
  have ok := I.ok
  have fr : X.A.frames = some (X.env :: X.outer) := ok.frames.trans (congrArg some h1)
  refine wpAny_Try_except (wpAny_mono ((hb (wG X.K W0 D l) (X.pn ++ pins) (fun v u => wpAny (model X.prog X.w) X.A (noteFrame v X.env) (fun _ u2 => wpAny (model X.prog X.w) X.A (setFlight v none) (fun _ u3 => wpAny (model X.prog X.w) X.A (handleBy v X.env (e0 :: hs)) (SP X pins D) X.xe u3) X.xe u2) X.xe u) (fun y z hx => ?_) PassesOwn.looking).run [] s τ G D (I.toTry _) hq) (fun f z hz => ?_) (fun _ _ y => y))
  · obtain ⟨a, B, sI, pins2, τ2, G2, cl, d, rfl, J2, nb, up, sky, na, os, ag, wg⟩ := hx
    have J : L2.Inv X pins τ2 G2 sI := J2.ofTry ok
    rw [h1] at sky
    show wpAny (model X.prog X.w) X.A (noteFrame (.ref a) X.env) _ _ _
    refine Sky.land Zc.steady fr h2 sky fun g fl up3 => ?_
    have JG : L2.Inv X pins τ2 G2 { z with heap := g } := J.landed nb fl.1 (up.trans up3) os ag
    obtain ⟨oe, ves, he, hz, hd⟩ := fl.there
    have off : a ∉ frs (X.env :: X.outer) := fun hm => by
      obtain ⟨_, o2, e2, no⟩ := fl.2.2.1.mem hm
      cases he.symm.trans e2
      exact no _ hd
    have offL : a ≠ X.env.locals := fun e => off (List.mem_filterMap.mpr ⟨X.env, List.mem_cons_self, e ▸ h2⟩)
    have offF : a ∉ X.fs := fun hm => by
      obtain ⟨v, hv, q⟩ := List.mem_filterMap.mp hm
      exact off (List.mem_filterMap.mpr ⟨v, List.mem_cons_of_mem _ hv, q⟩)
    have SG := JG.suite he hd na offL offF
    have asks : ∀ {x : Str} {c : Value} {p1 : Pos} {b : Bool} {Q : Bool → Shared → Prop}, Names X x c → PySem.W.exmOne X.K cl c = some b → (∀ {R : Value → Shared → Prop} {E : Value → Shared → Prop}, R c { z with heap := g } → wpAny (model X.prog X.w) (X.A.mark (some (.ref a))) (eval (.Name x p1) X.env) R E { z with heap := g }) := fun {x c p1 b Q} hc _ {R E} q => by
      obtain ⟨k1, k2, k3 | ⟨k3, k4, k5⟩⟩ := hc
      · exact ld_glob (X := X.suite a ((a, oe) :: (X.pn ++ pins))) SG k1 k3 q k2
      · exact ld_blt (X := X.suite a ((a, oe) :: (X.pn ++ pins))) SG k1 k3 k4 q k5 k2
    have LK : PySem.W.Looks (model X.prog X.w) g (typeOf (.ref a)) cl := fun _ _ _ _ k q => wpAny_typeOf_ref (k _ _ he) (hz.1 ▸ q)
    have go : ∀ {es : List ExceptHandler} {rs : List HdR}, HdsG X es rs → wG X.K W0 D rs cl d τ2 G2 → wpAny (model X.prog X.w) X.A (handleBy (.ref a) X.env es) (SP X pins D) X.xe { z with heap := g } := by
      intro es rs hk
      induction hk with
      | nil =>
        intro wo
        refine wpAny_handleBy_nil ?_
        obtain ⟨_, _, _, ob, wv, T, _, _, k1, _, k2, k3, _⟩ := id fl
        unfold PySem.passOn
        refine wpAny_bind (wpAny_field k1 k2 k3 ?_)
        rw [if_neg (show ¬ ((Value.ref T == Value.none) = true) by simp)]
        have last : wpAny (model X.prog X.w) X.A (setFlight (.ref a) X.env.frame) (fun _ u => wpAny (model X.prog X.w) X.A (throw (.ref a) : Sem Flow) (SP X pins D) X.xe u) X.xe { z with heap := g } := by
          rw [h2]
          refine HandSPX.setFlight_upZ fl fun g4 k4 up4 => wpAny_throw (tk _ _ ⟨a, B, sI, pins, τ2, G2, cl, d, rfl, J, nb, (up.trans up3).trans up4, .inr (.inr (h1 ▸ k4)), na, os, ag, wo⟩)
        first | exact wpAny_bind (wpAny_pure (wpAny_bind last)) | exact wpAny_bind last
      | @only x c ts st su p1 p2 hs' l' hc hsu r ih =>
        rintro ⟨b, hb1, hy, hn⟩
        refine wpAny_handleBy_cons (codeAny_handlers_test (asks (Q := fun _ _ => True) hc hb1 ((PySem.W.exm_one (M := model X.prog X.w) JG.kIn LK hb1).here ?_))) (by intro q; cases q)
        cases b with
        | false => exact ih (hn rfl)
        | true =>
          refine codeAny_handlers_suite (HandSPX.lands_againZ fl fun g4 fl4 up4 => ?_)
          obtain ⟨oe4, ve4, he4, hz4, hd4⟩ := fl4.there
          have S4 := (J.landed nb fl4.1 ((up.trans up3).trans up4) os ag : L2.Inv X pins τ2 G2 { z with heap := g4 }).suite he4 hd4 na offL offF
          refine wpAny_mono ((hsu a oe4 cl d (X.pn ++ pins) hz4 ⟨_, hd4⟩).run [] _ _ G2 _ S4 (hy rfl a na)) (fun f u hu => ?_) fun _ _ y => False.elim y
          cases f with
          | ret v => obtain ⟨v6, τ6, G6, S6, r6, q6⟩ := hu; exact ⟨_, _, _, S6.unsuite ok, r6, q6⟩
          | next => obtain ⟨τ6, G6, S6, q6⟩ := hu; exact ⟨_, _, S6.unsuite ok, q6⟩
          | brk => obtain ⟨τ6, G6, S6, q6⟩ := hu; exact ⟨_, _, S6.unsuite ok, q6⟩
          | cont => obtain ⟨τ6, G6, S6, q6⟩ := hu; exact ⟨_, _, S6.unsuite ok, q6⟩
      | @named x n i c ts st su p1 p2 hs' l' hi hk hc hsu r ih =>
        rintro ⟨b, hb1, hy, hn⟩
        refine wpAny_handleBy_cons (codeAny_handlers_test (asks (Q := fun _ _ => True) hc hb1 ((PySem.W.exm_one (M := model X.prog X.w) JG.kIn LK hb1).here ?_))) (by intro q; cases q)
        cases b with
        | false => exact ih (hn rfl)
        | true =>
          refine codeAny_handlers_suite_as (HandSPX.lands_againZ fl fun g4 fl4 up4 => ?_)
          obtain ⟨oe4, ve4, he4, hz4, hd4⟩ := fl4.there
          have S4 := (J.landed nb fl4.1 ((up.trans up3).trans up4) os ag : L2.Inv X pins τ2 G2 { z with heap := g4 }).suite he4 hd4 na offL offF
          refine store_ok (X := X.suite a ((a, oe4) :: (X.pn ++ pins))) (v := .ref a) S4 hN hi (.inl hk) rfl (fun s5 S5 => ?_) (.inr hk)
          refine wpAny_mono ((hsu a oe4 cl d (X.pn ++ pins) hz4 ⟨_, hd4⟩).run [] s5 _ G2 _ S5 (hy rfl a na)) (fun f u hu => ?_) fun _ _ y => False.elim y
          cases f with
          | ret v => obtain ⟨v6, τ6, G6, S6, r6, q6⟩ := hu; exact gone_ok (S6.unsuite ok) hN hi hk fun _ J7 => ⟨_, _, _, J7, r6, q6⟩
          | next => obtain ⟨τ6, G6, S6, q6⟩ := hu; exact gone_ok (S6.unsuite ok) hN hi hk fun _ J7 => ⟨_, _, J7, q6⟩
          | brk => obtain ⟨τ6, G6, S6, q6⟩ := hu; exact gone_ok (S6.unsuite ok) hN hi hk fun _ J7 => ⟨_, _, J7, q6⟩
          | cont => obtain ⟨τ6, G6, S6, q6⟩ := hu; exact gone_ok (S6.unsuite ok) hN hi hk fun _ J7 => ⟨_, _, J7, q6⟩
    exact go hh wg
  · cases f with
    | ret v => obtain ⟨v6, τ6, G6, J6, r6, q6⟩ := hz; exact ⟨v6, τ6, G6, J6.ofTry ok, r6, q6⟩
    | next => obtain ⟨τ6, G6, J6, q6⟩ := hz; exact wpAny_execs_nil ⟨τ6, G6, J6.ofTry ok, q6⟩
    | brk => obtain ⟨τ6, G6, J6, q6⟩ := hz; exact ⟨τ6, G6, J6.ofTry ok, q6⟩
    | cont => obtain ⟨τ6, G6, J6, q6⟩ := hz; exact ⟨τ6, G6, J6.ofTry ok, q6⟩
end
def tTryG (K : PySem.W.Frag) (l : List HdR) (tb : WX → TS) (W0 : WX) : TS := fun D τ G => tb (wG K W0 D l) D τ G
end Hk
namespace Pu
open PySem PySem.Spec PyProof.Rows L2 He Hk
abbrev HdP := Value × Option Nat × (Addr → T → PS)
def dG : Option Nat → PD → PD
  | none, d => d
  | some i, d => dAs i d
def envG : Option Nat → Addr → Env → Env
  | none, _, env => env
  | some i, a, env => env.set i (.val (.glo a))
def pxG (K : PySem.W.Frag) (X0 : PX) (d : PD) : List HdP → PX
  | [] => X0
  | (c, i, ph) :: r => fun x env1 => match x with
    | .ins C _ => ∃ b, PySem.W.exmOne K (.ref C) c = some b ∧ (b = true → ∀ a, ph a x (dG i d) (envG i a env1)) ∧ (b = false → pxG K X0 d r x env1)
    | _ => False
def pTryG (K : PySem.W.Frag) (l : List HdP) (pb : PX → PS) (X0 : PX) : PS := fun d env => pb (pxG K X0 d l) d env
section
variable {K : PySem.W.Frag} {O B B' : Addr → Prop} {H H' H1 H2 : Hp} {env env' env1 env2 : Env} {σ : L2.St} {p : Addr} {v : V} {t : T} {fr : Bool}
inductive RefH (K : PySem.W.Frag) (fr : Bool) : List HdR → List HdP → Prop
  | nil : RefH K fr [] []
  | cons {c : Value} {i : Option Nat} {th : Addr → Value → Option Addr → TS} {ph : Addr → T → PS} {l : List HdR} {lp : List HdP} (h : ∀ [h0 : Hist] (a : Addr) (x : T) (cls : Value) (d : Option Addr), ExcIn K x cls d → RefS K fr (th a cls d) (ph a x)) (r : RefH K fr l lp) : RefH K fr ((c, i, th) :: l) ((c, i, ph) :: lp)
theorem rf_tryG [h0 : Hist] {l : List HdR} {lp : List HdP} {tb : WX → TS} {pb : PX → PS} {W0 : WX} {X0 : PX} (hx : XOk K W0 X0) (hb : ∀ [h0 : Hist] (W : WX) (X : PX), XOk K W X → RefS K fr (tb W) (pb X)) (hl : RefH K fr l lp) :
    RefS K fr (tTryG K l tb W0) (pTryG K lp pb X0) := by
  intro O H σ env D d R hp hd
  refine @hb (hAt O env H) _ (pxG K X0 d lp) ?_ O H σ env D d R.rl.begin hp (hd.begin R)
  intro O1 H1 σ1 env1 C dd fs ts hX r1 hdd ak
  have hO : ∀ a, O a → O1 a := @Rel.hO (hAt _ _ _) _ _ _ _ _ r1
  have s1 : Stp env H env1 H1 := r1.hs
  clear hp
  induction hl with
  | nil => exact hx O H1 σ1 env1 C dd fs ts hX (R.join (r1.rl.less hO) (fun _ q => q) s1) hdd (ak.keep (.less fun a q => q.elim (fun z => .inl (hO a z)) .inr))
  | @cons c i th ph l' lp' hh r ih =>
    obtain ⟨b, eb, h1, h2⟩ := hX
    refine ⟨b, eb, fun hbt a na => ?_, fun hbf => ih (h2 hbf)⟩
    cases i with
    | none =>
      have R1 : Rl K O H1 σ1 env1 := r1.rl.less hO
      have hle : ∀ x, Bd O env1 x → Bd O1 env1 x := fun x q => q.elim (fun z => .inl (hO x z)) .inr
      refine @hh (hAt O env1 H1) a (.ins C ts) (.ref C) (some dd) ⟨C, dd, fs, ts, rfl, rfl, rfl, hdd, r1.rl.noXd hdd, ak.keep (.less hle)⟩ O H1 _ _ _ _ R1.begin (h1 hbt a) (@EndsOk.mk (hAt _ _ _) _ _ _ _ _ _ _ (fun σ' env' H' h r s => ?_) (fun σ' env' H' h r s => ?_) (fun σ' env' H' h r s => ?_) (fun t σ' env' v H' h r s at' f => ?_))
      · exact hd.nx _ _ H' h (R.join r.rl (fun _ q => q) (s1.trans s)) (s1.trans s)
      · exact hd.bk _ _ H' h (R.join r.rl (fun _ q => q) (s1.trans s)) (s1.trans s)
      · exact hd.ct _ _ H' h (R.join r.rl (fun _ q => q) (s1.trans s)) (s1.trans s)
      · refine hd.rt t _ _ v H' h (R.join r.rl (fun _ q => q) (s1.trans s)) (s1.trans s) at' fun z => ?_
        obtain ⟨p, e1, e2, e3, e4⟩ := f z
        have e2 : Root env1 p ∨ H1 p = none := e2
        have e5 : Root env p ∨ H p = none := e2.elim (s1.more p) fun e2 => .inr (s1.none e2)
        exact ⟨p, e1, e5.elim (R.hst.more p) fun z => .inr (R.none0 z), R.join2 e3.rl (fun _ q => .inl q) (s1.trans s) (fun _ q => q.elim (fun z => .inl (.inl z)) fun z => z ▸ e5.imp .inr id), e4⟩
    | some i =>
      have R1 : Rl K O H1 (σ1.set i (some (.ref a))) (env1.set i (.val (.glo a))) := (r1.rl.less hO).putV (.glo a)
      have sp : Stp env1 H1 (env1.set i (.val (.glo a))) H1 := stp_putV
      have s2 : Stp env H (env1.set i (.val (.glo a))) H1 := s1.trans sp
      have hle : ∀ x, Bd O (env1.set i (.val (.glo a))) x → Bd O1 env1 x := fun x q => by
        rcases q with q | q
        · exact .inl (hO x q)
        · rcases root_set q with ⟨z, _⟩ | ⟨j, u, _, e, r⟩
          · cases z
          · exact .inr ⟨j, u, e, r⟩
      refine @hh (hAt O (env1.set i (.val (.glo a))) H1) a (.ins C ts) (.ref C) (some dd) ⟨C, dd, fs, ts, rfl, rfl, rfl, hdd, R1.noXd hdd, ak.keep (.less hle)⟩ O H1 _ _ _ _ R1.begin (h1 hbt a) (@EndsOk.mk (hAt _ _ _) _ _ _ _ _ _ _ (fun σ' env' H' h r s => ?_) (fun σ' env' H' h r s => ?_) (fun σ' env' H' h r s => ?_) (fun t σ' env' v H' h r s at' f => ?_))
      · exact hd.nx _ _ H' h (R.join r.rl.unset (fun _ q => q) ((s2.trans s).trans stp_unset)) ((s2.trans s).trans stp_unset)
      · exact hd.bk _ _ H' h (R.join r.rl.unset (fun _ q => q) ((s2.trans s).trans stp_unset)) ((s2.trans s).trans stp_unset)
      · exact hd.ct _ _ H' h (R.join r.rl.unset (fun _ q => q) ((s2.trans s).trans stp_unset)) ((s2.trans s).trans stp_unset)
      · refine hd.rt t _ _ v H' h (R.join r.rl (fun _ q => q) (s2.trans s)) (s2.trans s) at' fun z => ?_
        obtain ⟨p, e1, e2, e3, e4⟩ := f z
        have e2 : Root (env1.set i (.val (.glo a))) p ∨ H1 p = none := e2
        have e5 : Root env p ∨ H p = none := e2.elim (s2.more p) fun e2 => .inr (s2.none e2)
        exact ⟨p, e1, e5.elim (R.hst.more p) fun z => .inr (R.none0 z), R.join2 e3.rl (fun _ q => .inl q) (s2.trans s) (fun _ q => q.elim (fun z => .inl (.inl z)) fun z => z ▸ e5.imp .inr id), e4⟩
end
end Pu

namespace Pu
open PySem PySem.Spec PyProof.Rows L2 He Hk
section
variable {K : PySem.W.Frag} {B : Addr → Prop} {H : Hp}
theorem AtL.zip : ∀ {xs : List V} {ts : List T}, AtL K B H xs ts → xs = (xs.zip ts).map (·.1) ∧ ts = (xs.zip ts).map (·.2) ∧ ∀ q, q ∈ xs.zip ts → At K B H q.1 q.2
  | _, _, .nil => ⟨rfl, rfl, fun q h => nomatch h⟩
  | _, _, .cons h r => by
    obtain ⟨h1, h2, h3⟩ := r.zip
    refine ⟨by rw [List.zip_cons_cons, List.map_cons, ← h1], by rw [List.zip_cons_cons, List.map_cons, ← h2], fun q hq => ?_⟩
    rw [List.zip_cons_cons] at hq
    rcases List.mem_cons.mp hq with rfl | hq
    · exact h
    · exact h3 q hq
end
end Pu





namespace Hk
open PySem PySem.Spec PyProof.Rows L2 He
structure TabGo (H H1 : Hp) : Prop where
  ext : LamX.ExtN H H1
  dom : ∀ a, H a ≠ none → H1 a ≠ none
theorem TabGo.refl (H : Hp) : TabGo H H := ⟨.refl H, fun _ q => q⟩
theorem TabGo.put {H : Hp} {P c : Addr} {ps more : Array Value} {q : Str} (eP : H P = some (.tbl ps)) (ec : H c = none) : TabGo H (upd (upd H P (.tbl (ps ++ more))) c (LamX.CodeO c q)) := by
  refine ⟨fun b o e n => ?_, fun b n => ?_⟩
  · have b1 : b ≠ c := fun z => by subst z; rw [ec] at e; cases e
    have b2 : b ≠ P := fun z => by subst z; rw [eP] at e; cases e; exact n _ rfl
    rw [upd_ne b1, upd_ne b2, e]
  · by_cases b1 : b = c
    · subst b1; exact absurd ec n
    · by_cases b2 : b = P
      · subst b2; rw [upd_ne b1, upd_same]; exact fun z => by cases z
      · rw [upd_ne b1, upd_ne b2]; exact n
end Hk
namespace Pu
open PySem PySem.Spec PyProof.Rows L2 He Hk
section
variable {K : PySem.W.Frag} {O B : Addr → Prop} {H H1 H2 : Hp} {σ : L2.St} {env : Env}
theorem stb_go (g : TabGo H H1) : StB B H B H1 := ⟨fun a o _ n e => g.ext a o e n, fun _ q => .inl q⟩
theorem Rl.go (R : Rl K O H σ env) (g : TabGo H H1) (t : LamX.Tabs (TbK K) H1) : Rl K O H1 σ env := by
  refine ⟨t, R.len, fun i u e => (R.slot i u e).keep (stb_go g) fun a r => ?_, R.one, R.out, fun a q => g.dom a (R.dom a q)⟩
  obtain ⟨_, y, q⟩ := (R.slot i u e).root r
  cases h : H a with
  | none => exact absurd h q.def
  | some o => exact g.ext a o h (q.nt h)
theorem ArOk.go (g : TabGo H H1) : ∀ {as : List Ar} {vs : List V}, ArOk K B H σ as vs → ArOk K B H1 σ as vs
  | [], [], _ => trivial
  | .val _ :: _, _ :: _, h => ⟨h.1.keep (stb_go g), ArOk.go g h.2⟩
  | .var _ :: _, _ :: _, h => ⟨h.1, ArOk.go g h.2⟩
  | [], _ :: _, h => h.elim
  | .val _ :: _, [], h => h.elim
  | .var _ :: _, [], h => h.elim
end
end Pu






namespace Pu
open PySem PySem.Spec PyProof.Rows L2 He Hk
section
variable {K : PySem.W.Frag} {O B B' : Addr → Prop} {H H' H1 H2 : Hp} {env env' env1 env2 : Env} {σ : L2.St} {p : Addr} {v : V} {t : T} {fr : Bool} {W : WX} {X : PX}
theorem own_sig {i : Nat} {t : T} (R : Rl K O H σ env) (e : ownT env[i]? = some (p, t)) : σ[i]? = some (some (.ref p)) := by
  cases q : env[i]? with
  | none => rw [q] at e; cases e
  | some s =>
    rw [q] at e
    have sl := R.slot i s q
    have fin : ∀ r : Addr, σ[i]?.getD none = some (.ref r) → σ[i]? = some (some (.ref r)) := fun r h1 => by
      cases z : σ[i]? with
      | none => rw [z] at h1; cases h1
      | some y => rw [z] at h1; rw [show y = some (.ref r) from h1]
    cases s with
    | own p' t0 => cases e; exact fin _ sl.1
    | ref p' t0 => cases e; exact fin _ sl.1
    | none => cases e
    | val _ => cases e
def pFldO (K : PySem.W.Frag) (i : Nat) (f : Str) : PE := fun env P => match ownT env[i]? with
  | some (_, .ins C fs) => Cls K C ∧ NoAttr K C f ∧ (match lookK f fs with | some u => P u env | none => False)
  | _ => False
theorem rf_fldO [h0 : Hist] {i : Nat} {f : Str} : RefE K (tFld K (tVar i) f) (pFldO K i f) := by
  intro O H σ env P Q R hp hq
  unfold pFldO at hp
  cases e : ownT env[i]? with
  | none => rw [e] at hp; exact hp.elim
  | some q =>
    obtain ⟨p, u⟩ := q
    rw [e] at hp
    cases u with
    | ins C ts =>
      obtain ⟨c, na, hp⟩ := hp
      cases q : lookK f ts with
      | none => rw [q] at hp; exact hp.elim
      | some u =>
        rw [q] at hp
        have ho := ownT_holds R.rl e
        cases ho with
        | @ins _ dx fs _ eh al =>
          obtain ⟨w, e1, a2⟩ := look_fK al q
          exact ⟨.ref p, own_sig R.rl e, p, C, dx, fs, w, rfl, eh, c, na, e1, hq u env w H hp R (.refl _ _) a2⟩
    | _ => exact hp.elim
def pMethO (i : Nat) (m : Str) (tab : List (Addr × PSp)) (pa : PA) : PE := fun env P => match ownT env[i]? with
  | some (_, .ins C fs) => lookK m fs = none ∧ ∃ ps, (C, ps) ∈ tab ∧ pa env fun as env2 => cA ps (.var i :: as) env2 P
  | _ => False
def pMethOX (i : Nat) (m : Str) (tab : List (Addr × PSpX)) (X : PX) (pa : PA) : PE := fun env P => match ownT env[i]? with
  | some (_, .ins C fs) => lookK m fs = none ∧ ∃ ps, (C, ps) ∈ tab ∧ pa env fun as env2 => cX ps X (.var i :: as) env2 P
  | _ => False
theorem rf_methO [h0 : Hist] {i : Nat} {m : Str} {tab : List (Addr × PSp)} {ta : TA} {pa : PA} {E : L2.St → XK} (ha : RefA K ta pa) : RefE K (tMethS m (mtP K fr tab) E (tVar i) ta) (pMethO i m tab pa) := by
  intro O H σ env P Q R hp hq
  unfold pMethO at hp
  cases e : ownT env[i]? with
  | none => rw [e] at hp; exact hp.elim
  | some q =>
    obtain ⟨p, u⟩ := q
    rw [e] at hp
    cases u with
    | ins C ts =>
      obtain ⟨hl, ps, hm, p1⟩ := hp
      have ho := ownT_holds R.rl e
      have hs := own_sig R.rl e
      cases ho with
      | @ins _ dx fs _ eh al =>
        refine ⟨.ref p, hs, p, C, dx, fs, spP K fr ps, List.mem_map.mpr ⟨_, hm, rfl⟩, rfl, eh, look_none al hl, ?_⟩
        refine ha O H σ env _ _ R p1 fun as env2 vs H2 p2 r2 s2 a2 => ?_
        exact sp_call r2 (as := .var i :: as) (vs := .ref p :: vs) ⟨hs, a2⟩ p2 fun t' env3 v' H3 p3 r3 s3 a3 => hq t' env3 v' H3 p3 r3 (s2.trans s3) a3
    | _ => exact hp.elim
theorem rf_methOX [h0 : Hist] {i : Nat} {m : Str} {tab : List (Addr × PSpX)} {ta : TA} {pa : PA} (hx : XOk K W X) (ha : RefA K ta pa) : RefE K (tMethS m (mtX K fr tab) (WE W) (tVar i) ta) (pMethOX i m tab X pa) := by
  intro O H σ env P Q R hp hq
  unfold pMethOX at hp
  cases e : ownT env[i]? with
  | none => rw [e] at hp; exact hp.elim
  | some q =>
    obtain ⟨p, u⟩ := q
    rw [e] at hp
    cases u with
    | ins C ts =>
      obtain ⟨hl, ps, hm, p1⟩ := hp
      have ho := ownT_holds R.rl e
      have hs := own_sig R.rl e
      cases ho with
      | @ins _ dx fs _ eh al =>
        refine ⟨.ref p, hs, p, C, dx, fs, spX K fr ps, List.mem_map.mpr ⟨_, hm, rfl⟩, rfl, eh, look_none al hl, ?_⟩
        refine ha O H σ env _ _ R p1 fun as env2 vs H2 p2 r2 s2 a2 => ?_
        exact sp_callX hx r2 (as := .var i :: as) (vs := .ref p :: vs) ⟨hs, a2⟩ p2 fun t' env3 v' H3 p3 r3 s3 a3 => hq t' env3 v' H3 p3 r3 (s2.trans s3) a3
    | _ => exact hp.elim
theorem w_fldO {i : Nat} {f : Str} {C : Addr} {fs : List (Key × T)} {u : T} {P : T → Env → Prop} (e : ownT env[i]? = some (p, .ins C fs)) (c : Cls K C) (n : NoAttr K C f) (l : lookK f fs = some u) (h : P u env) : pFldO K i f env P := by
  unfold pFldO
  rw [e]
  refine ⟨c, n, ?_⟩
  rw [l]; exact h
theorem w_methO {i : Nat} {m : Str} {C : Addr} {fs : List (Key × T)} {tab : List (Addr × PSp)} {ps : PSp} {pa : PA} {P : T → Env → Prop} (e : ownT env[i]? = some (p, .ins C fs)) (l : lookK m fs = none) (hm : (C, ps) ∈ tab) (h : pa env fun as env2 => cA ps (.var i :: as) env2 P) : pMethO i m tab pa env P := by
  unfold pMethO
  rw [e]
  exact ⟨l, ps, hm, h⟩
theorem w_methOX {i : Nat} {m : Str} {C : Addr} {fs : List (Key × T)} {tab : List (Addr × PSpX)} {ps : PSpX} {pa : PA} {P : T → Env → Prop} (e : ownT env[i]? = some (p, .ins C fs)) (l : lookK m fs = none) (hm : (C, ps) ∈ tab) (h : pa env fun as env2 => cX ps X (.var i :: as) env2 P) : pMethOX i m tab X pa env P := by
  unfold pMethOX
  rw [e]
  exact ⟨l, ps, hm, h⟩
theorem w_cX' {ps : PSpX} {as : List Ar} {P : T → Env → Prop} {sl : List Slot} (e : slotsOf env as = some sl) (nd : ndA as = true) (h : ps sl (fun t sl' => kBk as env sl' fun env' => P t env') fun x sl' => kBk as env sl' fun env' => X x env') : cX ps X as env P := w_cX e nd h
end
end Pu

namespace Pu
open PySem PySem.Spec PyProof.Rows L2 He Hk
def rOrd : List V → Hp → VK → Prop := fun xs H Q => ∃ x : Str, xs = [.str x] ∧ x.length = 1 ∧ Q (.int (x.cps.getD 0 0 : Nat)) H
def rIntT : List V → Hp → VK → Prop := fun xs H Q => ∃ a n, xs = [.str a] ∧ PySem.intText? a = some n ∧ a.length ≤ 640 ∧ Q (.int n) H
def rSplit : V → List V → Hp → VK → Prop := fun x xs H Q => ∃ a b, x = .str a ∧ xs = [.str b] ∧ (b.length == 0) = false ∧ a.length + 2 ≤ sizeLine ∧ rNewStrs (Txt.split a b) H Q
def oOrd : OpT
  | [.str z], P => z.length = 1 ∧ P (.int (z.cps.getD 0 0 : Nat))
  | _, _ => False
def oIntT : OpT
  | [.str z], P => z.length ≤ 640 ∧ ∃ n, PySem.intText? z = some n ∧ P (.int n)
  | _, _ => False
def oSplit : OpT
  | [.str a, .str b], P => (b.length == 0) = false ∧ a.length ≤ 16000000 ∧ P (.lst ((Txt.split a b).map T.str))
  | _, _ => False
section
variable {K : PySem.W.Frag} {B : Addr → Prop} {H : Hp}
theorem ok_ord : OpOk K rOrd oOrd := by
  intro B H vs ts P Q hB hb hp hq
  unfold oOrd at hp
  split at hp
  · obtain ⟨x, rfl, hx⟩ := hb.one rfl
    cases hx.str
    exact ⟨_, rfl, hp.1, hq _ _ H hp.2 (Same.refl H) (.int _)⟩
  · exact hp.elim
theorem ok_intT : OpOk K rIntT oIntT := by
  intro B H vs ts P Q hB hb hp hq
  unfold oIntT at hp
  split at hp
  · obtain ⟨x, rfl, hx⟩ := hb.one rfl
    cases hx.str
    obtain ⟨hz, n, e, hp⟩ := hp
    exact ⟨_, n, rfl, e, hz, hq _ _ H hp (Same.refl H) (.int _)⟩
  · exact hp.elim
theorem atl_strs {B : Addr → Prop} {H : Hp} : ∀ ys : List Str, AtL K B H (ys.map V.str) (ys.map T.str)
  | [] => .nil
  | y :: r => .cons (.str y) (atl_strs r)
theorem ok_split : OpOk K (rm rSplit) oSplit := by
  intro B H vs ts P Q hB hb hp hq
  unfold oSplit at hp
  split at hp
  · rename_i _ a b
    obtain ⟨x, c, rfl, hx, hc⟩ := hb.two rfl
    cases hx.str
    cases hc.str
    obtain ⟨h1, h2, hp⟩ := hp
    refine ⟨a, b, rfl, rfl, h1, Nat.le_trans (Nat.add_le_add_right h2 2) (by decide), fun p hn => ?_⟩
    exact hq _ _ _ hp (same_new hn) (.lst (fun z => hB p z hn) upd_same (atl_strs _))
  · exact hp.elim
def rLeS : R2 := fun x y H Q => ∃ i j, x = .str i ∧ y = .str j ∧ Q (.bl (!decide (j.cps.toList < i.cps.toList))) H
def oLeS : OpT
  | [.str i, .str j], P => P (.bl (!decide (j.cps.toList < i.cps.toList)))
  | _, _ => False
theorem ok_leS : OpOk K (r2 rLeS) oLeS := by
  intro B H vs ts P Q hB hb hp hq
  unfold oLeS at hp
  split at hp
  · obtain ⟨x, c, rfl, hx, hc⟩ := hb.two rfl
    cases hx.str
    cases hc.str
    exact ⟨_, _, rfl, rfl, hq _ _ H hp (Same.refl H) (.bl _)⟩
  · exact hp.elim
theorem v_leS {i j : Str} {R : T → Prop} (h : R (.bl (!decide (j.cps.toList < i.cps.toList)))) : oLeS [.str i, .str j] R := h
theorem v_ord {z : Str} {R : T → Prop} (h : z.length = 1) (q : R (.int (z.cps.getD 0 0 : Nat))) : oOrd [.str z] R := ⟨h, q⟩
theorem v_intT {z : Str} {n : Int} {R : T → Prop} (h : z.length ≤ 640) (e : PySem.intText? z = some n) (q : R (.int n)) : oIntT [.str z] R := ⟨h, n, e, q⟩
theorem v_split {a b : Str} {R : T → Prop} (h1 : (b.length == 0) = false) (h2 : a.length ≤ 16000000) (q : R (.lst ((Txt.split a b).map T.str))) : oSplit [.str a, .str b] R := ⟨h1, h2, q⟩
theorem cr_ord {X : Cx} : CallR X (.builtin "ord") rOrd := call_ord
theorem cr_intT {X : Cx} : CallR X (.type "int") rIntT := call_int_str
theorem pe_split {X : Cx} {o e : Expr} {to te : TE} {apos pos : Pos} (ho : L2.PE X o to) (he : L2.PE X e te)
    (hs : starEach [e] X.env = [(false, eval e X.env)] := by rfl) (hbase : attributeBase o "split" X.env (eval o X.env) = eval o X.env := by rfl) (hline : (apos.endLine == pos.line) = true := by rfl) : L2.PE X (.Call (.Attribute o "split" apos) [e] [] pos) (tM1 rSplit to te) :=
  pe_m1 PySem.F.slot_str_split PySem.F.type_str_split mt_split ho he hs hbase hline
end
end Pu

namespace Pu
open PySem PySem.Spec PyProof.Rows L2 He Hk
structure KF (K : PySem.W.Frag) (w : World) : Prop where
  x_NoText : ErrC K (ga K "NoText") (fAd K ("NoText", some "__init__")) "found"
  x_BadText : ErrC K (ga K "BadText") (fAd K ("BadText", some "__init__")) "place"
  x_Doubled : ErrC K (ga K "Doubled") (fAd K ("Doubled", some "__init__")) "name"
  bas : BasC K (ga K "HeapError")
  c_Reader : Cls K (ga K "Reader")
  n_Reader_all_signs : NoAttr K (ga K "Reader") "all_signs"
  n_Reader_stands_at : NoAttr K (ga K "Reader") "stands_at"
  n_Reader_first_twice : NoAttr K (ga K "Reader") "first_twice"
  m_Reader_read_any : Meth K (ga K "Reader") "read_any" (fAd K ("Reader", some "read_any"))
  m_Reader_ahead : Meth K (ga K "Reader") "ahead" (fAd K ("Reader", some "ahead"))
  m_Reader_read_quoted : Meth K (ga K "Reader") "read_quoted" (fAd K ("Reader", some "read_quoted"))
  m_Reader_read_row : Meth K (ga K "Reader") "read_row" (fAd K ("Reader", some "read_row"))
  m_Reader_read_fields : Meth K (ga K "Reader") "read_fields" (fAd K ("Reader", some "read_fields"))
  m_Reader_take_all : Meth K (ga K "Reader") "take_all" (fAd K ("Reader", some "take_all"))
  m_Reader_read_number : Meth K (ga K "Reader") "read_number" (fAd K ("Reader", some "read_number"))
  m_Reader_take : Meth K (ga K "Reader") "take" (fAd K ("Reader", some "take"))
  m_Reader_read_field : Meth K (ga K "Reader") "read_field" (fAd K ("Reader", some "read_field"))
  m_Reader_ends : Meth K (ga K "Reader") "ends" (fAd K ("Reader", some "ends"))
  k_Reader : Mk K (ga K "Reader") (fAd K ("Reader", some "__init__"))
  e_NoText_NoText : PySem.W.exmOne K (.ref (ga K "NoText")) (.ref (ga K "NoText")) = some true
  e_BadText_NoText : PySem.W.exmOne K (.ref (ga K "BadText")) (.ref (ga K "NoText")) = some false
  e_BadText_BadText : PySem.W.exmOne K (.ref (ga K "BadText")) (.ref (ga K "BadText")) = some true
  e_Doubled_NoText : PySem.W.exmOne K (.ref (ga K "Doubled")) (.ref (ga K "NoText")) = some false
  e_Doubled_BadText : PySem.W.exmOne K (.ref (ga K "Doubled")) (.ref (ga K "BadText")) = some false
  e_Doubled_Doubled : PySem.W.exmOne K (.ref (ga K "Doubled")) (.ref (ga K "Doubled")) = some true
end Pu

namespace Pu
open PySem PySem.Spec PyProof.Rows L2 He Hk
theorem exB_tb {K : PySem.W.Frag} {H : Hp} (h : exB K = true) : LamX.Tabs (TbK K) H := by
  unfold exB at h
  obtain ⟨e, h⟩ := Bool.and_eq_true_iff.mp h
  rw [List.isEmpty_iff.mp e]
  exact fun p z => nomatch z
theorem exB_ok {K : PySem.W.Frag} {w : World} (h : exB K = true) (d : ∀ (i : Nat) (t : He.Tab), tabs[i]? = some t → ∃ es n, KDict K w (t.1 K) es n) : KF K w := by
  unfold exB at h
  obtain ⟨e_tb, h⟩ := Bool.and_eq_true_iff.mp h
  obtain ⟨e0, h⟩ := Bool.and_eq_true_iff.mp h
  obtain ⟨e1, h⟩ := Bool.and_eq_true_iff.mp h
  obtain ⟨e2, h⟩ := Bool.and_eq_true_iff.mp h
  have e3 := h
  clear h
  unfold ex0 at e0
  obtain ⟨h_x_NoText, e0⟩ := Bool.and_eq_true_iff.mp e0
  obtain ⟨h_x_BadText, e0⟩ := Bool.and_eq_true_iff.mp e0
  obtain ⟨h_x_Doubled, e0⟩ := Bool.and_eq_true_iff.mp e0
  obtain ⟨h_bas, e0⟩ := Bool.and_eq_true_iff.mp e0
  obtain ⟨h_c_Reader, e0⟩ := Bool.and_eq_true_iff.mp e0
  obtain ⟨h_n_Reader_all_signs, e0⟩ := Bool.and_eq_true_iff.mp e0
  obtain ⟨h_n_Reader_stands_at, e0⟩ := Bool.and_eq_true_iff.mp e0
  have h_n_Reader_first_twice := e0
  unfold ex1 at e1
  obtain ⟨h_m_Reader_read_any, e1⟩ := Bool.and_eq_true_iff.mp e1
  obtain ⟨h_m_Reader_ahead, e1⟩ := Bool.and_eq_true_iff.mp e1
  obtain ⟨h_m_Reader_read_quoted, e1⟩ := Bool.and_eq_true_iff.mp e1
  obtain ⟨h_m_Reader_read_row, e1⟩ := Bool.and_eq_true_iff.mp e1
  obtain ⟨h_m_Reader_read_fields, e1⟩ := Bool.and_eq_true_iff.mp e1
  obtain ⟨h_m_Reader_take_all, e1⟩ := Bool.and_eq_true_iff.mp e1
  obtain ⟨h_m_Reader_read_number, e1⟩ := Bool.and_eq_true_iff.mp e1
  have h_m_Reader_take := e1
  unfold ex2 at e2
  obtain ⟨h_m_Reader_read_field, e2⟩ := Bool.and_eq_true_iff.mp e2
  obtain ⟨h_m_Reader_ends, e2⟩ := Bool.and_eq_true_iff.mp e2
  obtain ⟨h_k_Reader, e2⟩ := Bool.and_eq_true_iff.mp e2
  obtain ⟨h_e_NoText_NoText, e2⟩ := Bool.and_eq_true_iff.mp e2
  obtain ⟨h_e_BadText_NoText, e2⟩ := Bool.and_eq_true_iff.mp e2
  obtain ⟨h_e_BadText_BadText, e2⟩ := Bool.and_eq_true_iff.mp e2
  obtain ⟨h_e_Doubled_NoText, e2⟩ := Bool.and_eq_true_iff.mp e2
  have h_e_Doubled_BadText := e2
  unfold ex3 at e3
  have h_e_Doubled_Doubled := e3
  exact ⟨errB_ok h_x_NoText, errB_ok h_x_BadText, errB_ok h_x_Doubled, basB_ok h_bas, clsQ_ok h_c_Reader, noQ_ok h_n_Reader_all_signs, noQ_ok h_n_Reader_stands_at, noQ_ok h_n_Reader_first_twice, methQ_ok h_m_Reader_read_any, methQ_ok h_m_Reader_ahead, methQ_ok h_m_Reader_read_quoted, methQ_ok h_m_Reader_read_row, methQ_ok h_m_Reader_read_fields, methQ_ok h_m_Reader_take_all, methQ_ok h_m_Reader_read_number, methQ_ok h_m_Reader_take, methQ_ok h_m_Reader_read_field, methQ_ok h_m_Reader_ends, mkQ_ok h_k_Reader, of_decide_eq_true h_e_NoText_NoText, of_decide_eq_true h_e_BadText_NoText, of_decide_eq_true h_e_BadText_BadText, of_decide_eq_true h_e_Doubled_NoText, of_decide_eq_true h_e_Doubled_BadText, of_decide_eq_true h_e_Doubled_Doubled⟩
theorem law_start {S : PSp} {K : PySem.W.Frag} {H : Hp} {a : Addr} {ns : List Int} (ht : LamX.Tabs (TbK K) H) (hS : SqL K H a (ns.map V.int)) (h : S [.val (.scr ns)] fun t _ => t = .bl true) : spP K false S [.ref a] H (fun v _ => v = .bl true) fun _ _ _ => False := by
  refine ⟨fun _ => False, [.val (.scr ns)], fun t _ => t = .bl true, ⟨ht, rfl, fun i s e => ?_, fun i j s u a e1 e2 r1 r2 => ?_, fun a z => z.elim, fun a z => z.elim⟩, h, fun t sl' v H' p _ _ _ at' _ => ?_⟩
  · match i, e with
    | 0, e =>
      cases e
      refine ⟨_, rfl, ?_⟩
      rcases hS with hS | hS
      · exact .scr (fun z => by rcases z with z | ⟨i, s, e, r⟩; exact z; match i, e with | 0, e => cases e; cases r) hS
      · exact .scrK hS
  · match i, e1 with
    | 0, e1 => cases e1; cases r1
  · subst p; cases at'; rfl
def FactsT (S : PSp) : Prop := ∀ {P : Program} {w : World} {K : PySem.W.Frag} {h : Heap} {mg : Str → Option Value} {f : Addr} (X : K.In h) (G : h.Ns mainGlobals mg) (hfa : mg ("law" : Str) = some (.ref f)) (cx : SaysZ fa fn tabs exB w K),
    ∃ fd : FuncData, (∀ (s : Shared) (v : Value), BindsTo s fd ⟨[v], []⟩ [("_law_script", v)]) ∧ ∀ base : Heap, K.In base → base.Ns mainGlobals mg → FnG P w K mg base CX0 38 f fd ["_law_script"] (spP K false S)
end Pu
section
open PySem PySem.W PySem.Calls PyProof.Rows
set_option maxRecDepth 100000 in
set_option maxHeartbeats 0 in
theorem Pu.pre {S : Pu.PSp} (hS : ∀ ns, S [.val (.scr ns)] fun t _ => t = .bl true) (hrun : ∀ w, HandSHeadRun.RunEq Pu.R (PySem.W.view Pu.R.prog [28]) Pu.hk Pu.ob 20000 Pu.loose w) (hF : Pu.FactsT S) : PySem.Challenge.rw_heapkinds_k15_names_twice_in_texts.Holds := by
  w_on; o_law
  refine HandSHeadRun.head_any (r := OpenLaw.row PySem.Challenge.rw_heapkinds_k15_names_twice_in_texts) (q := view (OpenLaw.row PySem.Challenge.rw_heapkinds_k15_names_twice_in_texts).prog [28]) (H := Pu.hk) (ob := Pu.ob) (M := 20000) (loose := Pu.loose) (d := HandSHeadRun.topDef (OpenLaw.row PySem.Challenge.rw_heapkinds_k15_names_twice_in_texts).prog 28) (kwd := []) Pu.ob_eq
    (by kernel_rfl) (fun s => by kernel_rfl) hrun (by kernel_rfl) (by kernel_rfl) (by kernel_rfl) (by rfl) (by first | assumption | decide +kernel) (by decide +kernel) ⟨rfl, rfl, rfl, rfl, rfl, by decide +kernel⟩ ?hw ?hc
  case hw => w_witness2
  case hc =>
    refine Hk.walk_G (l := PySem.Challenge.rw_heapkinds_k15_names_twice_in_texts) (n := 63) (k := 38) (x := "_law_script") (CX := L2.CX0) rfl (by decide) (by kernel_rfl) ⟨rfl, by decide, by decide⟩ ?F (fun _ _ _ _ z => z)
    intro w mg fa h Y G hmg0
    obtain ⟨K, KX, c⟩ := Y
    have hmg : mg ("law" : PySem.Str) = some (.ref fa) := by
      have e : (HandSHeadRun.topDef (OpenLaw.row PySem.Challenge.rw_heapkinds_k15_names_twice_in_texts).prog 28).name = ("law" : PySem.Str) := by kernel_rfl
      rw [← e]
      exact hmg0
    obtain ⟨fd, hb, hF⟩ := hF (P := (PySem.Challenge.rw_heapkinds_k15_names_twice_in_texts).prog) (w := w) KX G hmg c
    exact ⟨K, fd, Pu.spP K false S, KX, hb, fun H a ns hl _ hs => Pu.law_start (Pu.exB_tb c.2.1) hs (hS ns), hF⟩
end

namespace Pu
open PySem PySem.Spec PyProof.Rows L2 He Hk
def t_law (K : PySem.W.Frag) (sp__law_box : L2.Sp) (sp__law_cell : L2.Sp) (sp__law_take : L2.Sp) (sp__law_tree : L2.Sp) (sp__law_written : L2.Sp) (sp__law_twice : L2.Sp) (sp__law_right : L2.Sp) (sp__law_asked : L2.Sp) : TS :=
  (tSeq (tFor (iRng1 (tCons (tCB (rMax2) (tCons (tC (.int 1)) (tCons (tCB (rMin2) (tCons (tC (.int 6)) (tCons (tCB (rLenX K) (tCons (tVar 0) tNil)) tNil))) tNil))) tNil)) (gName 1) (tSeq (tAsg (tCall sp__law_box [] E0 (tCons (tCall sp__law_cell [] E0 (tCons (tVar 0) (tCons (tVar 1) tNil))) tNil)) (gName 2))
    (tSeq (tAsg (tCall sp__law_take [] E0 (tCons (tVar 2) (tCons (tC (.int 8)) tNil))) (gName 3))
    (tSeq (tAsg (tOp (rIxU K) (tLst (tCons (tC (.str "]")) (tCons (tC (.str "}")) (tCons (tC (.str "a")) (tCons (tC (.str ",")) (tCons (tC (.str " ")) tNil)))))) (tCall sp__law_take [] E0 (tCons (tVar 2) (tCons (tC (.int 5)) tNil)))) (gName 4))
    (tSeq (tAsg (tLst (tCons (tC (.str "row")) (tCons (tLst (tCons (tCall sp__law_tree [] E0 (tCons (tVar 2) (tCons (tC (.int 3)) tNil))) (tCons (tCall sp__law_tree [] E0 (tCons (tVar 2) (tCons (tC (.int 3)) tNil))) tNil))) tNil))) (gName 5))
    (tSeq (tAsg (tCall sp__law_written [] E0 (tCons (tVar 5) tNil)) (gName 6))
    (tSeq (tAsg (tCall sp__law_twice [] E0 (tCons (tVar 5) tNil)) (gName 7))
    (tSeq (tAsg (tOp (rAdd K) (tC (.int 1)) (tCall sp__law_take [] E0 (tCons (tVar 2) (tCons (tOp (Hk.rSub) (tCB (rLenX K) (tCons (tVar 6) tNil)) (tC (.int 1))) tNil)))) (gName 8))
    (tSeq (tIfS (tNot (tB (tCall sp__law_right [] E0 (tCons (tVar 6) (tCons (tVar 7) tNil))))) (tRet (tC (.bl false))) tNext)
    (tSeq (tIfS (tOr (tTest (tOp (rNeY K) (tCall sp__law_asked [] E0 (tCons (tOp (rAdd K) (tVar 6) (tVar 4)) tNil)) (tTup (tCons (tC (.str "bad")) (tCons (tCB (rLenX K) (tCons (tVar 6) tNil)) tNil))))) (tTest (tOp (rNeY K) (tCall sp__law_asked [] E0 (tCons (tSl (rSlU K) (tVar 6) tNoPart (tPart (tVar 8))) tNil)) (tTup (tCons (tC (.str "bad")) (tCons (tVar 8) tNil)))))) (tRet (tC (.bl false))) tNext)
    (tSeq (tAsg (tOp (rIxU K) (tLst (tCons (tC .non) (tCons (tC (.int 5)) (tCons (tC (.bl true)) (tCons (tLst tNil) (tCons tDNewK (tCons (tTup (tCons (tC (.str "no")) tNil)) (tCons (tLst (tCons (tVar 6) tNil)) (tCons (tDisp (((tC (.str "a")), (tVar 6)) :: [])) tNil))))))))) (tVar 3)) (gName 9))
    (tIfS (tOr (tTest (tOp (rNeY K) (tCB (rReprP K) (tCons (tCall sp__law_asked [] E0 (tCons (tVar 9) tNil)) tNil)) (tCB (rReprP K) (tCons (tTup (tCons (tC (.str "none")) (tCons (tVar 9) tNil))) tNil)))) (tNot (tB (tCall sp__law_right [] E0 (tCons (tVar 6) (tCons (tVar 7) tNil)))))) (tRet (tC (.bl false))) tNext))))))))))))
    (tRet (tAndV (tOp (rEqY K) (tCall sp__law_asked [] E0 (tCons (tC (.str "{a: {b: 1, b: 2}, a: 1, a: 3}")) tNil)) (tTup (tCons (tC (.str "twice")) (tCons (tC (.str "b")) tNil)))) (tOp (rEqY K) (tCall sp__law_asked [] E0 (tCons (tC (.str "{a: 1, a: 2")) tNil)) (tTup (tCons (tC (.str "bad")) (tCons (tC (.int 11)) tNil)))))))

def t__law_asked (K : PySem.W.Frag) (sp_read_worth : L2.Sp) : TS :=
  (tSeq (tAsg (tTup (tCons (tC (.str "another")) (tCons (tC .non) tNil))) (gName 1))
    (tSeq (tTryG K ((.ref (ga K "NoText"), (some 2), fun a cls d => (tAsg (tTup (tCons (tC (.str "none")) (tCons (tXf a cls d (ga K "NoText") "found" (tVar 2)) tNil))) (gName 1))) :: ((.ref (ga K "BadText"), (some 2), fun a cls d => (tAsg (tTup (tCons (tC (.str "bad")) (tCons (tXf a cls d (ga K "BadText") "place" (tVar 2)) tNil))) (gName 1))) :: ((.ref (ga K "Doubled"), (some 2), fun a cls d => (tAsg (tTup (tCons (tC (.str "twice")) (tCons (tXf a cls d (ga K "Doubled") "name" (tVar 2)) tNil))) (gName 1))) :: ((.ref (ga K "HeapError"), none, fun a cls d => (tAsg (tTup (tCons (tC (.str "another")) (tCons (tC .non) tNil))) (gName 1))) :: [])))) (fun W => (tAsg (tTup (tCons (tC (.str "read")) (tCons (tCallS sp_read_worth (WE W) (tCons (tVar 0) tNil)) tNil))) (gName 1))) WF)
    (tRet (tVar 1))))

def t_read_worth (K : PySem.W.Frag) (W : WX) (sp_Reader____init__ : L2.Sp) (sp_Reader__read_any : L2.Sp) : TS :=
  (tSeq (tIfS (tNot (tB (tCB (rIsi K) (tCons (tVar 0) (tCons (tC (.ty "str")) tNil))))) (tRaise W (ga K "NoText") "found" (tCons (tVar 0) tNil)) tNext)
    (tSeq (tAsg (tMakeS (ga K "Reader") sp_Reader____init__ (fun _ => E0) (tCons (tVar 0) tNil)) (gName 1))
    (tSeq (tAsg (tMethS "read_any" [(ga K "Reader", sp_Reader__read_any)] (WE W) (tVar 1) (tCons (tC (.int 1)) tNil)) (gName 2))
    (tSeq (tIfS (tTest (tOp (rLtU) (tFld K (tVar 1) "stands_at") (tCB (rLenX K) (tCons (tVar 0) tNil)))) (tRaise W (ga K "BadText") "place" (tCons (tFld K (tVar 1) "stands_at") tNil)) tNext)
    (tSeq (tIfS (tTest (tOp (Hk.rNotN) (tFld K (tVar 1) "first_twice") (tC .non))) (tRaise W (ga K "Doubled") "name" (tCons (tFld K (tVar 1) "first_twice") tNil)) tNext)
    (tRet (tVar 2)))))))

def t_Reader__read_any (K : PySem.W.Frag) (W : WX) (sp_Reader__ahead : L2.Sp) (sp_Reader__read_quoted : L2.Sp) (sp_Reader__read_row : L2.Sp) (sp_Reader__read_fields : L2.Sp) (sp_Reader__take_all : L2.Sp) (sp_Reader__read_number : L2.Sp) : TS :=
  (tSeq (tAsg (tMethS "ahead" [(ga K "Reader", sp_Reader__ahead)] (fun _ => E0) (tVar 0) tNil) (gName 2))
    (tSeq (tIfS (tTest (tOp (rEqY K) (tVar 2) (tC (.str "\"")))) (tRet (tMethS "read_quoted" [(ga K "Reader", sp_Reader__read_quoted)] (WE W) (tVar 0) tNil)) tNext)
    (tSeq (tIfS (tTest (tOp (rEqY K) (tVar 2) (tC (.str "[")))) (tRet (tMethS "read_row" [(ga K "Reader", sp_Reader__read_row)] (WE W) (tVar 0) (tCons (tVar 1) tNil))) tNext)
    (tSeq (tIfS (tTest (tOp (rEqY K) (tVar 2) (tC (.str "{")))) (tRet (tMethS "read_fields" [(ga K "Reader", sp_Reader__read_fields)] (WE W) (tVar 0) (tCons (tVar 1) tNil))) tNext)
    (tSeq (tIfS (tTest (tOp (rEqY K) (tVar 2) (tC (.str "y")))) (tSeq (tDrop (tMethS "take_all" [(ga K "Reader", sp_Reader__take_all)] (WE W) (tVar 0) (tCons (tC (.str "yes")) tNil)))
    (tRet (tC (.bl true)))) tNext)
    (tSeq (tIfS (tTest (tOp (rEqY K) (tVar 2) (tC (.str "n")))) (tSeq (tDrop (tMethS "take_all" [(ga K "Reader", sp_Reader__take_all)] (WE W) (tVar 0) (tCons (tC (.str "no")) tNil)))
    (tSeq (tIfS (tTest (tOp (rNeY K) (tMethS "ahead" [(ga K "Reader", sp_Reader__ahead)] (fun _ => E0) (tVar 0) tNil) (tC (.str "t")))) (tRet (tC (.bl false))) tNext)
    (tSeq (tDrop (tMethS "take_all" [(ga K "Reader", sp_Reader__take_all)] (WE W) (tVar 0) (tCons (tC (.str "thing")) tNil)))
    (tRet (tC .non))))) tNext)
    (tRet (tMethS "read_number" [(ga K "Reader", sp_Reader__read_number)] (WE W) (tVar 0) tNil))))))))

def t_Reader__read_number (K : PySem.W.Frag) (W : WX) (sp_Reader__ahead : L2.Sp) (sp_Reader__take : L2.Sp) : TS :=
  (tSeq (tAsg (tOp (rEqY K) (tMethS "ahead" [(ga K "Reader", sp_Reader__ahead)] (fun _ => E0) (tVar 0) tNil) (tC (.str "-"))) (gName 1))
    (tSeq (tIfS (tB (tVar 1)) (tDrop (tMethS "take" [(ga K "Reader", sp_Reader__take)] (WE W) (tVar 0) (tCons (tC (.str "-")) tNil))) tNext)
    (tSeq (tIfS (tAnd (tTest (tOp (rEqY K) (tMethS "ahead" [(ga K "Reader", sp_Reader__ahead)] (fun _ => E0) (tVar 0) tNil) (tC (.str "0")))) (tNot (tB (tVar 1)))) (tSeq (tDrop (tMethS "take" [(ga K "Reader", sp_Reader__take)] (WE W) (tVar 0) (tCons (tC (.str "0")) tNil)))
    (tRet (tC (.int 0)))) tNext)
    (tSeq (tAsg (tMethS "take" [(ga K "Reader", sp_Reader__take)] (WE W) (tVar 0) (tCons (tSl (rSlU K) (tC (.str "0123456789")) (tPart (tC (.int 1))) tNoPart) tNil)) (gName 2))
    (tSeq (tWhile (tAnd (tTest (tOp (rNeY K) (tMethS "ahead" [(ga K "Reader", sp_Reader__ahead)] (fun _ => E0) (tVar 0) tNil) (tC (.str "")))) (tAnd (tTest (tOp (rInU K) (tMethS "ahead" [(ga K "Reader", sp_Reader__ahead)] (fun _ => E0) (tVar 0) tNil) (tC (.str "0123456789")))) (tTest (tOp (rLtU) (tCB (rLenX K) (tCons (tVar 2) tNil)) (tC (.int 18)))))) (tAsg (tOp (rAdd K) (tVar 2) (tMethS "take" [(ga K "Reader", sp_Reader__take)] (WE W) (tVar 0) (tCons (tC (.str "0123456789")) tNil))) (gName 2)))
    (tRet (tIf (tB (tVar 1)) (tOp (Hk.rSub) (tC (.int 0)) (tCB rIntT (tCons (tVar 2) tNil))) (tCB rIntT (tCons (tVar 2) tNil)))))))))

def t_Reader__take (K : PySem.W.Frag) (W : WX) (sp_Reader__ahead : L2.Sp) : TS :=
  (tSeq (tAsg (tMethS "ahead" [(ga K "Reader", sp_Reader__ahead)] (fun _ => E0) (tVar 0) tNil) (gName 2))
    (tSeq (tIfS (tOr (tTest (tOp (rEqY K) (tVar 2) (tC (.str "")))) (tTest (tOp (rNotInU K) (tVar 2) (tVar 1)))) (tRaise W (ga K "BadText") "place" (tCons (tFld K (tVar 0) "stands_at") tNil)) tNext)
    (tSeq (sFld K (tVar 0) (tOp (rAdd K) (tFld K (tVar 0) "stands_at") (tC (.int 1))) "stands_at")
    (tRet (tVar 2)))))

def t_Reader__ahead (K : PySem.W.Frag)  : TS :=
  (tRet (tSl (rSlU K) (tFld K (tVar 0) "all_signs") (tPart (tFld K (tVar 0) "stands_at")) (tPart (tOp (rAdd K) (tFld K (tVar 0) "stands_at") (tC (.int 1))))))

def t_Reader__take_all (K : PySem.W.Frag) (W : WX) (sp_Reader__take : L2.Sp) : TS :=
  (tFor (iStr (tVar 1)) (gName 2) (tDrop (tMethS "take" [(ga K "Reader", sp_Reader__take)] (WE W) (tVar 0) (tCons (tVar 2) tNil))))

def t_Reader__read_fields (K : PySem.W.Frag) (W : WX) (sp_Reader__take : L2.Sp) (sp_Reader__ahead : L2.Sp) (sp_Reader__read_field : L2.Sp) (sp_Reader__take_all : L2.Sp) : TS :=
  (tSeq (tDrop (tMethS "take" [(ga K "Reader", sp_Reader__take)] (WE W) (tVar 0) (tCons (tC (.str "{")) tNil)))
    (tSeq (tAsg tDNewK (gName 2))
    (tSeq (tIfS (tAnd (tTest (tOp (rLtU) (tVar 1) (tC (.int 4)))) (tTest (tOp (rNeY K) (tMethS "ahead" [(ga K "Reader", sp_Reader__ahead)] (fun _ => E0) (tVar 0) tNil) (tC (.str "}"))))) (tSeq (tDrop (tMethS "read_field" [(ga K "Reader", sp_Reader__read_field)] (WE W) (tVar 0) (tCons (tVar 2) (tCons (tVar 1) tNil))))
    (tFor (iRng1 (tCons (tOp (Hk.rSub) (tC (.int 8)) (tC (.int 1))) tNil)) (gName 3) (tIfS (tTest (tOp (rEqY K) (tMethS "ahead" [(ga K "Reader", sp_Reader__ahead)] (fun _ => E0) (tVar 0) tNil) (tC (.str ",")))) (tSeq (tDrop (tMethS "take_all" [(ga K "Reader", sp_Reader__take_all)] (WE W) (tVar 0) (tCons (tC (.str ", ")) tNil)))
    (tDrop (tMethS "read_field" [(ga K "Reader", sp_Reader__read_field)] (WE W) (tVar 0) (tCons (tVar 2) (tCons (tVar 1) tNil))))) tNext))) tNext)
    (tSeq (tDrop (tMethS "take" [(ga K "Reader", sp_Reader__take)] (WE W) (tVar 0) (tCons (tC (.str "}")) tNil)))
    (tRet (tVar 2))))))

def t_Reader__read_field (K : PySem.W.Frag) (W : WX) (sp_Reader__take : L2.Sp) (sp_Reader__ahead : L2.Sp) (sp_Reader__take_all : L2.Sp) (sp_Reader__read_any : L2.Sp) : TS :=
  (tSeq (tAsg (tMethS "take" [(ga K "Reader", sp_Reader__take)] (WE W) (tVar 0) (tCons (tC (.str "abcdefghijklmnopqrstuvwxyz")) tNil)) (gName 3))
    (tSeq (tWhile (tAnd (tTest (tOp (rLtU) (tCB (rLenX K) (tCons (tVar 3) tNil)) (tC (.int 8)))) (tTest (tOp (rNeY K) (tMethS "ahead" [(ga K "Reader", sp_Reader__ahead)] (fun _ => E0) (tVar 0) tNil) (tC (.str ":"))))) (tAsg (tOp (rAdd K) (tVar 3) (tMethS "take" [(ga K "Reader", sp_Reader__take)] (WE W) (tVar 0) (tCons (tC (.str "abcdefghijklmnopqrstuvwxyz")) tNil))) (gName 3)))
    (tSeq (tDrop (tMethS "take_all" [(ga K "Reader", sp_Reader__take_all)] (WE W) (tVar 0) (tCons (tC (.str ": ")) tNil)))
    (tSeq (tIfS (tAnd (tTest (tOp (rInA K) (tVar 3) (tVar 1))) (tTest (tOp (Hk.rIsN) (tFld K (tVar 0) "first_twice") (tC .non)))) (sFld K (tVar 0) (tVar 3) "first_twice") tNext)
    (tAsg (tMethS "read_any" [(ga K "Reader", sp_Reader__read_any)] (WE W) (tVar 0) (tCons (tOp (rAdd K) (tVar 2) (tC (.int 1))) tNil)) (gSub (tVar 1) (tVar 3) rSetD))))))

def t_Reader__read_row (K : PySem.W.Frag) (W : WX) (sp_Reader__take : L2.Sp) (sp_Reader__ahead : L2.Sp) (sp_Reader__read_any : L2.Sp) (sp_Reader__take_all : L2.Sp) : TS :=
  (tSeq (tDrop (tMethS "take" [(ga K "Reader", sp_Reader__take)] (WE W) (tVar 0) (tCons (tC (.str "[")) tNil)))
    (tSeq (tAsg (tLst tNil) (gName 2))
    (tSeq (tIfS (tAnd (tTest (tOp (rLtU) (tVar 1) (tC (.int 4)))) (tTest (tOp (rNeY K) (tMethS "ahead" [(ga K "Reader", sp_Reader__ahead)] (fun _ => E0) (tVar 0) tNil) (tC (.str "]"))))) (tSeq (tDrop (tBM K "list" rAppend (tVar 2) (tCons (tMethS "read_any" [(ga K "Reader", sp_Reader__read_any)] (WE W) (tVar 0) (tCons (tOp (rAdd K) (tVar 1) (tC (.int 1))) tNil)) tNil)))
    (tWhile (tAnd (tTest (tOp (rLtU) (tCB (rLenX K) (tCons (tVar 2) tNil)) (tC (.int 6)))) (tTest (tOp (rEqY K) (tMethS "ahead" [(ga K "Reader", sp_Reader__ahead)] (fun _ => E0) (tVar 0) tNil) (tC (.str ","))))) (tSeq (tDrop (tMethS "take_all" [(ga K "Reader", sp_Reader__take_all)] (WE W) (tVar 0) (tCons (tC (.str ", ")) tNil)))
    (tDrop (tBM K "list" rAppend (tVar 2) (tCons (tMethS "read_any" [(ga K "Reader", sp_Reader__read_any)] (WE W) (tVar 0) (tCons (tOp (rAdd K) (tVar 1) (tC (.int 1))) tNil)) tNil)))))) tNext)
    (tSeq (tDrop (tMethS "take" [(ga K "Reader", sp_Reader__take)] (WE W) (tVar 0) (tCons (tC (.str "]")) tNil)))
    (tRet (tVar 2))))))

def t_Reader__read_quoted (K : PySem.W.Frag) (W : WX) (sp_Reader__take : L2.Sp) (sp_Reader__ends : L2.Sp) (sp_Reader__ahead : L2.Sp) (sp_is_sign : L2.Sp) : TS :=
  (tSeq (tDrop (tMethS "take" [(ga K "Reader", sp_Reader__take)] (WE W) (tVar 0) (tCons (tC (.str "\"")) tNil)))
    (tSeq (tAsg (tC (.str "")) (gName 1))
    (tSeq (tWhile (tNot (tB (tMethS "ends" [(ga K "Reader", sp_Reader__ends)] (fun _ => E0) (tVar 0) (tCons (tVar 1) tNil)))) (tSeq (tAsg (tMethS "ahead" [(ga K "Reader", sp_Reader__ahead)] (fun _ => E0) (tVar 0) tNil) (gName 2))
    (tSeq (tIfS (tOr (tTest (tOp (rEqY K) (tVar 2) (tC (.str "")))) (tOr (tTest (tOp (rEqY K) (tCB (rLenX K) (tCons (tVar 1) tNil)) (tC (.int 40)))) (tNot (tB (tCall sp_is_sign [] E0 (tCons (tVar 2) tNil)))))) (tRaise W (ga K "BadText") "place" (tCons (tFld K (tVar 0) "stands_at") tNil)) tNext)
    (tSeq (sFld K (tVar 0) (tOp (rAdd K) (tOp (rAdd K) (tFld K (tVar 0) "stands_at") (tC (.int 1))) (tCB (rInt1) (tCons (tOp (rEqY K) (tVar 2) (tC (.str "\""))) tNil))) "stands_at")
    (tAsg (tOp (rAdd K) (tVar 1) (tVar 2)) (gName 1))))))
    (tSeq (tDrop (tMethS "take" [(ga K "Reader", sp_Reader__take)] (WE W) (tVar 0) (tCons (tC (.str "\"")) tNil)))
    (tRet (tVar 1))))))

def t_is_sign (K : PySem.W.Frag)  : TS :=
  (tRet (tAndV (tChain (rLeS) (rLeS) (tC (.str " ")) (tVar 0) (tC (.str "~"))) (tOp (rNeY K) (tCB rOrd (tCons (tVar 0) tNil)) (tC (.int 37)))))

def t_Reader__ends (K : PySem.W.Frag) (sp_Reader__ahead : L2.Sp) : TS :=
  (tSeq (tAsg (tSl (rSlU K) (tFld K (tVar 0) "all_signs") (tPart (tOp (rAdd K) (tFld K (tVar 0) "stands_at") (tC (.int 1)))) (tPart (tOp (rAdd K) (tFld K (tVar 0) "stands_at") (tC (.int 2))))) (gName 2))
    (tRet (tAndV (tOp (rEqY K) (tMethS "ahead" [(ga K "Reader", sp_Reader__ahead)] (fun _ => E0) (tVar 0) tNil) (tC (.str "\""))) (tOrV (tOp (rNeY K) (tVar 2) (tC (.str "\""))) (tOp (rEqY K) (tCB (rLenX K) (tCons (tVar 1) tNil)) (tC (.int 40)))))))

def t_Reader____init__ (K : PySem.W.Frag)  : TS :=
  (tSeq (sFld K (tVar 0) (tVar 1) "all_signs")
    (tSeq (sFld K (tVar 0) (tC (.int 0)) "stands_at")
    (sFld K (tVar 0) (tC .non) "first_twice")))

def t__law_right (K : PySem.W.Frag) (sp__law_asked : L2.Sp) (sp__law_loose : L2.Sp) : TS :=
  (tSeq (tFor (iRng1 (tCons (tC (.int 2)) tNil)) (gName 2) (tSeq (tAsg (tCall sp__law_asked [] E0 (tCons (tVar 0) tNil)) (gName 3))
    (tSeq (tIfS (tAnd (tTest (tOp (rNeY K) (tVar 1) (tLst tNil))) (tTest (tOp (rNeY K) (tVar 3) (tTup (tCons (tC (.str "twice")) (tCons (tOp (rIxU K) (tVar 1) (tC (.int 0))) tNil)))))) (tRet (tC (.bl false))) tNext)
    (tIfS (tAnd (tTest (tOp (rEqY K) (tVar 1) (tLst tNil))) (tOr (tTest (tOp (rNeY K) (tOp (rIxU K) (tVar 3) (tC (.int 0))) (tC (.str "read")))) (tTest (tOp (rNeY K) (tCall sp__law_loose [] E0 (tCons (tOp (rIxU K) (tVar 3) (tC (.int 1))) tNil)) (tVar 0))))) (tRet (tC (.bl false))) tNext))))
    (tRet (tC (.bl true))))

def t__law_loose (K : PySem.W.Frag) (sp__law_loose : L2.Sp) : TS :=
  (tSeq (tIfS (tTest (tOp (Hk.rIsN) (tVar 0) (tC .non))) (tRet (tC (.str "nothing"))) tNext)
    (tSeq (tIfS (tB (tCB (rIsi K) (tCons (tVar 0) (tCons (tC (.ty "bool")) tNil)))) (tRet (tOp (rIxU K) (tLst (tCons (tC (.str "no")) (tCons (tC (.str "yes")) tNil))) (tCB (rInt1) (tCons (tVar 0) tNil)))) tNext)
    (tSeq (tIfS (tB (tCB (rIsi K) (tCons (tVar 0) (tCons (tC (.ty "int")) tNil)))) (tRet (tCB (rStrV) (tCons (tVar 0) tNil))) tNext)
    (tSeq (tIfS (tB (tCB (rIsi K) (tCons (tVar 0) (tCons (tC (.ty "str")) tNil)))) (tRet (tOp (rAdd K) (tOp (rAdd K) (tC (.str "\"")) (tM1 (rJoin K) (tC (.str "\"\"")) (tM1 rSplit (tVar 0) (tC (.str "\""))))) (tC (.str "\"")))) tNext)
    (tSeq (tIfS (tB (tCB (rIsi K) (tCons (tVar 0) (tCons (tC (.ty "list")) tNil)))) (tRet (tOp (rAdd K) (tOp (rAdd K) (tC (.str "[")) (tM1 (rJoin K) (tC (.str ", ")) (tLc (iList K (tVar 0)) (gName 1) tYes (tCall sp__law_loose [] E0 (tCons (tVar 1) tNil)) [1]))) (tC (.str "]")))) tNext)
    (tSeq (tIfS (tB (tCB (rIsi K) (tCons (tVar 0) (tCons (tC (.ty "dict")) tNil)))) (tRet (tOp (rAdd K) (tOp (rAdd K) (tC (.str "{")) (tM1 (rJoin K) (tC (.str ", ")) (tLockUE (tLc (DW.ti .items (tVar 0)) (gTup K 2 (gCons (gName 2) (gCons (gName 1) gNil))) tYes (tOp (rAdd K) (tOp (rAdd K) (tVar 2) (tC (.str ": "))) (tCall sp__law_loose [] E0 (tCons (tVar 1) tNil))) [2, 1])))) (tC (.str "}")))) tNext)
    (tRet (tC (.str "?")))))))))

def t__law_twice (K : PySem.W.Frag) (sp__law_twice : L2.Sp) : TS :=
  (tSeq (tIfS (tB (tCB (rIsi K) (tCons (tVar 0) (tCons (tC (.ty "str")) tNil)))) (tRet (tLst tNil)) tNext)
    (tSeq (tAsg (tLst tNil) (gName 1))
    (tSeq (tAsg (tLst tNil) (gName 2))
    (tSeq (tFor (iList K (tOp (rIxU K) (tVar 0) (tC (.int 1)))) (gName 3) (tIfS (tTest (tOp (rEqY K) (tOp (rIxU K) (tVar 0) (tC (.int 0))) (tC (.str "row")))) (tAsg (tOp (rAdd K) (tVar 1) (tCall sp__law_twice [] E0 (tCons (tVar 3) tNil))) (gName 1)) (tSeq (tAsg (tOp (rAdd K) (tOp (rAdd K) (tVar 1) (tOp (rMulX K) (tLst (tCons (tOp (rIxU K) (tVar 3) (tC (.int 0))) tNil)) (tCB (rInt1) (tCons (tOp (rInU K) (tOp (rIxU K) (tVar 3) (tC (.int 0))) (tVar 2)) tNil)))) (tCall sp__law_twice [] E0 (tCons (tOp (rIxU K) (tVar 3) (tC (.int 1))) tNil))) (gName 1))
    (tDrop (tBM K "list" rAppend (tVar 2) (tCons (tOp (rIxU K) (tVar 3) (tC (.int 0))) tNil))))))
    (tRet (tVar 1))))))

def t__law_written (K : PySem.W.Frag) (sp__law_written : L2.Sp) : TS :=
  (tSeq (tIfS (tB (tCB (rIsi K) (tCons (tVar 0) (tCons (tC (.ty "str")) tNil)))) (tRet (tVar 0)) tNext)
    (tSeq (tIfS (tTest (tOp (rEqY K) (tOp (rIxU K) (tVar 0) (tC (.int 0))) (tC (.str "row")))) (tRet (tOp (rAdd K) (tOp (rAdd K) (tC (.str "[")) (tM1 (rJoin K) (tC (.str ", ")) (tLc (iList K (tOp (rIxU K) (tVar 0) (tC (.int 1)))) (gName 1) tYes (tCall sp__law_written [] E0 (tCons (tVar 1) tNil)) [1]))) (tC (.str "]")))) tNext)
    (tRet (tOp (rAdd K) (tOp (rAdd K) (tC (.str "{")) (tM1 (rJoin K) (tC (.str ", ")) (tLc (iList K (tOp (rIxU K) (tVar 0) (tC (.int 1)))) (gTup K 2 (gCons (gName 2) (gCons (gName 1) gNil))) tYes (tOp (rAdd K) (tOp (rAdd K) (tVar 2) (tC (.str ": "))) (tCall sp__law_written [] E0 (tCons (tVar 1) tNil))) [2, 1]))) (tC (.str "}"))))))

def t__law_tree (K : PySem.W.Frag) (sp__law_take : L2.Sp) (sp__law_tree : L2.Sp) (sp__law_names : L2.Sp) : TS :=
  (tSeq (tAsg (tCall sp__law_take [] E0 (tCons (tVar 0) (tCons (tC (.int 4)) tNil))) (gName 2))
    (tSeq (tIfS (tOr (tTest (tOp (rEqY K) (tVar 1) (tC (.int 1)))) (tTest (tOp (rEqY K) (tVar 2) (tC (.int 0))))) (tRet (tOp (rIxU K) (tLst (tCons (tC (.str "no")) (tCons (tC (.str "-7")) (tCons (tC (.str "\"a: 1, a: 2\"")) (tCons (tC (.str "[]")) (tCons (tC (.str "{}")) (tCons (tC (.str "nothing")) tNil))))))) (tCall sp__law_take [] E0 (tCons (tVar 0) (tCons (tC (.int 6)) tNil))))) tNext)
    (tSeq (tAsg (tOp (rAdd K) (tC (.int 1)) (tCall sp__law_take [] E0 (tCons (tVar 0) (tCons (tC (.int 3)) tNil)))) (gName 3))
    (tSeq (tIfS (tTest (tOp (rEqY K) (tVar 2) (tC (.int 1)))) (tRet (tLst (tCons (tC (.str "row")) (tCons (tLc (iRng1 (tCons (tVar 3) tNil)) (gName 4) tYes (tCall sp__law_tree [] E0 (tCons (tVar 0) (tCons (tOp (Hk.rSub) (tVar 1) (tC (.int 1))) tNil))) [4]) tNil)))) tNext)
    (tSeq (tAsg (tOp (rIxU K) (tLst (tCons (tVar 3) (tCons (tC (.int 8)) tNil))) (tCB (rInt1) (tCons (tOp (rEqY K) (tCall sp__law_take [] E0 (tCons (tVar 0) (tCons (tC (.int 8)) tNil))) (tC (.int 0))) tNil))) (gName 3))
    (tSeq (tAsg (tCall sp__law_names [] E0 (tCons (tVar 0) (tCons (tVar 3) tNil))) (gName 5))
    (tSeq (tFor (iRng1 (tCons (tCall sp__law_take [] E0 (tCons (tVar 0) (tCons (tC (.int 3)) tNil))) tNil)) (gName 6) (tAsg (tOp (rIxU K) (tVar 5) (tCall sp__law_take [] E0 (tCons (tVar 0) (tCons (tVar 3) tNil)))) (gSub (tVar 5) (tCall sp__law_take [] E0 (tCons (tVar 0) (tCons (tVar 3) tNil))) rSetL)))
    (tRet (tLst (tCons (tC (.str "fields")) (tCons (tLc (iList K (tVar 5)) (gName 7) tYes (tTup (tCons (tVar 7) (tCons (tCall sp__law_tree [] E0 (tCons (tVar 0) (tCons (tOp (Hk.rSub) (tVar 1) (tC (.int 1))) tNil))) tNil))) [7]) tNil)))))))))))

def t__law_names (K : PySem.W.Frag) (sp__law_take : L2.Sp) : TS :=
  (tSeq (tAsg (tC (.str "abcdefghijklmnopqrstuvwxyz")) (gName 2))
    (tSeq (tAsg (tCall sp__law_take [] E0 (tCons (tVar 0) (tCons (tC (.int 3)) tNil))) (gName 3))
    (tSeq (tAsg (tCall sp__law_take [] E0 (tCons (tVar 0) (tCons (tC (.int 26)) tNil))) (gName 4))
    (tSeq (tAsg (tM1 (rJoin K) (tC (.str "")) (tLc (iRng1 (tCons (tC (.int 7)) tNil)) (gName 6) tYes (tOp (rIxU K) (tVar 2) (tCall sp__law_take [] E0 (tCons (tVar 0) (tCons (tC (.int 26)) tNil)))) [6])) (gName 5))
    (tSeq (tIfS (tTest (tOp (rEqY K) (tVar 3) (tC (.int 0)))) (tSeq (tAsg (tLst (tCons (tC (.str "no")) (tCons (tC (.str "yes")) (tCons (tC (.str "nothing")) (tCons (tC (.str "a")) (tCons (tC (.str "n")) (tCons (tC (.str "never")) (tCons (tC (.str "y")) (tCons (tC (.str "nothings")) tNil))))))))) (gName 7))
    (tRet (tLc (iRng1 (tCons (tVar 1) tNil)) (gName 6) tYes (tOp (rIxU K) (tVar 7) (tOp (rMod) (tOp (rAdd K) (tVar 4) (tOp (rMulX K) (tC (.int 3)) (tVar 6))) (tC (.int 8)))) [6]))) tNext)
    (tSeq (tIfS (tTest (tOp (rEqY K) (tVar 3) (tC (.int 1)))) (tRet (tLc (iRng1 (tCons (tVar 1) tNil)) (gName 6) tYes (tSl (rSlU K) (tOp (rAdd K) (tOp (rIxU K) (tVar 2) (tVar 4)) (tVar 5)) tNoPart (tPart (tOp (rAdd K) (tC (.int 1)) (tOp (rMod) (tOp (rAdd K) (tVar 4) (tOp (rMulX K) (tC (.int 3)) (tVar 6))) (tC (.int 8)))))) [6])) tNext)
    (tRet (tLc (iRng1 (tCons (tVar 1) tNil)) (gName 6) tYes (tOp (rAdd K) (tOp (rIxU K) (tVar 2) (tOp (rMod) (tOp (rAdd K) (tVar 4) (tOp (rMulX K) (tC (.int 7)) (tVar 6))) (tC (.int 26)))) (tSl (rSlU K) (tVar 5) tNoPart (tPart (tCall sp__law_take [] E0 (tCons (tVar 0) (tCons (tC (.int 8)) tNil)))))) [6]))))))))

def t__law_take (K : PySem.W.Frag)  : TS :=
  (tSeq (tAsg (tOp (rAdd K) (tOp (rIxU K) (tVar 0) (tC (.int 2))) (tC (.int 1))) (gSub (tVar 0) (tC (.int 2)) rSetL))
    (tSeq (tIfS (tTest (tOp (rGtI) (tOp (rIxU K) (tVar 0) (tC (.int 0))) (tC (.int 0)))) (tSeq (tAsg (tOp (rMod) (tOp (rIxU K) (tVar 0) (tC (.int 0))) (tVar 1)) (gName 2))
    (tSeq (tAsg (tOp (rDiv) (tOp (rIxU K) (tVar 0) (tC (.int 0))) (tVar 1)) (gSub (tVar 0) (tC (.int 0)) rSetL))
    (tRet (tVar 2)))) tNext)
    (tSeq (tAsg (tOp (rMod) (tOp (rPow) (tOp (rAdd K) (tOp (rAdd K) (tOp (rIxU K) (tVar 0) (tC (.int 1))) (tOp (rMulX K) (tC (.int 7919)) (tOp (rIxU K) (tVar 0) (tC (.int 2))))) (tC (.int 5))) (tC (.int 5))) (tC (.int 2147483647))) (gName 3))
    (tSeq (tAsg (tOp (rMod) (tOp (rPow) (tOp (rAdd K) (tOp (rAdd K) (tOp (rMulX K) (tOp (rIxU K) (tVar 0) (tC (.int 1))) (tOp (rIxU K) (tVar 0) (tC (.int 2)))) (tOp (rMulX K) (tC (.int 104729)) (tOp (rIxU K) (tVar 0) (tC (.int 2))))) (tC (.int 11))) (tC (.int 3))) (tC (.int 2147483587))) (gName 4))
    (tRet (tOp (rMod) (tOp (rDiv) (tOp (rAdd K) (tOp (rMulX K) (tVar 3) (tC (.int 2147483587))) (tVar 4)) (tC (.int 8))) (tVar 1)))))))

def t__law_cell (K : PySem.W.Frag)  : TS :=
  (tSeq (tIfS (tTest (tOp (rLtU) (tVar 1) (tCB (rLenX K) (tCons (tVar 0) tNil)))) (tRet (tOp (rIxU K) (tVar 0) (tVar 1))) tNext)
    (tRet (tOp (rAdd K) (tOp (rMulX K) (tC (.int 48271)) (tVar 1)) (tC (.int 61)))))

def t__law_box (K : PySem.W.Frag)  : TS :=
  (tRet (tLst (tCons (tCB (rMax2) (tCons (tC (.int 0)) (tCons (tOp (Hk.rSub) (tVar 0) (tOp (rPow) (tC (.int 10)) (tC (.int 18)))) tNil))) (tCons (tOp (rMod) (tVar 0) (tC (.int 2147483629))) (tCons (tC (.int 0)) tNil)))))
def p_law  (ps__law_box : PSp) (ps__law_cell : PSp) (ps__law_take : PSp) (ps__law_tree : PSp) (ps__law_written : PSp) (ps__law_twice : PSp) (ps__law_right : PSp) (ps__law_asked : PSp) : PS :=
  (pSeq (pFor (piRng1 (pOp Pu.oMax2 (pCons (pC (.int 1)) (pCons (pOp Pu.oMin2 (pCons (pC (.int 6)) (pCons (pOp Pu.oLen (pConsV 0 pNil)) pNil))) pNil)))) (pgName 1) (pSeq (pOwn (pCall ps__law_box (pCons (pCall ps__law_cell (pCons (pVar 0) (pCons (pVar 1) pNil))) pNil)) 2)
    (pSeq (pAsg (pCall ps__law_take (pConsV 2 (pCons (pC (.int 8)) pNil))) (pgName 3))
    (pSeq (pAsg (pOp Pu.oIx (pCons (pLst (pCons (pC (.str "]")) (pCons (pC (.str "}")) (pCons (pC (.str "a")) (pCons (pC (.str ",")) (pCons (pC (.str " ")) pNil)))))) (pCons (pCall ps__law_take (pConsV 2 (pCons (pC (.int 5)) pNil))) pNil))) (pgName 4))
    (pSeq (pAsg (pLst (pCons (pC (.str "row")) (pCons (pLst (pCons (pCall ps__law_tree (pConsV 2 (pCons (pC (.int 3)) pNil))) (pCons (pCall ps__law_tree (pConsV 2 (pCons (pC (.int 3)) pNil))) pNil))) pNil))) (pgName 5))
    (pSeq (pAsg (pCall ps__law_written (pCons (pVar 5) pNil)) (pgName 6))
    (pSeq (pAsg (pCall ps__law_twice (pCons (pVar 5) pNil)) (pgName 7))
    (pSeq (pAsg (pOp Pu.oAdd (pCons (pC (.int 1)) (pCons (pCall ps__law_take (pConsV 2 (pCons (pOp Pu.oSub (pCons (pOp Pu.oLen (pConsV 6 pNil)) (pCons (pC (.int 1)) pNil))) pNil))) pNil))) (pgName 8))
    (pSeq (pIf (pNot (pTest (pCall ps__law_right (pCons (pVar 6) (pCons (pVar 7) pNil))))) (pRet (pC (.bl false))) pNext)
    (pSeq (pIf (pOr (pTest (pOp Pu.oNe (pCons (pCall ps__law_asked (pCons (pOp Pu.oAdd (pConsV 6 (pConsV 4 pNil))) pNil)) (pCons (pTup (pCons (pC (.str "bad")) (pCons (pOp Pu.oLen (pConsV 6 pNil)) pNil))) pNil)))) (pTest (pOp Pu.oNe (pCons (pCall ps__law_asked (pCons (pSlV 6 pNoPart (pPart (pVar 8))) pNil)) (pCons (pTup (pCons (pC (.str "bad")) (pCons (pVar 8) pNil))) pNil))))) (pRet (pC (.bl false))) pNext)
    (pSeq (pAsg (pOp Pu.oIx (pCons (pLst (pCons (pC .non) (pCons (pC (.int 5)) (pCons (pC (.bl true)) (pCons (pLst pNil) (pCons pDNew (pCons (pTup (pCons (pC (.str "no")) pNil)) (pCons (pLst (pCons (pVar 6) pNil)) (pCons (pDisp (((pC (.str "a")), (pVar 6)) :: [])) pNil))))))))) (pConsV 3 pNil))) (pgName 9))
    (pIf (pOr (pTest (pOp Pu.oNe (pCons (pOp Pu.oRepr (pCons (pCall ps__law_asked (pCons (pVar 9) pNil)) pNil)) (pCons (pOp Pu.oRepr (pCons (pTup (pCons (pC (.str "none")) (pCons (pVar 9) pNil))) pNil)) pNil)))) (pNot (pTest (pCall ps__law_right (pCons (pVar 6) (pCons (pVar 7) pNil)))))) (pRet (pC (.bl false))) pNext))))))))))))
    (pRet (pAndV (pOp Pu.oEq (pCons (pCall ps__law_asked (pCons (pC (.str "{a: {b: 1, b: 2}, a: 1, a: 3}")) pNil)) (pCons (pTup (pCons (pC (.str "twice")) (pCons (pC (.str "b")) pNil))) pNil))) (pOp Pu.oEq (pCons (pCall ps__law_asked (pCons (pC (.str "{a: 1, a: 2")) pNil)) (pCons (pTup (pCons (pC (.str "bad")) (pCons (pC (.int 11)) pNil))) pNil))))))

def p__law_asked (K : PySem.W.Frag) (ps_read_worth : PSpX) : PS :=
  (pSeq (pAsg (pTup (pCons (pC (.str "another")) (pCons (pC .non) pNil))) (pgName 1))
    (pSeq (pTryG K ((.ref (ga K "NoText"), (some 2), fun a x => (pAsg (pTup (pCons (pC (.str "none")) (pCons (pXf a x (ga K "NoText") "found" 2) pNil))) (pgName 1))) :: ((.ref (ga K "BadText"), (some 2), fun a x => (pAsg (pTup (pCons (pC (.str "bad")) (pCons (pXf a x (ga K "BadText") "place" 2) pNil))) (pgName 1))) :: ((.ref (ga K "Doubled"), (some 2), fun a x => (pAsg (pTup (pCons (pC (.str "twice")) (pCons (pXf a x (ga K "Doubled") "name" 2) pNil))) (pgName 1))) :: ((.ref (ga K "HeapError"), none, fun a x => (pAsg (pTup (pCons (pC (.str "another")) (pCons (pC .non) pNil))) (pgName 1))) :: [])))) (fun X => (pAsg (pTup (pCons (pC (.str "read")) (pCons (pCallX ps_read_worth X (pCons (pVar 0) pNil)) pNil))) (pgName 1))) XF)
    (pRet (pVar 1))))

def p_read_worth (K : PySem.W.Frag) (X : PX) (ps_Reader____init__ : PSp) (ps_Reader__read_any : PSpX) : PS :=
  (pSeq (pIf (pNot (pTest (pOp Pu.oIsi (pConsV 0 (pCons (pC (.ty "str")) pNil))))) (pRaise X (ga K "NoText") "found" (pVar 0)) pNext)
    (pSeq (pOwn (pMake (ga K "Reader") ps_Reader____init__ (pCons (pVar 0) pNil)) 1)
    (pSeq (pAsg (pMethOX 1 "read_any" [(ga K "Reader", ps_Reader__read_any)] X (pCons (pC (.int 1)) pNil)) (pgName 2))
    (pSeq (pIf (pTest (pOp Pu.oLt (pCons (pFldO K 1 "stands_at") (pCons (pOp Pu.oLen (pConsV 0 pNil)) pNil)))) (pRaise X (ga K "BadText") "place" (pFldO K 1 "stands_at")) pNext)
    (pSeq (pIf (pTest (pOp Pu.oNotN (pCons (pFldO K 1 "first_twice") (pCons (pC .non) pNil)))) (pRaise X (ga K "Doubled") "name" (pFldO K 1 "first_twice")) pNext)
    (pRet (pVar 2)))))))

def p_Reader__read_any (K : PySem.W.Frag) (X : PX) (ps_Reader__ahead : PSp) (ps_Reader__read_quoted : PSpX) (ps_Reader__read_row : PSpX) (ps_Reader__read_fields : PSpX) (ps_Reader__take_all : PSpX) (ps_Reader__read_number : PSpX) : PS :=
  (pSeq (pAsg (pMethO 0 "ahead" [(ga K "Reader", ps_Reader__ahead)] pNil) (pgName 2))
    (pSeq (pIf (pTest (pOp Pu.oEq (pConsV 2 (pCons (pC (.str "\"")) pNil)))) (pRet (pMethOX 0 "read_quoted" [(ga K "Reader", ps_Reader__read_quoted)] X pNil)) pNext)
    (pSeq (pIf (pTest (pOp Pu.oEq (pConsV 2 (pCons (pC (.str "[")) pNil)))) (pRet (pMethOX 0 "read_row" [(ga K "Reader", ps_Reader__read_row)] X (pCons (pVar 1) pNil))) pNext)
    (pSeq (pIf (pTest (pOp Pu.oEq (pConsV 2 (pCons (pC (.str "{")) pNil)))) (pRet (pMethOX 0 "read_fields" [(ga K "Reader", ps_Reader__read_fields)] X (pCons (pVar 1) pNil))) pNext)
    (pSeq (pIf (pTest (pOp Pu.oEq (pConsV 2 (pCons (pC (.str "y")) pNil)))) (pSeq (pDrop (pMethOX 0 "take_all" [(ga K "Reader", ps_Reader__take_all)] X (pCons (pC (.str "yes")) pNil)))
    (pRet (pC (.bl true)))) pNext)
    (pSeq (pIf (pTest (pOp Pu.oEq (pConsV 2 (pCons (pC (.str "n")) pNil)))) (pSeq (pDrop (pMethOX 0 "take_all" [(ga K "Reader", ps_Reader__take_all)] X (pCons (pC (.str "no")) pNil)))
    (pSeq (pIf (pTest (pOp Pu.oNe (pCons (pMethO 0 "ahead" [(ga K "Reader", ps_Reader__ahead)] pNil) (pCons (pC (.str "t")) pNil)))) (pRet (pC (.bl false))) pNext)
    (pSeq (pDrop (pMethOX 0 "take_all" [(ga K "Reader", ps_Reader__take_all)] X (pCons (pC (.str "thing")) pNil)))
    (pRet (pC .non))))) pNext)
    (pRet (pMethOX 0 "read_number" [(ga K "Reader", ps_Reader__read_number)] X pNil))))))))

def p_Reader__read_number (K : PySem.W.Frag) (X : PX) (ps_Reader__ahead : PSp) (ps_Reader__take : PSpX) : PS :=
  (pSeq (pAsg (pOp Pu.oEq (pCons (pMethO 0 "ahead" [(ga K "Reader", ps_Reader__ahead)] pNil) (pCons (pC (.str "-")) pNil))) (pgName 1))
    (pSeq (pIf (pTest (pVar 1)) (pDrop (pMethOX 0 "take" [(ga K "Reader", ps_Reader__take)] X (pCons (pC (.str "-")) pNil))) pNext)
    (pSeq (pIf (pAnd (pTest (pOp Pu.oEq (pCons (pMethO 0 "ahead" [(ga K "Reader", ps_Reader__ahead)] pNil) (pCons (pC (.str "0")) pNil)))) (pNot (pTest (pVar 1)))) (pSeq (pDrop (pMethOX 0 "take" [(ga K "Reader", ps_Reader__take)] X (pCons (pC (.str "0")) pNil)))
    (pRet (pC (.int 0)))) pNext)
    (pSeq (pAsg (pMethOX 0 "take" [(ga K "Reader", ps_Reader__take)] X (pCons (pSl (pC (.str "0123456789")) (pPart (pC (.int 1))) pNoPart) pNil)) (pgName 2))
    (pSeq (pWhile (pAnd (pTest (pOp Pu.oNe (pCons (pMethO 0 "ahead" [(ga K "Reader", ps_Reader__ahead)] pNil) (pCons (pC (.str "")) pNil)))) (pAnd (pTest (pOp Pu.oIn (pCons (pMethO 0 "ahead" [(ga K "Reader", ps_Reader__ahead)] pNil) (pCons (pC (.str "0123456789")) pNil)))) (pTest (pOp Pu.oLt (pCons (pOp Pu.oLen (pConsV 2 pNil)) (pCons (pC (.int 18)) pNil)))))) (pAsg (pOp Pu.oAdd (pConsV 2 (pCons (pMethOX 0 "take" [(ga K "Reader", ps_Reader__take)] X (pCons (pC (.str "0123456789")) pNil)) pNil))) (pgName 2)))
    (pRet (pIfE (pTest (pVar 1)) (pOp Pu.oSub (pCons (pC (.int 0)) (pCons (pOp Pu.oIntT (pConsV 2 pNil)) pNil))) (pOp Pu.oIntT (pConsV 2 pNil)))))))))

def p_Reader__take (K : PySem.W.Frag) (X : PX) (ps_Reader__ahead : PSp) : PS :=
  (pSeq (pAsg (pMethO 0 "ahead" [(ga K "Reader", ps_Reader__ahead)] pNil) (pgName 2))
    (pSeq (pIf (pOr (pTest (pOp Pu.oEq (pConsV 2 (pCons (pC (.str "")) pNil)))) (pTest (pOp Pu.oNotIn (pConsV 2 (pConsV 1 pNil))))) (pRaise X (ga K "BadText") "place" (pFldO K 0 "stands_at")) pNext)
    (pSeq (pSetF K 0 (pOp Pu.oAdd (pCons (pFldO K 0 "stands_at") (pCons (pC (.int 1)) pNil))) "stands_at")
    (pRet (pVar 2)))))

def p_Reader__ahead (K : PySem.W.Frag)  : PS :=
  (pRet (pSl (pFldO K 0 "all_signs") (pPart (pFldO K 0 "stands_at")) (pPart (pOp Pu.oAdd (pCons (pFldO K 0 "stands_at") (pCons (pC (.int 1)) pNil))))))

def p_Reader__take_all (K : PySem.W.Frag) (X : PX) (ps_Reader__take : PSpX) : PS :=
  (pFor (piStr (pVar 1)) (pgName 2) (pDrop (pMethOX 0 "take" [(ga K "Reader", ps_Reader__take)] X (pCons (pVar 2) pNil))))

def p_Reader__read_fields (K : PySem.W.Frag) (X : PX) (ps_Reader__take : PSpX) (ps_Reader__ahead : PSp) (ps_Reader__read_field : PSpX) (ps_Reader__take_all : PSpX) : PS :=
  (pSeq (pDrop (pMethOX 0 "take" [(ga K "Reader", ps_Reader__take)] X (pCons (pC (.str "{")) pNil)))
    (pSeq (pOwn pDNew 2)
    (pSeq (pIf (pAnd (pTest (pOp Pu.oLt (pConsV 1 (pCons (pC (.int 4)) pNil)))) (pTest (pOp Pu.oNe (pCons (pMethO 0 "ahead" [(ga K "Reader", ps_Reader__ahead)] pNil) (pCons (pC (.str "}")) pNil))))) (pSeq (pDrop (pMethOX 0 "read_field" [(ga K "Reader", ps_Reader__read_field)] X (pConsV 2 (pCons (pVar 1) pNil))))
    (pFor (piRng1 (pOp Pu.oSub (pCons (pC (.int 8)) (pCons (pC (.int 1)) pNil)))) (pgName 3) (pIf (pTest (pOp Pu.oEq (pCons (pMethO 0 "ahead" [(ga K "Reader", ps_Reader__ahead)] pNil) (pCons (pC (.str ",")) pNil)))) (pSeq (pDrop (pMethOX 0 "take_all" [(ga K "Reader", ps_Reader__take_all)] X (pCons (pC (.str ", ")) pNil)))
    (pDrop (pMethOX 0 "read_field" [(ga K "Reader", ps_Reader__read_field)] X (pConsV 2 (pCons (pVar 1) pNil))))) pNext))) pNext)
    (pSeq (pDrop (pMethOX 0 "take" [(ga K "Reader", ps_Reader__take)] X (pCons (pC (.str "}")) pNil)))
    (pRet (pVar 2))))))

def p_Reader__read_field (K : PySem.W.Frag) (X : PX) (ps_Reader__take : PSpX) (ps_Reader__ahead : PSp) (ps_Reader__take_all : PSpX) (ps_Reader__read_any : PSpX) : PS :=
  (pSeq (pAsg (pMethOX 0 "take" [(ga K "Reader", ps_Reader__take)] X (pCons (pC (.str "abcdefghijklmnopqrstuvwxyz")) pNil)) (pgName 3))
    (pSeq (pWhile (pAnd (pTest (pOp Pu.oLt (pCons (pOp Pu.oLen (pConsV 3 pNil)) (pCons (pC (.int 8)) pNil)))) (pTest (pOp Pu.oNe (pCons (pMethO 0 "ahead" [(ga K "Reader", ps_Reader__ahead)] pNil) (pCons (pC (.str ":")) pNil))))) (pAsg (pOp Pu.oAdd (pConsV 3 (pCons (pMethOX 0 "take" [(ga K "Reader", ps_Reader__take)] X (pCons (pC (.str "abcdefghijklmnopqrstuvwxyz")) pNil)) pNil))) (pgName 3)))
    (pSeq (pDrop (pMethOX 0 "take_all" [(ga K "Reader", ps_Reader__take_all)] X (pCons (pC (.str ": ")) pNil)))
    (pSeq (pIf (pAnd (pTest (pOp Pu.oInA (pConsV 3 (pConsV 1 pNil)))) (pTest (pOp Pu.oIsN (pCons (pFldO K 0 "first_twice") (pCons (pC .non) pNil))))) (pSetF K 0 (pVar 3) "first_twice") pNext)
    (pAsg (pMethOX 0 "read_any" [(ga K "Reader", ps_Reader__read_any)] X (pCons (pOp Pu.oAdd (pConsV 2 (pCons (pC (.int 1)) pNil))) pNil)) (pgSetD 1 (pVar 3)))))))

def p_Reader__read_row (K : PySem.W.Frag) (X : PX) (ps_Reader__take : PSpX) (ps_Reader__ahead : PSp) (ps_Reader__read_any : PSpX) (ps_Reader__take_all : PSpX) : PS :=
  (pSeq (pDrop (pMethOX 0 "take" [(ga K "Reader", ps_Reader__take)] X (pCons (pC (.str "[")) pNil)))
    (pSeq (pOwn (pLst pNil) 2)
    (pSeq (pIf (pAnd (pTest (pOp Pu.oLt (pConsV 1 (pCons (pC (.int 4)) pNil)))) (pTest (pOp Pu.oNe (pCons (pMethO 0 "ahead" [(ga K "Reader", ps_Reader__ahead)] pNil) (pCons (pC (.str "]")) pNil))))) (pSeq (pAppend 2 (pMethOX 0 "read_any" [(ga K "Reader", ps_Reader__read_any)] X (pCons (pOp Pu.oAdd (pConsV 1 (pCons (pC (.int 1)) pNil))) pNil)))
    (pWhile (pAnd (pTest (pOp Pu.oLt (pCons (pOp Pu.oLen (pConsV 2 pNil)) (pCons (pC (.int 6)) pNil)))) (pTest (pOp Pu.oEq (pCons (pMethO 0 "ahead" [(ga K "Reader", ps_Reader__ahead)] pNil) (pCons (pC (.str ",")) pNil))))) (pSeq (pDrop (pMethOX 0 "take_all" [(ga K "Reader", ps_Reader__take_all)] X (pCons (pC (.str ", ")) pNil)))
    (pAppend 2 (pMethOX 0 "read_any" [(ga K "Reader", ps_Reader__read_any)] X (pCons (pOp Pu.oAdd (pConsV 1 (pCons (pC (.int 1)) pNil))) pNil)))))) pNext)
    (pSeq (pDrop (pMethOX 0 "take" [(ga K "Reader", ps_Reader__take)] X (pCons (pC (.str "]")) pNil)))
    (pRet (pVar 2))))))

def p_Reader__read_quoted (K : PySem.W.Frag) (X : PX) (ps_Reader__take : PSpX) (ps_Reader__ends : PSp) (ps_Reader__ahead : PSp) (ps_is_sign : PSp) : PS :=
  (pSeq (pDrop (pMethOX 0 "take" [(ga K "Reader", ps_Reader__take)] X (pCons (pC (.str "\"")) pNil)))
    (pSeq (pAsg (pC (.str "")) (pgName 1))
    (pSeq (pWhile (pNot (pTest (pMethO 0 "ends" [(ga K "Reader", ps_Reader__ends)] (pCons (pVar 1) pNil)))) (pSeq (pAsg (pMethO 0 "ahead" [(ga K "Reader", ps_Reader__ahead)] pNil) (pgName 2))
    (pSeq (pIf (pOr (pTest (pOp Pu.oEq (pConsV 2 (pCons (pC (.str "")) pNil)))) (pOr (pTest (pOp Pu.oEq (pCons (pOp Pu.oLen (pConsV 1 pNil)) (pCons (pC (.int 40)) pNil)))) (pNot (pTest (pCall ps_is_sign (pCons (pVar 2) pNil)))))) (pRaise X (ga K "BadText") "place" (pFldO K 0 "stands_at")) pNext)
    (pSeq (pSetF K 0 (pOp Pu.oAdd (pCons (pOp Pu.oAdd (pCons (pFldO K 0 "stands_at") (pCons (pC (.int 1)) pNil))) (pCons (pOp Pu.oInt1 (pCons (pOp Pu.oEq (pConsV 2 (pCons (pC (.str "\"")) pNil))) pNil)) pNil))) "stands_at")
    (pAsg (pOp Pu.oAdd (pConsV 1 (pConsV 2 pNil))) (pgName 1))))))
    (pSeq (pDrop (pMethOX 0 "take" [(ga K "Reader", ps_Reader__take)] X (pCons (pC (.str "\"")) pNil)))
    (pRet (pVar 1))))))

def p_is_sign   : PS :=
  (pRet (pAndV (pChain Pu.oLeS Pu.oLeS (pC (.str " ")) (pVar 0) (pC (.str "~"))) (pOp Pu.oNe (pCons (pOp Pu.oOrd (pConsV 0 pNil)) (pCons (pC (.int 37)) pNil)))))

def p_Reader__ends (K : PySem.W.Frag) (ps_Reader__ahead : PSp) : PS :=
  (pSeq (pAsg (pSl (pFldO K 0 "all_signs") (pPart (pOp Pu.oAdd (pCons (pFldO K 0 "stands_at") (pCons (pC (.int 1)) pNil)))) (pPart (pOp Pu.oAdd (pCons (pFldO K 0 "stands_at") (pCons (pC (.int 2)) pNil))))) (pgName 2))
    (pRet (pAndV (pOp Pu.oEq (pCons (pMethO 0 "ahead" [(ga K "Reader", ps_Reader__ahead)] pNil) (pCons (pC (.str "\"")) pNil))) (pOrV (pOp Pu.oNe (pConsV 2 (pCons (pC (.str "\"")) pNil))) (pOp Pu.oEq (pCons (pOp Pu.oLen (pConsV 1 pNil)) (pCons (pC (.int 40)) pNil)))))))

def p_Reader____init__ (K : PySem.W.Frag)  : PS :=
  (pSeq (pSetF K 0 (pVar 1) "all_signs")
    (pSeq (pSetF K 0 (pC (.int 0)) "stands_at")
    (pSetF K 0 (pC .non) "first_twice")))

def p__law_right  (ps__law_asked : PSp) (ps__law_loose : PSp) : PS :=
  (pSeq (pFor (piRng1 (pC (.int 2))) (pgName 2) (pSeq (pAsg (pCall ps__law_asked (pCons (pVar 0) pNil)) (pgName 3))
    (pSeq (pIf (pAnd (pTest (pOp Pu.oNe (pConsV 1 (pCons (pLst pNil) pNil)))) (pTest (pOp Pu.oNe (pConsV 3 (pCons (pTup (pCons (pC (.str "twice")) (pCons (pOp Pu.oIx (pConsV 1 (pCons (pC (.int 0)) pNil))) pNil))) pNil))))) (pRet (pC (.bl false))) pNext)
    (pIf (pAnd (pTest (pOp Pu.oEq (pConsV 1 (pCons (pLst pNil) pNil)))) (pOr (pTest (pOp Pu.oNe (pCons (pOp Pu.oIx (pConsV 3 (pCons (pC (.int 0)) pNil))) (pCons (pC (.str "read")) pNil)))) (pTest (pOp Pu.oNe (pCons (pCall ps__law_loose (pCons (pOp Pu.oIx (pConsV 3 (pCons (pC (.int 1)) pNil))) pNil)) (pConsV 0 pNil)))))) (pRet (pC (.bl false))) pNext))))
    (pRet (pC (.bl true))))

def p__law_loose  (ps__law_loose : PSp) : PS :=
  (pSeq (pIf (pTest (pOp Pu.oIsN (pConsV 0 (pCons (pC .non) pNil)))) (pRet (pC (.str "nothing"))) pNext)
    (pSeq (pIf (pTest (pOp Pu.oIsi (pConsV 0 (pCons (pC (.ty "bool")) pNil)))) (pRet (pOp Pu.oIx (pCons (pLst (pCons (pC (.str "no")) (pCons (pC (.str "yes")) pNil))) (pCons (pOp Pu.oInt1 (pConsV 0 pNil)) pNil)))) pNext)
    (pSeq (pIf (pTest (pOp Pu.oIsi (pConsV 0 (pCons (pC (.ty "int")) pNil)))) (pRet (pOp Pu.oStr (pConsV 0 pNil))) pNext)
    (pSeq (pIf (pTest (pOp Pu.oIsi (pConsV 0 (pCons (pC (.ty "str")) pNil)))) (pRet (pOp Pu.oAdd (pCons (pOp Pu.oAdd (pCons (pC (.str "\"")) (pCons (pM Pu.oJoin (pC (.str "\"\"")) (pCons (pM Pu.oSplit (pVar 0) (pCons (pC (.str "\"")) pNil)) pNil)) pNil))) (pCons (pC (.str "\"")) pNil)))) pNext)
    (pSeq (pIf (pTest (pOp Pu.oIsi (pConsV 0 (pCons (pC (.ty "list")) pNil)))) (pRet (pOp Pu.oAdd (pCons (pOp Pu.oAdd (pCons (pC (.str "[")) (pCons (pM Pu.oJoin (pC (.str ", ")) (pCons (pLc (piList (pVar 0)) (pgName 1) pYes (pCall ps__law_loose (pCons (pVar 1) pNil)) [1]) pNil)) pNil))) (pCons (pC (.str "]")) pNil)))) pNext)
    (pSeq (pIf (pTest (pOp Pu.oIsi (pConsV 0 (pCons (pC (.ty "dict")) pNil)))) (pRet (pOp Pu.oAdd (pCons (pOp Pu.oAdd (pCons (pC (.str "{")) (pCons (pM Pu.oJoin (pC (.str ", ")) (pCons (pLc (piD .items (pVar 0)) (pgTup 2 (pgCons (pgName 2) (pgCons (pgName 1) pgNil))) pYes (pOp Pu.oAdd (pCons (pOp Pu.oAdd (pConsV 2 (pCons (pC (.str ": ")) pNil))) (pCons (pCall ps__law_loose (pCons (pVar 1) pNil)) pNil))) [2, 1]) pNil)) pNil))) (pCons (pC (.str "}")) pNil)))) pNext)
    (pRet (pC (.str "?")))))))))

def p__law_twice  (ps__law_twice : PSp) : PS :=
  (pSeq (pIf (pTest (pOp Pu.oIsi (pConsV 0 (pCons (pC (.ty "str")) pNil)))) (pRet (pLst pNil)) pNext)
    (pSeq (pAsg (pLst pNil) (pgName 1))
    (pSeq (pOwn (pLst pNil) 2)
    (pSeq (pFor (piList (pOp Pu.oIx (pConsV 0 (pCons (pC (.int 1)) pNil)))) (pgName 3) (pIf (pTest (pOp Pu.oEq (pCons (pOp Pu.oIx (pConsV 0 (pCons (pC (.int 0)) pNil))) (pCons (pC (.str "row")) pNil)))) (pAsg (pOp Pu.oAdd (pConsV 1 (pCons (pCall ps__law_twice (pCons (pVar 3) pNil)) pNil))) (pgName 1)) (pSeq (pAsg (pOp Pu.oAdd (pCons (pOp Pu.oAdd (pConsV 1 (pCons (pOp Pu.oMul (pCons (pLst (pCons (pOp Pu.oIx (pConsV 3 (pCons (pC (.int 0)) pNil))) pNil)) (pCons (pOp Pu.oInt1 (pCons (pOp Pu.oIn (pCons (pOp Pu.oIx (pConsV 3 (pCons (pC (.int 0)) pNil))) (pConsV 2 pNil))) pNil)) pNil))) pNil))) (pCons (pCall ps__law_twice (pCons (pOp Pu.oIx (pConsV 3 (pCons (pC (.int 1)) pNil))) pNil)) pNil))) (pgName 1))
    (pAppend 2 (pOp Pu.oIx (pConsV 3 (pCons (pC (.int 0)) pNil)))))))
    (pRet (pVar 1))))))

def p__law_written  (ps__law_written : PSp) : PS :=
  (pSeq (pIf (pTest (pOp Pu.oIsi (pConsV 0 (pCons (pC (.ty "str")) pNil)))) (pRet (pVar 0)) pNext)
    (pSeq (pIf (pTest (pOp Pu.oEq (pCons (pOp Pu.oIx (pConsV 0 (pCons (pC (.int 0)) pNil))) (pCons (pC (.str "row")) pNil)))) (pRet (pOp Pu.oAdd (pCons (pOp Pu.oAdd (pCons (pC (.str "[")) (pCons (pM Pu.oJoin (pC (.str ", ")) (pCons (pLc (piList (pOp Pu.oIx (pConsV 0 (pCons (pC (.int 1)) pNil)))) (pgName 1) pYes (pCall ps__law_written (pCons (pVar 1) pNil)) [1]) pNil)) pNil))) (pCons (pC (.str "]")) pNil)))) pNext)
    (pRet (pOp Pu.oAdd (pCons (pOp Pu.oAdd (pCons (pC (.str "{")) (pCons (pM Pu.oJoin (pC (.str ", ")) (pCons (pLc (piList (pOp Pu.oIx (pConsV 0 (pCons (pC (.int 1)) pNil)))) (pgTup 2 (pgCons (pgName 2) (pgCons (pgName 1) pgNil))) pYes (pOp Pu.oAdd (pCons (pOp Pu.oAdd (pConsV 2 (pCons (pC (.str ": ")) pNil))) (pCons (pCall ps__law_written (pCons (pVar 1) pNil)) pNil))) [2, 1]) pNil)) pNil))) (pCons (pC (.str "}")) pNil))))))

def p__law_tree  (ps__law_take : PSp) (ps__law_tree : PSp) (ps__law_names : PSp) : PS :=
  (pSeq (pAsg (pCall ps__law_take (pConsV 0 (pCons (pC (.int 4)) pNil))) (pgName 2))
    (pSeq (pIf (pOr (pTest (pOp Pu.oEq (pConsV 1 (pCons (pC (.int 1)) pNil)))) (pTest (pOp Pu.oEq (pConsV 2 (pCons (pC (.int 0)) pNil))))) (pRet (pOp Pu.oIx (pCons (pLst (pCons (pC (.str "no")) (pCons (pC (.str "-7")) (pCons (pC (.str "\"a: 1, a: 2\"")) (pCons (pC (.str "[]")) (pCons (pC (.str "{}")) (pCons (pC (.str "nothing")) pNil))))))) (pCons (pCall ps__law_take (pConsV 0 (pCons (pC (.int 6)) pNil))) pNil)))) pNext)
    (pSeq (pAsg (pOp Pu.oAdd (pCons (pC (.int 1)) (pCons (pCall ps__law_take (pConsV 0 (pCons (pC (.int 3)) pNil))) pNil))) (pgName 3))
    (pSeq (pIf (pTest (pOp Pu.oEq (pConsV 2 (pCons (pC (.int 1)) pNil)))) (pRet (pLst (pCons (pC (.str "row")) (pCons (pLc (piRng1 (pVar 3)) (pgName 4) pYes (pCall ps__law_tree (pConsV 0 (pCons (pOp Pu.oSub (pConsV 1 (pCons (pC (.int 1)) pNil))) pNil))) [4]) pNil)))) pNext)
    (pSeq (pAsg (pOp Pu.oIx (pCons (pLst (pCons (pVar 3) (pCons (pC (.int 8)) pNil))) (pCons (pOp Pu.oInt1 (pCons (pOp Pu.oEq (pCons (pCall ps__law_take (pConsV 0 (pCons (pC (.int 8)) pNil))) (pCons (pC (.int 0)) pNil))) pNil)) pNil))) (pgName 3))
    (pSeq (pOwn (pCall ps__law_names (pConsV 0 (pCons (pVar 3) pNil))) 5)
    (pSeq (pFor (piRng1 (pCall ps__law_take (pConsV 0 (pCons (pC (.int 3)) pNil)))) (pgName 6) (pAsg (pOp Pu.oIx (pConsV 5 (pCons (pCall ps__law_take (pConsV 0 (pCons (pVar 3) pNil))) pNil))) (pgSetL 5 (pCall ps__law_take (pConsV 0 (pCons (pVar 3) pNil))))))
    (pRet (pLst (pCons (pC (.str "fields")) (pCons (pLc (piList (pVar 5)) (pgName 7) pYes (pTup (pCons (pVar 7) (pCons (pCall ps__law_tree (pConsV 0 (pCons (pOp Pu.oSub (pConsV 1 (pCons (pC (.int 1)) pNil))) pNil))) pNil))) [7]) pNil)))))))))))

def p__law_names  (ps__law_take : PSp) : PS :=
  (pSeq (pAsg (pC (.str "abcdefghijklmnopqrstuvwxyz")) (pgName 2))
    (pSeq (pAsg (pCall ps__law_take (pConsV 0 (pCons (pC (.int 3)) pNil))) (pgName 3))
    (pSeq (pAsg (pCall ps__law_take (pConsV 0 (pCons (pC (.int 26)) pNil))) (pgName 4))
    (pSeq (pAsg (pM Pu.oJoin (pC (.str "")) (pCons (pLc (piRng1 (pC (.int 7))) (pgName 6) pYes (pOp Pu.oIx (pConsV 2 (pCons (pCall ps__law_take (pConsV 0 (pCons (pC (.int 26)) pNil))) pNil))) [6]) pNil)) (pgName 5))
    (pSeq (pIf (pTest (pOp Pu.oEq (pConsV 3 (pCons (pC (.int 0)) pNil)))) (pSeq (pAsg (pLst (pCons (pC (.str "no")) (pCons (pC (.str "yes")) (pCons (pC (.str "nothing")) (pCons (pC (.str "a")) (pCons (pC (.str "n")) (pCons (pC (.str "never")) (pCons (pC (.str "y")) (pCons (pC (.str "nothings")) pNil))))))))) (pgName 7))
    (pRet (pLc (piRng1 (pVar 1)) (pgName 6) pYes (pOp Pu.oIx (pConsV 7 (pCons (pOp Pu.oMod (pCons (pOp Pu.oAdd (pConsV 4 (pCons (pOp Pu.oMul (pCons (pC (.int 3)) (pConsV 6 pNil))) pNil))) (pCons (pC (.int 8)) pNil))) pNil))) [6]))) pNext)
    (pSeq (pIf (pTest (pOp Pu.oEq (pConsV 3 (pCons (pC (.int 1)) pNil)))) (pRet (pLc (piRng1 (pVar 1)) (pgName 6) pYes (pSl (pOp Pu.oAdd (pCons (pOp Pu.oIx (pConsV 2 (pConsV 4 pNil))) (pConsV 5 pNil))) pNoPart (pPart (pOp Pu.oAdd (pCons (pC (.int 1)) (pCons (pOp Pu.oMod (pCons (pOp Pu.oAdd (pConsV 4 (pCons (pOp Pu.oMul (pCons (pC (.int 3)) (pConsV 6 pNil))) pNil))) (pCons (pC (.int 8)) pNil))) pNil))))) [6])) pNext)
    (pRet (pLc (piRng1 (pVar 1)) (pgName 6) pYes (pOp Pu.oAdd (pCons (pOp Pu.oIx (pConsV 2 (pCons (pOp Pu.oMod (pCons (pOp Pu.oAdd (pConsV 4 (pCons (pOp Pu.oMul (pCons (pC (.int 7)) (pConsV 6 pNil))) pNil))) (pCons (pC (.int 26)) pNil))) pNil))) (pCons (pSlV 5 pNoPart (pPart (pCall ps__law_take (pConsV 0 (pCons (pC (.int 8)) pNil))))) pNil))) [6]))))))))

def p__law_take   : PS :=
  (pSeq (pAsg (pOp Pu.oAdd (pCons (pOp Pu.oIx (pConsV 0 (pCons (pC (.int 2)) pNil))) (pCons (pC (.int 1)) pNil))) (pgSetL 0 (pC (.int 2))))
    (pSeq (pIf (pTest (pOp Pu.oGt (pCons (pOp Pu.oIx (pConsV 0 (pCons (pC (.int 0)) pNil))) (pCons (pC (.int 0)) pNil)))) (pSeq (pAsg (pOp Pu.oMod (pCons (pOp Pu.oIx (pConsV 0 (pCons (pC (.int 0)) pNil))) (pConsV 1 pNil))) (pgName 2))
    (pSeq (pAsg (pOp Pu.oDiv (pCons (pOp Pu.oIx (pConsV 0 (pCons (pC (.int 0)) pNil))) (pConsV 1 pNil))) (pgSetL 0 (pC (.int 0))))
    (pRet (pVar 2)))) pNext)
    (pSeq (pAsg (pOp Pu.oMod (pCons (pOp Pu.oPow (pCons (pOp Pu.oAdd (pCons (pOp Pu.oAdd (pCons (pOp Pu.oIx (pConsV 0 (pCons (pC (.int 1)) pNil))) (pCons (pOp Pu.oMul (pCons (pC (.int 7919)) (pCons (pOp Pu.oIx (pConsV 0 (pCons (pC (.int 2)) pNil))) pNil))) pNil))) (pCons (pC (.int 5)) pNil))) (pCons (pC (.int 5)) pNil))) (pCons (pC (.int 2147483647)) pNil))) (pgName 3))
    (pSeq (pAsg (pOp Pu.oMod (pCons (pOp Pu.oPow (pCons (pOp Pu.oAdd (pCons (pOp Pu.oAdd (pCons (pOp Pu.oMul (pCons (pOp Pu.oIx (pConsV 0 (pCons (pC (.int 1)) pNil))) (pCons (pOp Pu.oIx (pConsV 0 (pCons (pC (.int 2)) pNil))) pNil))) (pCons (pOp Pu.oMul (pCons (pC (.int 104729)) (pCons (pOp Pu.oIx (pConsV 0 (pCons (pC (.int 2)) pNil))) pNil))) pNil))) (pCons (pC (.int 11)) pNil))) (pCons (pC (.int 3)) pNil))) (pCons (pC (.int 2147483587)) pNil))) (pgName 4))
    (pRet (pOp Pu.oMod (pCons (pOp Pu.oDiv (pCons (pOp Pu.oAdd (pCons (pOp Pu.oMul (pConsV 3 (pCons (pC (.int 2147483587)) pNil))) (pConsV 4 pNil))) (pCons (pC (.int 8)) pNil))) (pConsV 1 pNil))))))))

def p__law_cell   : PS :=
  (pSeq (pIf (pTest (pOp Pu.oLt (pConsV 1 (pCons (pOp Pu.oLen (pConsV 0 pNil)) pNil)))) (pRet (pOp Pu.oIx (pConsV 0 (pConsV 1 pNil)))) pNext)
    (pRet (pOp Pu.oAdd (pCons (pOp Pu.oMul (pCons (pC (.int 48271)) (pConsV 1 pNil))) (pCons (pC (.int 61)) pNil)))))

def p__law_box   : PS :=
  (pRet (pLst (pCons (pOp Pu.oMax2 (pCons (pC (.int 0)) (pCons (pOp Pu.oSub (pConsV 0 (pCons (pOp Pu.oPow (pCons (pC (.int 10)) (pCons (pC (.int 18)) pNil))) pNil))) pNil))) (pCons (pOp Pu.oMod (pConsV 0 (pCons (pC (.int 2147483629)) pNil))) (pCons (pC (.int 0)) pNil)))))
end Pu

namespace Pu
open PySem PySem.Spec PyProof.Rows L2 He Hk
def kFine : Key → Prop
  | .inl i => i.natAbs < 10 ^ 120
  | .inr z => z.length ≤ 1000000 ∧ Cs (· < 0x110000) z
def kCost : Key → Nat
  | .inl _ => 125
  | .inr z => 10 * z.length + 2
mutual
def T.Fine : T → Prop
  | .non => True
  | .bl _ => True
  | .int i => i.natAbs < 10 ^ 120
  | .str z => z.length ≤ 1000000 ∧ Cs (· < 0x110000) z
  | .lst xs => T.FineL xs
  | .tup xs => T.FineL xs
  | .dct kvs => T.FineK kvs
  | _ => False
def T.FineL : List T → Prop
  | [] => True
  | t :: r => t.Fine ∧ T.FineL r
def T.FineK : List (Key × T) → Prop
  | [] => True
  | (k, t) :: r => kFine k ∧ t.Fine ∧ T.FineK r
end
mutual
def T.cost : T → Nat
  | .non => 5
  | .bl _ => 5
  | .int _ => 125
  | .str z => 10 * z.length + 2
  | .lst xs => 4 + T.costL xs
  | .tup xs => 4 + T.costL xs
  | .dct kvs => 4 + T.costK kvs
  | _ => 5
def T.costL : List T → Nat
  | [] => 0
  | t :: r => t.cost + 2 + T.costL r
def T.costK : List (Key × T) → Nat
  | [] => 0
  | (k, t) :: r => kCost k + t.cost + 4 + T.costK r
end
mutual
/-- how many lists, tuples, dicts are about its innermost -/
def T.deep : T → Nat
  | .lst xs => 1 + T.deepL xs
  | .tup xs => 1 + T.deepL xs
  | .dct kvs => 1 + T.deepK kvs
  | _ => 0
def T.deepL : List T → Nat
  | [] => 0
  | t :: r => max t.deep (T.deepL r)
def T.deepK : List (Key × T) → Nat
  | [] => 0
  | (_, t) :: r => max t.deep (T.deepK r)
end
theorem log_fine {i : Int} (h : i.natAbs < 10 ^ 120) : i.natAbs.log2 < 1920 := by
  by_cases z : i.natAbs = 0
  · rw [z]; decide
  · refine (Nat.log2_lt z).mpr (Nat.lt_trans h (by decide +kernel))
theorem int_text {i : Int} (h : i.natAbs < 10 ^ 120) : (Str.ofString (toString i)).length ≤ 125 := by
  have e := int_text_length_le10 (a := i) (k := 120) (by decide) h
  rw [PySem.ofString_length]
  omega
theorem str_text {z : Str} (hc : Cs (· < 0x110000) z) : (reprText z).length ≤ 10 * z.length + 2 := StrLaws.reprText_len z fun c h => Nat.lt_trans (hc c h) (by decide)
theorem k_show {k : Key} (h : kFine k) : (kD k).showable = true ∧ (kD k).shown.length ≤ kCost k := by
  cases k with
  | inl i => exact ⟨decide_eq_true (log_fine h), int_text h⟩
  | inr z => exact ⟨rfl, str_text h.2⟩
theorem listText_len (ts : List Str) : (listText ts).length ≤ 4 + (ts.map (·.length + 2)).sum := by
  have key : ∀ (ts : List Str) (k : Nat) (acc : Str), (textFrom k acc ts).length ≤ acc.length + (ts.map (·.length + 2)).sum := by
    intro ts
    induction ts with
    | nil => intro k acc; exact Nat.le_refl _
    | cons t r ih =>
      intro k acc
      have q := ih (k + 1) (acc ++ (if k > 0 then ", " else "" : String) ++ t)
      have e : (acc ++ (if k > 0 then ", " else "" : String) ++ t).length ≤ acc.length + 2 + t.length := by
        rw [str_app, str_app]
        have : (Str.ofString (if k > 0 then ", " else "")).length ≤ 2 := by split <;> decide
        omega
      show (textFrom (k + 1) _ r).length ≤ _
      rw [List.map_cons, List.sum_cons]
      omega
  have q := key ts 0 "["
  unfold listText
  rw [str_app]
  have e1 : (Str.ofString "[").length = 1 := rfl
  have e2 : (Str.ofString "]").length = 1 := rfl
  omega
theorem join_len (ts : List Str) : (Str.join ", " ts).length ≤ (ts.map (·.length + 2)).sum := by
  by_cases h : ts = []
  · subst h; decide
  · have e := join_length_add ts h
    have p : piled ts = (ts.map (·.length + 2)).sum := by
      clear h e
      induction ts with
      | nil => rfl
      | cons t r ih => rw [List.map_cons, List.sum_cons, ← ih]; simp [piled]
    omega
theorem tupleText_len (ts : List Str) : (tupleText ts).length ≤ 4 + (ts.map (·.length + 2)).sum := by
  have q := join_len ts
  unfold tupleText
  rw [str_app, str_app]
  have e1 : (Str.ofString "(").length = 1 := rfl
  have e2 : (Str.ofString (if (ts.length == 1) = true then ",)" else ")")).length ≤ 2 := by split <;> decide
  omega
theorem dictText_len (ts : List Str) : (dictText ts).length ≤ 4 + (ts.map (·.length + 2)).sum := by
  have q := join_len ts
  unfold dictText
  rw [str_app, str_app]
  have e1 : (Str.ofString "{").length = 1 := rfl
  have e2 : (Str.ofString "}").length = 1 := rfl
  omega
mutual
theorem T.shows : ∀ t : T, t.Fine → t.toD.showable = true ∧ t.toD.shown.length ≤ t.cost
  | .non, _ => ⟨rfl, by decide⟩
  | .bl b, _ => ⟨rfl, by cases b <;> decide⟩
  | .int i, h => ⟨decide_eq_true (log_fine h), int_text h⟩
  | .str z, h => ⟨rfl, str_text h.2⟩
  | .lst xs, h => by
    obtain ⟨h1, h2⟩ := T.showsL xs h
    exact ⟨h1, Nat.le_trans (listText_len _) (Nat.add_le_add_left h2 4)⟩
  | .tup xs, h => by
    obtain ⟨h1, h2⟩ := T.showsL xs h
    exact ⟨h1, Nat.le_trans (tupleText_len _) (Nat.add_le_add_left h2 4)⟩
  | .dct kvs, h => by
    obtain ⟨h1, h2⟩ := T.showsK kvs h
    exact ⟨h1, Nat.le_trans (dictText_len _) (Nat.add_le_add_left h2 4)⟩
  | .ty _, h => h.elim
  | .glo _, h => h.elim
  | .ins _ _, h => h.elim
  | .scr _, h => h.elim
theorem T.showsL : ∀ ts : List T, T.FineL ts → PyData.showableAll (T.toDs ts) = true ∧ ((PyData.shownAll (T.toDs ts)).map (·.length + 2)).sum ≤ T.costL ts
  | [], _ => ⟨rfl, Nat.le_refl _⟩
  | t :: r, h => by
    obtain ⟨h1, h2⟩ := T.shows t h.1
    obtain ⟨h3, h4⟩ := T.showsL r h.2
    refine ⟨?_, ?_⟩
    · show (t.toD.showable && PyData.showableAll (T.toDs r)) = true
      rw [h1, h3]; rfl
    · show (t.toD.shown.length + 2) + ((PyData.shownAll (T.toDs r)).map (·.length + 2)).sum ≤ t.cost + 2 + T.costL r
      omega
theorem T.showsK : ∀ ts : List (Key × T), T.FineK ts → PyData.showableKv (T.toDk ts) = true ∧ ((PyData.shownKv (T.toDk ts)).map (·.length + 2)).sum ≤ T.costK ts
  | [], _ => ⟨rfl, Nat.le_refl _⟩
  | (k, t) :: r, h => by
    obtain ⟨h0, h1, h5⟩ := h
    obtain ⟨h1, h2⟩ := T.shows t h1
    obtain ⟨h3, h4⟩ := T.showsK r h5
    obtain ⟨h6, h7⟩ := k_show h0
    refine ⟨?_, ?_⟩
    · show ((kD k).showable && t.toD.showable && PyData.showableKv (T.toDk r)) = true
      rw [h1, h3, h6]; rfl
    · show ((kD k).shown ++ Str.ofString ": " ++ t.toD.shown).length + 2 + ((PyData.shownKv (T.toDk r)).map (·.length + 2)).sum ≤ kCost k + t.cost + 4 + T.costK r
      rw [str_app, str_app]
      have e2 : (Str.ofString ": ").length = 2 := rfl
      omega
end
mutual
theorem T.depth_le : ∀ t : T, t.toD.depth ≤ t.deep + 1
  | .non => by decide
  | .bl b => by cases b <;> decide
  | .int i => by show (PyData.int i).depth ≤ 0 + 1; simp [PyData.depth]
  | .str z => by show (PyData.str z).depth ≤ 0 + 1; simp [PyData.depth]
  | .lst xs => by
    have q := T.depthL_le xs
    show (PyData.list (T.toDs xs)).depth ≤ 1 + T.deepL xs + 1
    simp only [PyData.depth]
    omega
  | .tup xs => by
    have q := T.depthL_le xs
    show (PyData.tuple (T.toDs xs)).depth ≤ 1 + T.deepL xs + 1
    simp only [PyData.depth]
    omega
  | .dct kvs => by
    have q := T.depthK_le kvs
    show (PyData.dict (T.toDk kvs)).depth ≤ 1 + T.deepK kvs + 1
    simp only [PyData.depth]
    omega
  | .ty _ => by show PyData.none.depth ≤ 0 + 1; decide
  | .glo _ => by show PyData.none.depth ≤ 0 + 1; decide
  | .ins _ _ => by show PyData.none.depth ≤ 0 + 1; decide
  | .scr _ => by show PyData.none.depth ≤ 0 + 1; decide
theorem T.depthL_le : ∀ ts : List T, PyData.depthAll (T.toDs ts) ≤ T.deepL ts + 1
  | [] => by decide
  | t :: r => by
    have q := T.depth_le t
    have q2 := T.depthL_le r
    show PyData.depthAll (t.toD :: T.toDs r) ≤ max t.deep (T.deepL r) + 1
    simp only [PyData.depthAll]
    omega
theorem T.depthK_le : ∀ ts : List (Key × T), PyData.depthKv (T.toDk ts) ≤ T.deepK ts + 1
  | [] => by decide
  | (k, t) :: r => by
    have q := T.depth_le t
    have q2 := T.depthK_le r
    have e : (kD k).depth ≤ 1 := by cases k <;> simp [kD, PyData.depth]
    show PyData.depthKv ((kD k, t.toD) :: T.toDk r) ≤ max t.deep (T.deepK r) + 1
    simp only [PyData.depthKv]
    omega
end
mutual
theorem T.fine_dat : ∀ t : T, t.Fine → t.dat true = true
  | .non, _ => rfl
  | .bl _, _ => rfl
  | .int _, _ => rfl
  | .str _, _ => rfl
  | .lst xs, h => T.fine_datL xs h
  | .tup xs, h => T.fine_datL xs h
  | .dct kvs, h => by
    show (true && T.datK true kvs) = true
    rw [T.fine_datK kvs h]; rfl
  | .ty _, h => h.elim
  | .glo _, h => h.elim
  | .ins _ _, h => h.elim
  | .scr _, h => h.elim
theorem T.fine_datL : ∀ ts : List T, T.FineL ts → T.datL true ts = true
  | [], _ => rfl
  | t :: r, h => by
    show (t.dat true && T.datL true r) = true
    rw [T.fine_dat t h.1, T.fine_datL r h.2]; rfl
theorem T.fine_datK : ∀ ts : List (Key × T), T.FineK ts → T.datK true ts = true
  | [], _ => rfl
  | (k, t) :: r, h => by
    show (t.dat true && T.datK true r) = true
    rw [T.fine_dat t h.2.1, T.fine_datK r h.2.2]; rfl
end
theorem shows_of {t : T} (h : t.Fine) (hd : t.deep ≤ 30) (hc : t.cost ≤ 16000000) : Shows t := by
  obtain ⟨h1, h2⟩ := T.shows t h
  exact ⟨T.fine_dat t h, h1, Nat.le_trans (T.depth_le t) (by omega), Nat.le_trans h2 hc⟩
theorem fineL_of : ∀ {ts : List T}, (∀ t, t ∈ ts → t.Fine) → T.FineL ts
  | [], _ => trivial
  | a :: r, h => ⟨h a (by simp), fineL_of fun t ht => h t (by simp [ht])⟩
theorem deepL_le : ∀ {ts : List T} {n : Nat}, (∀ t, t ∈ ts → t.deep ≤ n) → T.deepL ts ≤ n
  | [], n, _ => Nat.zero_le _
  | a :: r, n, h => by
    show max a.deep (T.deepL r) ≤ n
    have h1 := h a (by simp)
    have h2 := deepL_le (ts := r) fun t ht => h t (by simp [ht])
    omega
theorem deepK_vals : ∀ kvs : List (Key × T), T.deepL (kvs.map (·.2)) = T.deepK kvs
  | [] => rfl
  | (k, t) :: r => by
    show max t.deep (T.deepL (r.map (·.2))) = max t.deep (T.deepK r)
    rw [deepK_vals r]
mutual
def T.Uq : T → Prop
  | .lst xs => T.UqL xs
  | .tup xs => T.UqL xs
  | .dct kvs => (kvs.map (·.1)).Nodup ∧ T.UqK kvs
  | _ => True
def T.UqL : List T → Prop
  | [] => True
  | t :: r => t.Uq ∧ T.UqL r
def T.UqK : List (Key × T) → Prop
  | [] => True
  | (_, t) :: r => t.Uq ∧ T.UqK r
end
theorem uqL_of : ∀ {ts : List T}, (∀ t, t ∈ ts → t.Uq) → T.UqL ts
  | [], _ => trivial
  | a :: r, h => ⟨h a (by simp), uqL_of fun t ht => h t (by simp [ht])⟩
theorem uqK_of : ∀ {ts : List (Key × T)}, (∀ kv, kv ∈ ts → kv.2.Uq) → T.UqK ts
  | [], _ => trivial
  | (k, a) :: r, h => ⟨h (k, a) (by simp), uqK_of fun t ht => h t (by simp [ht])⟩
theorem fineK_of : ∀ {kvs : List (Key × T)}, (∀ kv, kv ∈ kvs → kFine kv.1 ∧ kv.2.Fine) → T.FineK kvs
  | [], _ => trivial
  | (k, t) :: r, h => ⟨(h (k, t) (by simp)).1, (h (k, t) (by simp)).2, fineK_of fun kv hk => h kv (by simp [hk])⟩
/-- each entry is as Q says -/
def AllE (Q : Key → T → Prop) (kvs : List (Key × T)) : Prop := ∀ kv, kv ∈ kvs → Q kv.1 kv.2
theorem AllE.put {Q : Key → T → Prop} {kvs : List (Key × T)} {k : Key} {t : T} (h : AllE Q kvs) (ht : Q k t) : AllE Q (putT kvs k t) := by
  unfold putT
  intro kv hkv
  split at hkv
  · obtain ⟨kv0, h0, rfl⟩ := List.mem_map.mp hkv
    by_cases c : kv0.1 = k
    · rw [if_pos c]; rw [c]; exact ht
    · rw [if_neg c]; exact h kv0 h0
  · rcases List.mem_append.mp hkv with q | q
    · exact h kv q
    · rw [show kv = (k, t) from by simpa using q]; exact ht
theorem AllE.merge {Q : Key → T → Prop} : ∀ {ms kvs : List (Key × T)}, AllE Q ms → AllE Q kvs → AllE Q (mergeT kvs ms)
  | [], _, _, h => h
  | (k, t) :: ms, kvs, hm, h => AllE.merge (ms := ms) (fun kv hk => hm kv (by simp [hk])) (h.put (hm (k, t) (by simp)))
theorem costL_le : ∀ {ts : List T} {c : Nat}, (∀ t, t ∈ ts → t.cost ≤ c) → T.costL ts ≤ ts.length * (c + 2)
  | [], c, _ => Nat.zero_le _
  | t :: r, c, h => by
    have h1 := h t (by simp)
    have h2 := costL_le (ts := r) fun y hy => h y (by simp [hy])
    show t.cost + 2 + T.costL r ≤ (r.length + 1) * (c + 2)
    rw [Nat.add_mul]; omega
theorem costK_le : ∀ {ts : List (Key × T)} {c k : Nat}, (∀ t, t ∈ ts → t.2.cost ≤ c ∧ kCost t.1 ≤ k) → T.costK ts ≤ ts.length * (c + k + 4)
  | [], c, k, _ => Nat.zero_le _
  | (a, t) :: r, c, k, h => by
    have h1 := h (a, t) (by simp)
    have h2 := costK_le (ts := r) fun y hy => h y (by simp [hy])
    show kCost a + t.cost + 4 + T.costK r ≤ (r.length + 1) * (c + k + 4)
    rw [Nat.add_mul]
    have := h1.1
    have := h1.2
    simp only at *
    omega
theorem deepK_le {kvs : List (Key × T)} {n : Nat} (h : ∀ kv, kv ∈ kvs → kv.2.deep ≤ n) : T.deepK kvs ≤ n := by
  rw [← deepK_vals]
  exact deepL_le fun t ht => by obtain ⟨kv, hkv, rfl⟩ := List.mem_map.mp ht; exact h kv hkv
/-- a thing: its text at most so long, at most so deep -/
structure Th (c d : Nat) (t : T) : Prop where
  fine : t.Fine
  uq : t.Uq
  cost : t.cost ≤ c
  deep : t.deep ≤ d
theorem Th.mono {c d c' d' : Nat} {t : T} (h : Th c d t) (h1 : c ≤ c') (h2 : d ≤ d') : Th c' d' t := ⟨h.fine, h.uq, Nat.le_trans h.cost h1, Nat.le_trans h.deep h2⟩
theorem Th.shows {c d : Nat} {t : T} (h : Th c d t) (h1 : c ≤ 16000000) (h2 : d ≤ 30) : Shows t := shows_of h.fine (Nat.le_trans h.deep h2) (Nat.le_trans h.cost h1)
theorem Th.lst {c d n : Nat} {ts : List T} (h : ∀ t, t ∈ ts → Th c d t) (hl : ts.length ≤ n) : Th (4 + n * (c + 2)) (1 + d) (.lst ts) :=
  ⟨fineL_of fun t ht => (h t ht).fine, uqL_of fun t ht => (h t ht).uq, Nat.add_le_add_left (Nat.le_trans (costL_le fun t ht => (h t ht).cost) (Nat.mul_le_mul_right _ hl)) 4, Nat.add_le_add_left (deepL_le fun t ht => (h t ht).deep) 1⟩
theorem Th.tup {c d n : Nat} {ts : List T} (h : ∀ t, t ∈ ts → Th c d t) (hl : ts.length ≤ n) : Th (4 + n * (c + 2)) (1 + d) (.tup ts) :=
  ⟨fineL_of fun t ht => (h t ht).fine, uqL_of fun t ht => (h t ht).uq, Nat.add_le_add_left (Nat.le_trans (costL_le fun t ht => (h t ht).cost) (Nat.mul_le_mul_right _ hl)) 4, Nat.add_le_add_left (deepL_le fun t ht => (h t ht).deep) 1⟩
theorem Th.dct {c d n k : Nat} {kvs : List (Key × T)} (h : AllE (fun a t => (kFine a ∧ kCost a ≤ k) ∧ Th c d t) kvs) (hn : (kvs.map (·.1)).Nodup) (hl : kvs.length ≤ n) : Th (4 + n * (c + k + 4)) (1 + d) (.dct kvs) :=
  ⟨fineK_of fun kv hkv => ⟨(h kv hkv).1.1, (h kv hkv).2.fine⟩, ⟨hn, uqK_of fun kv hkv => (h kv hkv).2.uq⟩, Nat.add_le_add_left (Nat.le_trans (costK_le fun kv hkv => ⟨(h kv hkv).2.cost, (h kv hkv).1.2⟩) (Nat.mul_le_mul_right _ hl)) 4, Nat.add_le_add_left (deepK_le fun kv hkv => (h kv hkv).2.deep) 1⟩
end Pu

section
open Pu PySem PySem.Spec PyProof.Rows L2 He Hk
local macro_rules | `(tactic| wtm_at "kb") => `(tactic| with_reducible exact kb_dict_dict)
local macro_rules | `(tactic| wtm_at "kb") => `(tactic| with_reducible exact kb_dict_list)
local macro_rules | `(tactic| wtm_at "kb") => `(tactic| with_reducible exact kb_dict_str)
local macro_rules | `(tactic| wtm_at "kb") => `(tactic| with_reducible exact kb_dict_bool)
local macro_rules | `(tactic| wtm_at "kb") => `(tactic| with_reducible exact kb_dict_int)
local macro_rules | `(tactic| wtm_at "kb") => `(tactic| with_reducible exact kb_list_list)
local macro_rules | `(tactic| wtm_at "kb") => `(tactic| with_reducible exact kb_list_str)
local macro_rules | `(tactic| wtm_at "kb") => `(tactic| with_reducible exact kb_list_bool)
local macro_rules | `(tactic| wtm_at "kb") => `(tactic| with_reducible exact kb_list_int)
local macro_rules | `(tactic| wtm_at "kb") => `(tactic| with_reducible exact kb_str_str)
local macro_rules | `(tactic| wtm_at "kb") => `(tactic| with_reducible exact kb_str_bool)
local macro_rules | `(tactic| wtm_at "kb") => `(tactic| with_reducible exact kb_str_int)
local macro_rules | `(tactic| wtm_at "kb") => `(tactic| with_reducible exact kb_int_bool)
local macro_rules | `(tactic| wtm_at "kb") => `(tactic| with_reducible exact kb_int_int)
local macro_rules | `(tactic| wtm_at "kb") => `(tactic| with_reducible exact kb_bool_bool)
local macro_rules | `(tactic| wtm_at "set") => `(tactic| ((try simp only [backE, reown, List.set_cons_zero, List.set_cons_succ, List.getElem?_cons_zero, List.getElem?_cons_succ]); rfl))
local macro_rules | `(tactic| wtm_at "side") => `(tactic| first | assumption | decide | omega)
local macro_rules | `(tactic| wtm_at "ln") => `(tactic| first | omega | exact len_one (by omega) | (refine len_cut ?_; wtm_at "ln") | (refine len_app ?_ ?_ <;> wtm_at "ln") | decide +kernel)
local macro_rules | `(tactic| wtm_at "size") => `(tactic| first | assumption | wtm_at "ln" | (refine Nat.le_trans (Nat.add_le_add (b := 8000000) (d := 8000000) ?_ ?_) (by decide) <;> wtm_at "ln"))
local macro_rules | `(tactic| wtm_at "w") => `(tactic| (with_reducible refine w_kMade ?_))
local macro_rules | `(tactic| wtm_at "w") => `(tactic| ((with_reducible refine' w_kMk ?e1 ?_); (case e1 => rfl); intro p'))
local macro_rules | `(tactic| wtm_at "w") => `(tactic| (with_reducible refine w_make' ?_))
local macro_rules | `(tactic| wtm_at "w") => `(tactic| ((with_reducible refine' w_cA' ?e1 ?e2 ?_); (case e1 => rfl); (case e2 => rfl);))
local macro_rules | `(tactic| wtm_at "w") => `(tactic| ((with_reducible refine' w_kSetF ?e1 ?e2 ?e3 ?e4 ?e5 ?_); (case e1 => rfl); (case e2 => wtm_at "kf"); (case e3 => wtm_at "kf"); (case e4 => exact Nat.le_of_ble_eq_true rfl); (case e5 => wtm_at "set");))
local macro_rules | `(tactic| wtm_at "w") => `(tactic| (with_reducible refine w_setF ?_))
local macro_rules | `(tactic| wtm_at "w") => `(tactic| ((with_reducible refine' w_xf ?e1 ?e2 ?_); (case e1 => rfl); (case e2 => rfl);))
local macro_rules | `(tactic| wtm_at "w") => `(tactic| ((with_reducible refine' w_kCX ?e1 ?e2 ?_); (case e1 => rfl); (case e2 => rfl);))
local macro_rules | `(tactic| wtm_at "w") => `(tactic| (with_reducible refine w_callX ?_))
local macro_rules | `(tactic| wtm_at "w") => `(tactic| (with_reducible refine w_raise ?_))
local macro_rules | `(tactic| wtm_at "w") => `(tactic| ((with_reducible refine' v_inAd ?e1 ?_); (case e1 => rfl);))
local macro_rules | `(tactic| wtm_at "w") => `(tactic| ((with_reducible refine' Pu.v_ixS ?e1 ?e2 ?e3 ?_); (case e1 => wtm_at "size"); (case e2 => omega); (case e3 => first | omega | (simp only [show _ = _ from by assumption]; omega)); intro c' hc' hc2))
local macro_rules | `(tactic| wtm_at "w") => `(tactic| ((with_reducible refine' Pu.v_slS ?e1 ?_); (case e1 => wtm_at "size");))
local macro_rules | `(tactic| wtm_at "w") => `(tactic| ((with_reducible refine' v_addS ?e1 ?_); (case e1 => wtm_at "size");))
local macro_rules | `(tactic| wtm_at "w") => `(tactic| ((with_reducible refine' Pu.v_lenS ?e1 ?_); (case e1 => wtm_at "size");))
local macro_rules | `(tactic| wtm_at "w") => `(tactic| ((with_reducible refine' Pu.v_isi ?e1 ?e2 ?_); (case e1 => rfl); (case e2 => wtm_at "kb");))
local macro_rules | `(tactic| wtm_at "w") => `(tactic| ((with_reducible refine' Pu.v_ixT ?e1 ?_); (case e1 => rfl);))
local macro_rules | `(tactic| wtm_at "w") => `(tactic| ((with_reducible refine' v_ne ?e1 ?_); (case e1 => rfl);))
local macro_rules | `(tactic| wtm_at "w") => `(tactic| ((with_reducible refine' v_powE ?e1 ?e2 ?_); (case e1 => first | decide | (refine ⟨by decide, by decide, ?_, ?_⟩ <;> omega)); (case e2 => ((try simp only [Int.reduceToNat, Int.reducePow]); rfl))))
local macro_rules | `(tactic| wtm_at "w") => `(tactic| ((with_reducible refine' Pu.v_div ?e1 ?_); (case e1 => omega);))
local macro_rules | `(tactic| wtm_at "w") => `(tactic| ((with_reducible refine' Pu.v_mulI ?e1 ?_); (case e1 => first | exact s_mul (by omega) (by omega) | (unfold CMulW; decide +kernel));))
local macro_rules | `(tactic| wtm_at "w") => `(tactic| ((with_reducible refine' Pu.v_mod ?e1 ?_); (case e1 => wtm_at "side");))
local macro_rules | `(tactic| wtm_at "w") => `(tactic| ((with_reducible refine' Pu.iteFalse ?e1 ?_); (case e1 => rfl);))
local macro_rules | `(tactic| wtm_at "w") => `(tactic| ((with_reducible refine' Pu.iteTrue ?e1 ?_); (case e1 => rfl);))
local macro_rules | `(tactic| wtm_at "w") => `(tactic| ((with_reducible refine' w_kR1 ?e1 ?_); (case e1 => omega);))
local macro_rules | `(tactic| wtm_at "w") => `(tactic| ((with_reducible refine' w_kApp ?e1 ?e2 ?e3 ?_); (case e1 => rfl); (case e2 => wtm_at "side"); (case e3 => wtm_at "set");))
local macro_rules | `(tactic| wtm_at "w") => `(tactic| ((with_reducible refine' w_append ?e1 ?_); (case e1 => rfl);))
local macro_rules | `(tactic| wtm_at "w") => `(tactic| ((with_reducible refine' w_kSetD ?e1 ?e2 ?e3 ?e4 ?_); (case e1 => rfl); (case e2 => wtm_at "side"); (case e3 => rfl); (case e4 => wtm_at "set");))
local macro_rules | `(tactic| wtm_at "w") => `(tactic| ((with_reducible refine' w_kSetL ?e1 ?e2 ?e3 ?_); (case e1 => rfl); (case e2 => rfl); (case e3 => wtm_at "set");))
local macro_rules | `(tactic| wtm_at "w") => `(tactic| ((with_reducible refine' w_setD ?e1 ?_); (case e1 => exact trivial);))
local macro_rules | `(tactic| wtm_at "w") => `(tactic| ((with_reducible refine' w_setL ?e1 ?_); (case e1 => exact trivial);))
local macro_rules | `(tactic| wtm_at "w") => `(tactic| ((with_reducible refine' w_kSl ?e1 ?_); (case e1 => rfl);))
local macro_rules | `(tactic| wtm_at "w") => `(tactic| ((with_reducible refine' w_slV ?e1 ?_); (case e1 => exact trivial);))
local macro_rules | `(tactic| wtm_at "w") => `(tactic| ((with_reducible refine' w_kDs ?e1 ?e2 ?_); (case e1 => rfl); (case e2 => exact Nat.le_of_ble_eq_true rfl);))
local macro_rules | `(tactic| wtm_at "w") => `(tactic| ((with_reducible refine' w_kOwn ?e1 ?_); (case e1 => exact trivial); (intro p' env' ee'; simp only [List.set_cons_zero, List.set_cons_succ] at ee'; subst ee')))
local macro_rules | `(tactic| wtm_at "w") => `(tactic| ((with_reducible refine' w_kMO ?e1 ?_); (case e1 => rfl);))
local macro_rules | `(tactic| wtm_at "w") => `(tactic| ((with_reducible refine' w_varO ?e1 ?e2 ?_); (case e1 => rfl); (case e2 => wtm_at "set");))
local macro_rules | `(tactic| wtm_at "w") => `(tactic| (with_reducible refine v_notN ?_))
local macro_rules | `(tactic| wtm_at "w") => `(tactic| (with_reducible refine v_isN ?_))
local macro_rules | `(tactic| wtm_at "w") => `(tactic| (with_reducible refine Pu.v_int1 ?_))
local macro_rules | `(tactic| wtm_at "w") => `(tactic| (with_reducible refine Pu.v_min2 ?_))
local macro_rules | `(tactic| wtm_at "w") => `(tactic| (with_reducible refine Pu.v_max2 ?_))
local macro_rules | `(tactic| wtm_at "w") => `(tactic| (with_reducible refine v_lenC ?_))
local macro_rules | `(tactic| wtm_at "w") => `(tactic| (with_reducible refine Pu.v_lenL ?_))
local macro_rules | `(tactic| wtm_at "w") => `(tactic| (with_reducible refine v_notInS ?_))
local macro_rules | `(tactic| wtm_at "w") => `(tactic| (with_reducible refine v_inS ?_))
local macro_rules | `(tactic| wtm_at "w") => `(tactic| (with_reducible refine Pu.v_lt ?_))
local macro_rules | `(tactic| wtm_at "w") => `(tactic| (with_reducible refine Pu.v_gt ?_))
local macro_rules | `(tactic| wtm_at "w") => `(tactic| (with_reducible refine Pu.v_sub ?_))
local macro_rules | `(tactic| wtm_at "w") => `(tactic| (with_reducible refine Pu.w_lc ?_))
local macro_rules | `(tactic| wtm_at "w") => `(tactic| (with_reducible refine Pu.w_for ?_))
local macro_rules | `(tactic| wtm_at "w") => `(tactic| (with_reducible refine w_kD ?_))
local macro_rules | `(tactic| wtm_at "w") => `(tactic| (with_reducible refine w_piD ?_))
local macro_rules | `(tactic| wtm_at "w") => `(tactic| (with_reducible refine w_piRng1 ?_))
local macro_rules | `(tactic| wtm_at "w") => `(tactic| (with_reducible refine w_kSt ?_))
local macro_rules | `(tactic| wtm_at "w") => `(tactic| (with_reducible refine w_piStr ?_))
local macro_rules | `(tactic| wtm_at "w") => `(tactic| (with_reducible refine w_kL ?_))
local macro_rules | `(tactic| wtm_at "w") => `(tactic| (with_reducible refine w_piList ?_))
local macro_rules | `(tactic| wtm_at "w") => `(tactic| (with_reducible refine w_kM ?_))
local macro_rules | `(tactic| wtm_at "w") => `(tactic| (with_reducible refine w_m ?_))
local macro_rules | `(tactic| wtm_at "w") => `(tactic| (with_reducible refine w_kI ?_))
local macro_rules | `(tactic| wtm_at "w") => `(tactic| (with_reducible refine Pu.w_part ?_))
local macro_rules | `(tactic| wtm_at "w") => `(tactic| (with_reducible refine Pu.w_noPart ?_))
local macro_rules | `(tactic| wtm_at "w") => `(tactic| (with_reducible refine Pu.w_sl ?_))
local macro_rules | `(tactic| wtm_at "w") => `(tactic| (with_reducible refine Pu.w_pcons ?_))
local macro_rules | `(tactic| wtm_at "w") => `(tactic| (with_reducible refine Pu.w_pnil ?_))
local macro_rules | `(tactic| wtm_at "w") => `(tactic| (with_reducible refine Pu.w_disp ?_))
local macro_rules | `(tactic| wtm_at "w") => `(tactic| (with_reducible refine Pu.w_dnew ?_))
local macro_rules | `(tactic| wtm_at "w") => `(tactic| (with_reducible refine Pu.w_tup ?_))
local macro_rules | `(tactic| wtm_at "w") => `(tactic| (with_reducible refine Pu.w_chain ?_))
local macro_rules | `(tactic| wtm_at "w") => `(tactic| (with_reducible refine Pu.w_ifE ?_))
local macro_rules | `(tactic| wtm_at "w") => `(tactic| (with_reducible refine Pu.w_orV ?_))
local macro_rules | `(tactic| wtm_at "w") => `(tactic| (with_reducible refine Pu.w_andV ?_))
local macro_rules | `(tactic| wtm_at "w") => `(tactic| (with_reducible refine Pu.w_drop ?_))
local macro_rules | `(tactic| wtm_at "w") => `(tactic| (with_reducible refine w_own ?_))
local macro_rules | `(tactic| wtm_at "w") => `(tactic| ((with_reducible refine' w_kV2 ?e1 ?e2 ?_); (case e1 => rfl); (case e2 => exact Nat.le_of_ble_eq_true rfl);))
local macro_rules | `(tactic| wtm_at "w") => `(tactic| (with_reducible refine Pu.w_lst ?_))
local macro_rules | `(tactic| wtm_at "w") => `(tactic| ((with_reducible refine' v_eq ?e1 ?_); (case e1 => rfl);))
local macro_rules | `(tactic| wtm_at "w") => `(tactic| (with_reducible refine Pu.v_addI ?_))
local macro_rules | `(tactic| wtm_at "w") => `(tactic| ((with_reducible refine' Pu.v_ixL ?e1 ?_); (case e1 => rfl);))
local macro_rules | `(tactic| wtm_at "w") => `(tactic| (with_reducible refine Pu.w_next ?_))
local macro_rules | `(tactic| wtm_at "w") => `(tactic| (with_reducible refine Pu.w_not ?_))
local macro_rules | `(tactic| wtm_at "w") => `(tactic| (with_reducible refine Pu.w_or ?_))
local macro_rules | `(tactic| wtm_at "w") => `(tactic| (with_reducible refine Pu.w_and ?_))
local macro_rules | `(tactic| wtm_at "w") => `(tactic| (with_reducible refine iteF' ?_))
local macro_rules | `(tactic| wtm_at "w") => `(tactic| (with_reducible refine iteT' ?_))
local macro_rules | `(tactic| wtm_at "w") => `(tactic| (with_reducible refine Pu.w_ret ?_))
local macro_rules | `(tactic| wtm_at "w") => `(tactic| ((with_reducible refine' w_kBk ?e1 ?_); (case e1 => wtm_at "set");))
local macro_rules | `(tactic| wtm_at "w") => `(tactic| ((with_reducible refine' w_kC ?e1 ?e2 ?_); (case e1 => rfl); (case e2 => rfl);))
local macro_rules | `(tactic| wtm_at "w") => `(tactic| (with_reducible refine Pu.w_call ?_))
local macro_rules | `(tactic| wtm_at "w") => `(tactic| (with_reducible refine w_kB ?_))
local macro_rules | `(tactic| wtm_at "w") => `(tactic| (with_reducible refine Pu.w_test ?_))
local macro_rules | `(tactic| wtm_at "w") => `(tactic| (with_reducible refine Pu.w_if ?_))
local macro_rules | `(tactic| wtm_at "w") => `(tactic| ((with_reducible refine' Pu.w_name ?e1 ?e2 ?_); (case e1 => exact trivial); (case e2 => wtm_at "set");))
local macro_rules | `(tactic| wtm_at "w") => `(tactic| (with_reducible refine Pu.w_asg ?_))
local macro_rules | `(tactic| wtm_at "w") => `(tactic| (with_reducible refine Pu.w_seq ?_))
local macro_rules | `(tactic| wtm_at "w") => `(tactic| ((with_reducible refine' Pu.w_var ?e1 ?_); (case e1 => rfl);))
local macro_rules | `(tactic| wtm_at "w") => `(tactic| ((with_reducible refine' w_kO ?e1 ?_); (case e1 => rfl);))
local macro_rules | `(tactic| wtm_at "w") => `(tactic| (with_reducible refine Pu.w_nil ?_))
local macro_rules | `(tactic| wtm_at "w") => `(tactic| (with_reducible refine Pu.w_c ?_))
local macro_rules | `(tactic| wtm_at "w") => `(tactic| ((with_reducible refine' w_consV ?e1 ?_); (case e1 => exact trivial);))
local macro_rules | `(tactic| wtm_at "w") => `(tactic| (with_reducible refine Pu.w_cons ?_))
local macro_rules | `(tactic| wtm_at "w") => `(tactic| (with_reducible refine Pu.w_op ?_))
local macro_rules | `(tactic| wtm_at "kf") => `(tactic| assumption)
local macro_rules | `(tactic| wtm_at "mem") => `(tactic| (first | exact List.Mem.head _ | exact List.Mem.tail _ (List.Mem.head _) | simp only [List.mem_cons, true_or, or_true, eq_self]))
namespace Pu
open PySem PySem.Spec PyProof.Rows L2 He Hk
abbrev letters : Str := "abcdefghijklmnopqrstuvwxyz"
abbrev signs : Str := " !\"#$&'()*+,-./0123456789:;<=>?@ABCDEFGHIJKLMNOPQRSTUVWXYZ[\\]^_`abcdefghijklmnopqrstuvwxyz{|}~"
def allIn (z w : Str) : Bool := z.cps.toList.all fun c => decide (c ∈ w.cps.toList)
def okWord (z : Str) : Bool := decide (1 ≤ (z.length : Int)) && (decide ((z.length : Int) ≤ 8) && allIn z letters)
end Pu

namespace Pu
open PySem PySem.Spec PyProof.Rows L2 He Hk
section
variable {K : PySem.W.Frag} {w : World} {m : Nat}
def sg (z : Str) (p : Nat) : Option Nat := z.cps.toList[p]?
def sgS : Option Nat → Str
  | none => ⟨#[]⟩
  | some c => ⟨#[c]⟩
def optS : Option Str → T
  | none => .non
  | some s => .str s
def rdT (K : PySem.W.Frag) (z : Str) (p : Nat) (u : Option Str) : T := .ins (ga K "Reader") [(.inr "all_signs", .str z), (.inr "stands_at", .int (p : Nat)), (.inr "first_twice", optS u)]
def badT (K : PySem.W.Frag) (p : Nat) : T := .ins (ga K "BadText") [(.inr "place", .int (p : Nat))]
theorem cut_sg {z : Str} {p : Nat} : cutS z (some (p : Int)) (some ((p : Int) + 1)) = sgS (sg z p) := by
  show (⟨((z.cps.toList.drop (HT.sIx z.length 0 (some (p : Int)))).take (HT.sIx z.length z.length (some ((p : Int) + 1)) - HT.sIx z.length 0 (some (p : Int)))).toArray⟩ : Str) = _
  have e1 : HT.sIx z.length 0 (some (p : Int)) = min p z.length := by
    show (if (p : Int) < 0 then z.length - (-(p : Int)).toNat else min (Int.toNat (p : Int)) z.length) = _
    rw [if_neg (by omega), Int.toNat_natCast]
  have e2 : HT.sIx z.length z.length (some ((p : Int) + 1)) = min (p + 1) z.length := by
    show (if (p : Int) + 1 < 0 then z.length - (-((p : Int) + 1)).toNat else min (Int.toNat ((p : Int) + 1)) z.length) = _
    rw [if_neg (by omega)]; congr 1
  rw [e1, e2]
  have hl : z.length = z.cps.toList.length := by rw [Array.length_toList]; rfl
  unfold sg
  by_cases c : p < z.length
  · rw [Nat.min_eq_left (by omega), Nat.min_eq_left (by omega), show p + 1 - p = 1 by omega]
    have c2 : p < z.cps.toList.length := by omega
    rw [List.getElem?_eq_getElem c2, List.drop_eq_getElem_cons c2]
    rfl
  · rw [Nat.min_eq_right (by omega), Nat.min_eq_right (by omega), List.getElem?_eq_none (by omega)]
    simp [sgS]
def ps_ahead (K : PySem.W.Frag) : PSp := fun sl P => ∃ (q : Addr) (z : Str) (p : Nat) (u : Option Str), sl = [.ref q (rdT K z p u)] ∧ z.length ≤ 16000000 ∧ P (.str (sgS (sg z p))) [.ref q (rdT K z p u)]
local macro_rules | `(tactic| wtm_at "u") => `(tactic| first
  | ((with_reducible refine' w_fldO ?e1 ?e2 ?e3 ?e4 ?_); (case e1 => rfl); (case e2 => exact KF.c_Reader (by assumption)); (case e3 => first | exact KF.n_Reader_all_signs (by assumption) | exact KF.n_Reader_stands_at (by assumption) | exact KF.n_Reader_first_twice (by assumption)); (case e4 => rfl))
  | ((with_reducible refine' w_methO ?e1 ?e2 ?e3 ?_); (case e1 => rfl); (case e2 => rfl); (case e3 => exact List.Mem.head _))
  | ((with_reducible refine' w_methOX ?e1 ?e2 ?e3 ?_); (case e1 => rfl); (case e2 => rfl); (case e3 => exact List.Mem.head _))
  | ((with_reducible refine' w_cA' ?e1 ?e2 ?_); (case e1 => rfl); (case e2 => rfl))
  | ((with_reducible refine' w_cX' ?e1 ?e2 ?_); (case e1 => rfl); (case e2 => rfl)))
theorem pure_ahead (kf : KF K w) : ∀ sl P, ps_ahead K sl P → p_Reader__ahead K (pdOf false sl P) (sl ++ nones 0) := by
  rintro sl P ⟨q, z, p, u, rfl, hz, h⟩
  show p_Reader__ahead _ _ [_]
  unfold p_Reader__ahead
  repeat (first | wtm_at "w" | wtm_at "u")
  rw [cut_sg]
  exact ⟨⟨rfl, trivial⟩, h⟩
/-- self.stands_at = .. -/
theorem w_setAt {i : Nat} {q : Addr} {z : Str} {p p' : Nat} {u : Option Str} {env env' : Env} {Q : Env → Prop} (kf : KF K w) (e : env[i]? = some (.ref q (rdT K z p u))) (ee : env.set i (.ref q (rdT K z p' u)) = env') (h : Q env') : kSetF K i "stands_at" (.int (p' : Nat)) env Q := by
  subst ee
  unfold kSetF
  rw [e]
  refine ⟨kf.c_Reader, kf.n_Reader_stands_at, by show 3 < 1000; decide, ?_⟩
  unfold reown
  rw [e]
  exact h
theorem w_setTw {i : Nat} {q : Addr} {z s : Str} {p : Nat} {u : Option Str} {env env' : Env} {Q : Env → Prop} (kf : KF K w) (e : env[i]? = some (.ref q (rdT K z p u))) (ee : env.set i (.ref q (rdT K z p (some s))) = env') (h : Q env') : kSetF K i "first_twice" (.str s) env Q := by
  subst ee
  unfold kSetF
  rw [e]
  refine ⟨kf.c_Reader, kf.n_Reader_first_twice, by show 3 < 1000; decide, ?_⟩
  unfold reown
  rw [e]
  exact h
/-- what comes of reading: a place where it stops, or a thing, the place behind it, the first name that came twice -/
inductive Rr where
  | bad (p : Nat)
  | ok (t : T) (p : Nat) (u : Option Str)
def RP (K : PySem.W.Frag) (P X : T → List Slot → Prop) (q : Addr) (z : Str) (as : List Slot) : Rr → Prop
  | .bad b => ∀ p u, X (badT K b) (.ref q (rdT K z p u) :: as)
  | .ok t p u => P t (.ref q (rdT K z p u) :: as)
def tk1 (z : Str) (s : List Nat) (p : Nat) (u : Option Str) : Rr := match sg z p with
  | some c => if c ∈ s then .ok (.str ⟨#[c]⟩) (p + 1) u else .bad p
  | none => .bad p
def tkA (z : Str) : List Nat → Nat → Option Str → Rr
  | [], p, u => .ok .non p u
  | c :: r, p, u => if sg z p = some c then tkA z r (p + 1) u else .bad p
def ps_rtk (K : PySem.W.Frag) : PSpX := fun sl P X => ∃ (q : Addr) (z : Str) (p : Nat) (u : Option Str) (s : Str), sl = [.ref q (rdT K z p u), .val (.str s)] ∧ z.length ≤ 16000000 ∧ RP K P X q z [.val (.str s)] (tk1 z s.cps.toList p u)
theorem pure_rtk (kf : KF K w) : ∀ sl P X, ps_rtk K sl P X → p_Reader__take K (pxOf sl X) (ps_ahead K) (pdOf false sl P) (sl ++ nones 1) := by
  rintro sl P X ⟨q, z, p, u, s, rfl, hz, h⟩
  show p_Reader__take _ _ _ _ [_, _, .none]
  unfold p_Reader__take
  unfold tk1 at h
  repeat (first | wtm_at "w" | wtm_at "u")
  refine ⟨q, z, p, u, rfl, hz, ?_⟩
  repeat (first | wtm_at "w" | wtm_at "u")
  cases e : sg z p with
  | none =>
    rw [e] at h
    repeat (first | wtm_at "w" | wtm_at "u")
    exact ⟨⟨rfl, trivial⟩, h p u⟩
  | some c =>
    rw [e] at h
    rw [show sgS (some c) = ⟨#[c]⟩ from rfl]
    dsimp only at h
    repeat (first | wtm_at "w" | wtm_at "u")
    by_cases hc : c ∈ s.cps.toList
    · rw [if_pos hc] at h
      rw [decide_eq_true hc]
      repeat (first | wtm_at "w" | wtm_at "u")
      refine w_setAt (p' := p + 1) kf rfl rfl ?_
      repeat (first | wtm_at "w" | wtm_at "u")
      exact ⟨⟨rfl, trivial⟩, h⟩
    · rw [if_neg hc] at h
      rw [decide_eq_false hc]
      repeat (first | wtm_at "w" | wtm_at "u")
      exact ⟨⟨rfl, trivial⟩, h p u⟩
def ps_rta (K : PySem.W.Frag) : PSpX := fun sl P X => ∃ (q : Addr) (z : Str) (p : Nat) (u : Option Str) (s : Str), sl = [.ref q (rdT K z p u), .val (.str s)] ∧ z.length ≤ 16000000 ∧ s.length ≤ 1000 ∧ RP K P X q z [.val (.str s)] (tkA z s.cps.toList p u)
theorem rta_go {q : Addr} {z s : Str} {p0 : Nat} {u u0 : Option Str} {P X : T → List Slot → Prop} (hz : z.length ≤ 16000000) : ∀ (cs : List Nat) (p : Nat) (s2 : Slot), noRef [s2] 0 → RP K P X q z [.val (.str s)] (tkA z cs p u) →
    pForGo (pgName 2) (pDrop (pMethOX 0 "take" [(ga K "Reader", ps_rtk K)] (pxOf [.ref q (rdT K z p0 u0), .val (.str s)] X) (pCons (pVar 2) pNil))) (pdOf false [.ref q (rdT K z p0 u0), .val (.str s)] P) (cs.map fun c => T.str ⟨#[c]⟩) [.ref q (rdT K z p u), .val (.str s), s2]
  | [], p, s2, _, h => ⟨rfl, ⟨rfl, trivial⟩, h⟩
  | c :: r, p, s2, n2, h => by
    show pgName 2 _ _ _
    refine w_name n2 rfl ?_
    repeat (first | wtm_at "w" | wtm_at "u")
    refine ⟨q, z, p, u, ⟨#[c]⟩, rfl, hz, ?_⟩
    unfold tkA at h
    have hc : (⟨#[c]⟩ : Str).cps.toList = [c] := rfl
    rw [hc]
    unfold tk1
    by_cases e : sg z p = some c
    · rw [if_pos e] at h
      rw [e]
      dsimp only
      rw [if_pos (List.mem_singleton.mpr rfl)]
      repeat (first | wtm_at "w" | wtm_at "u")
      exact rta_go hz r (p + 1) _ trivial h
    · rw [if_neg e] at h
      have : (match sg z p with | some d => if d ∈ [c] then Rr.ok (.str ⟨#[d]⟩) (p + 1) u else .bad p | none => .bad p) = .bad p := by
        cases e2 : sg z p with
        | none => rfl
        | some d => dsimp only; rw [if_neg (fun z => e (by rw [e2, List.mem_singleton.mp z]))]
      rw [this]
      intro p' u'
      exact w_kBk rfl ⟨⟨rfl, trivial⟩, h p' u'⟩
theorem pure_rta (kf : KF K w) : ∀ sl P X, ps_rta K sl P X → p_Reader__take_all K (pxOf sl X) (ps_rtk K) (pdOf false sl P) (sl ++ nones 1) := by
  rintro sl P X ⟨q, z, p, u, s, rfl, hz, hs, h⟩
  show p_Reader__take_all _ _ _ _ [_, _, .none]
  unfold p_Reader__take_all
  repeat (first | wtm_at "w" | wtm_at "u")
  exact rta_go hz _ p _ trivial h
end
end Pu

namespace Pu
open PySem PySem.Spec PyProof.Rows L2 He Hk
section
variable {K : PySem.W.Frag} {w : World} {m : Nat}
local macro_rules | `(tactic| wtm_at "u") => `(tactic| first
  | ((with_reducible refine' w_fldO ?e1 ?e2 ?e3 ?e4 ?_); (case e1 => rfl); (case e2 => exact KF.c_Reader (by assumption)); (case e3 => first | exact KF.n_Reader_all_signs (by assumption) | exact KF.n_Reader_stands_at (by assumption) | exact KF.n_Reader_first_twice (by assumption)); (case e4 => rfl))
  | ((with_reducible refine' w_methO ?e1 ?e2 ?e3 ?_); (case e1 => rfl); (case e2 => rfl); (case e3 => exact List.Mem.head _))
  | ((with_reducible refine' w_methOX ?e1 ?e2 ?e3 ?_); (case e1 => rfl); (case e2 => rfl); (case e3 => exact List.Mem.head _))
  | ((with_reducible refine' w_cA' ?e1 ?e2 ?_); (case e1 => rfl); (case e2 => rfl))
  | ((with_reducible refine' w_cX' ?e1 ?e2 ?_); (case e1 => rfl); (case e2 => rfl)))
theorem sgS_one {o : Option Nat} {c : Nat} : sgS o = ⟨#[c]⟩ ↔ o = some c := by
  cases o with
  | none => exact ⟨fun h => (nomatch (congrArg (fun z : Str => z.cps.toList) h)), fun h => nomatch h⟩
  | some d => exact ⟨fun h => by have := congrArg (fun z : Str => z.cps.toList) h; simp [sgS] at this; rw [this], fun h => by cases h; rfl⟩
theorem sgS_nil {o : Option Nat} : sgS o = ⟨#[]⟩ ↔ o = none := by
  cases o with
  | none => exact ⟨fun _ => rfl, fun _ => rfl⟩
  | some d => exact ⟨fun h => (nomatch (congrArg (fun z : Str => z.cps.toList) h)), fun h => nomatch h⟩
theorem is_sg {o : Option Nat} {s : Str} {c : Nat} [Decidable (sgS o = s)] (h : s = ⟨#[c]⟩) : decide (sgS o = s) = decide (o = some c) := by subst h; exact decide_eq_decide.mpr sgS_one
theorem is_no {o : Option Nat} {s : Str} [Decidable (sgS o = s)] (h : s = ⟨#[]⟩) : decide (sgS o = s) = decide (o = none) := by subst h; exact decide_eq_decide.mpr sgS_nil
theorem figs_cps : ("0123456789" : Str).cps.toList = [48, 49, 50, 51, 52, 53, 54, 55, 56, 57] := by decide +kernel
theorem figs_in {c : Nat} : c ∈ ("0123456789" : Str).cps.toList ↔ 48 ≤ c ∧ c ≤ 57 := by
  rw [figs_cps]
  simp only [List.mem_cons, List.mem_nil_iff, or_false]
  omega
theorem figs1_cps : ("123456789" : Str).cps.toList = [49, 50, 51, 52, 53, 54, 55, 56, 57] := by decide +kernel
theorem figs1_in {c : Nat} : c ∈ ("123456789" : Str).cps.toList ↔ 49 ≤ c ∧ c ≤ 57 := by
  rw [figs1_cps]
  simp only [List.mem_cons, List.mem_nil_iff, or_false]
  omega
theorem rp_ok {P X : T → List Slot → Prop} {q : Addr} {z : Str} {as : List Slot} {t : T} {p : Nat} {u : Option Str} (h : P t (.ref q (rdT K z p u) :: as)) : RP K P X q z as (.ok t p u) := h
def figsR (z : Str) : Nat → List Nat → Nat → List Nat × Nat
  | 0, acc, p => (acc, p)
  | n + 1, acc, p => match sg z p with
    | some c => if 48 ≤ c ∧ c ≤ 57 then figsR z n (acc ++ [c]) (p + 1) else (acc, p)
    | none => (acc, p)
def numA (z : Str) (b : Bool) (p : Nat) (u : Option Str) : Rr := match sg z p with
  | some c => if 49 ≤ c ∧ c ≤ 57 then .ok (.int (if b = true then 0 - (NumText.digitsVal (figsR z 17 [c] (p + 1)).1 : Nat) else (NumText.digitsVal (figsR z 17 [c] (p + 1)).1 : Nat))) (figsR z 17 [c] (p + 1)).2 u else .bad p
  | none => .bad p
def numR (z : Str) (p : Nat) (u : Option Str) : Rr :=
  if sg z p = some 45 then numA z true (p + 1) u
  else if sg z p = some 48 then .ok (.int 0) (p + 1) u else numA z false p u
def AllF (cs : List Nat) : Prop := ∀ c, c ∈ cs → 48 ≤ c ∧ c ≤ 57
theorem int_of {cs : List Nat} (h : AllF cs) (h1 : cs ≠ []) (h2 : cs.length ≤ 4300) : PySem.intText? (⟨cs.toArray⟩ : Str) = some ((NumText.digitsVal cs : Nat) : Int) := by
  have := PySem.intText_digits (x := (⟨cs.toArray⟩ : Str)) (fun c hc => h c (by simpa using hc)) (by simpa using h1) (by show cs.toArray.size ≤ _; simpa using h2)
  simpa using this
theorem u_ahead {q : Addr} {z : Str} {p : Nat} {u : Option Str} {P : T → List Slot → Prop} (hz : z.length ≤ 16000000) (h : P (.str (sgS (sg z p))) [.ref q (rdT K z p u)]) : ps_ahead K [.ref q (rdT K z p u)] P := ⟨q, z, p, u, rfl, hz, h⟩
theorem u_rtk {q : Addr} {z s : Str} {p : Nat} {u : Option Str} {P X : T → List Slot → Prop} (hz : z.length ≤ 16000000) (h : RP K P X q z [.val (.str s)] (tk1 z s.cps.toList p u)) : ps_rtk K [.ref q (rdT K z p u), .val (.str s)] P X := ⟨q, z, p, u, s, rfl, hz, h⟩
theorem u_tkok {q : Addr} {z s : Str} {p c : Nat} {u : Option Str} {P X : T → List Slot → Prop} (hz : z.length ≤ 16000000) (e : sg z p = some c) (hc : c ∈ s.cps.toList) (h : P (.str ⟨#[c]⟩) [.ref q (rdT K z (p + 1) u), .val (.str s)]) : ps_rtk K [.ref q (rdT K z p u), .val (.str s)] P X := by
  refine u_rtk hz ?_
  unfold tk1
  rw [e]
  dsimp only
  rw [if_pos hc]
  exact h
theorem u_tkno {q : Addr} {z s : Str} {p : Nat} {u : Option Str} {P X : T → List Slot → Prop} (hz : z.length ≤ 16000000) (hc : ∀ c, sg z p = some c → c ∉ s.cps.toList) (h : ∀ p' u', X (badT K p) [.ref q (rdT K z p' u'), .val (.str s)]) : ps_rtk K [.ref q (rdT K z p u), .val (.str s)] P X := by
  refine u_rtk hz ?_
  unfold tk1
  cases e : sg z p with
  | none => exact h
  | some c => dsimp only; rw [if_neg (hc c e)]; exact h
local macro_rules | `(tactic| wtm_at "u") => `(tactic| ((with_reducible refine' u_ahead ?a1 ?_); (case a1 => assumption)))
theorem figsR_end {z : Str} {n p : Nat} {acc : List Nat} (h : n = 0 ∨ ∀ c, sg z p = some c → ¬ (48 ≤ c ∧ c ≤ 57)) : figsR z n acc p = (acc, p) := by
  cases n with
  | zero => rfl
  | succ n =>
    rcases h with h | h
    · cases h
    · unfold figsR
      cases e : sg z p with
      | none => rfl
      | some c => dsimp only; rw [if_neg (h c e)]
def ps_rnum (K : PySem.W.Frag) : PSpX := fun sl P X => ∃ (q : Addr) (z : Str) (p : Nat) (u : Option Str), sl = [.ref q (rdT K z p u)] ∧ z.length ≤ 16000000 ∧ RP K P X q z [] (numR z p u)
def numTail (K : PySem.W.Frag) (X : PX) : PS :=
  (pSeq (pAsg (pMethOX 0 "take" [(ga K "Reader", ps_rtk K)] X (pCons (pSl (pC (.str "0123456789")) (pPart (pC (.int 1))) pNoPart) pNil)) (pgName 2))
    (pSeq (pWhile (pAnd (pTest (pOp Pu.oNe (pCons (pMethO 0 "ahead" [(ga K "Reader", ps_ahead K)] pNil) (pCons (pC (.str "")) pNil)))) (pAnd (pTest (pOp Pu.oIn (pCons (pMethO 0 "ahead" [(ga K "Reader", ps_ahead K)] pNil) (pCons (pC (.str "0123456789")) pNil)))) (pTest (pOp Pu.oLt (pCons (pOp Pu.oLen (pConsV 2 pNil)) (pCons (pC (.int 18)) pNil)))))) (pAsg (pOp Pu.oAdd (pConsV 2 (pCons (pMethOX 0 "take" [(ga K "Reader", ps_rtk K)] X (pCons (pC (.str "0123456789")) pNil)) pNil))) (pgName 2)))
    (pRet (pIfE (pTest (pVar 1)) (pOp Pu.oSub (pCons (pC (.int 0)) (pCons (pOp Pu.oIntT (pConsV 2 pNil)) pNil))) (pOp Pu.oIntT (pConsV 2 pNil))))))
theorem num_tail {q : Addr} {z : Str} {p p0 : Nat} {u u0 : Option Str} {b : Bool} {P X : T → List Slot → Prop} {D : PD} (hD : D.rt = (pdOf false [.ref q (rdT K z p0 u0)] P).rt) (kf : KF K w) (hz : z.length ≤ 16000000) (h : RP K P X q z [] (numA z b p u)) :
    numTail K (pxOf [.ref q (rdT K z p0 u0)] X) D [.ref q (rdT K z p u), .val (.bl b), .none] := by
  unfold numTail
  repeat (first | wtm_at "w" | wtm_at "u")
  rw [show cutS ("0123456789" : Str) (some 1) none = "123456789" by decide +kernel]
  refine ⟨q, z, p, u, _, rfl, hz, ?_⟩
  unfold tk1
  unfold numA at h
  cases e : sg z p with
  | none =>
    rw [e] at h
    intro p' u'
    exact w_kBk rfl ⟨⟨rfl, trivial⟩, h p' u'⟩
  | some c =>
    rw [e] at h
    dsimp only at h ⊢
    by_cases hc : 49 ≤ c ∧ c ≤ 57
    · rw [if_pos hc] at h
      rw [if_pos (figs1_in.mpr hc)]
      refine rp_ok ?_
      repeat (first | wtm_at "w" | wtm_at "u")
      generalize hR : figsR z 17 [c] (p + 1) = R at h
      refine ⟨fun m env => ∃ (acc : List Nat) (p1 : Nat), env = [.ref q (rdT K z p1 u), .val (.bl b), .val (.str ⟨acc.toArray⟩)] ∧ acc.length + m = 18 ∧ AllF acc ∧ acc ≠ [] ∧ figsR z m acc p1 = R, ⟨17, [c], p + 1, rfl, rfl, fun d hd => by rw [show d = c from by simpa using hd]; omega, by simp, hR⟩, ?_⟩
      rintro m env ⟨acc, p1, rfl, hl, ha, hne, hf⟩
      have hal : (⟨acc.toArray⟩ : Str).length = acc.length := by show acc.toArray.size = _; simp
      have fin : R = (acc, p1) → D.rt (if b = true then T.int (0 - (NumText.digitsVal acc : Nat)) else T.int (NumText.digitsVal acc : Nat)) [.ref q (rdT K z p1 u), .val (.bl b), .val (.str ⟨acc.toArray⟩)] := fun e => by
        rw [hD]
        subst e
        have h' : P (T.int (if b = true then 0 - (NumText.digitsVal acc : Nat) else (NumText.digitsVal acc : Nat))) [.ref q (rdT K z p1 u)] := h
        refine ⟨⟨rfl, trivial⟩, ?_⟩
        cases b <;> exact h'
      have hi := int_of ha hne (by omega)
      repeat (first | wtm_at "w" | wtm_at "u")
      have out : R = (acc, p1) → ∀ env, env = [.ref q (rdT K z p1 u), .val (.bl b), .val (.str ⟨acc.toArray⟩)] → pRet (pIfE (pTest (pVar 1)) (pOp Pu.oSub (pCons (pC (.int 0)) (pCons (pOp Pu.oIntT (pConsV 2 pNil)) pNil))) (pOp Pu.oIntT (pConsV 2 pNil))) D env := by
        rintro e env rfl
        have f := fin e
        cases b with
        | true =>
          repeat (first | wtm_at "w" | wtm_at "u")
          refine v_intT (by omega) hi ?_
          repeat (first | wtm_at "w" | wtm_at "u")
          exact f
        | false =>
          repeat (first | wtm_at "w" | wtm_at "u")
          refine v_intT (by omega) hi ?_
          exact f
      rw [is_no (by rfl)]
      cases e2 : sg z p1 with
      | none =>
        rw [decide_eq_true rfl]
        repeat (first | wtm_at "w" | wtm_at "u")
        exact out (by rw [← hf]; exact figsR_end (.inr fun c hc => by rw [e2] at hc; cases hc)) _ rfl
      | some d =>
        rw [decide_eq_false (fun z => nomatch z)]
        repeat (first | wtm_at "w" | wtm_at "u")
        rw [e2, show sgS (some d) = ⟨#[d]⟩ from rfl]
        repeat (first | wtm_at "w" | wtm_at "u")
        by_cases hd : d ∈ ("0123456789" : Str).cps.toList
        · rw [decide_eq_true hd]
          repeat (first | wtm_at "w" | wtm_at "u")
          rw [hal]
          refine iteB (fun c1 => ?_) (fun c1 => ?_)
          · have c1 : (acc.length : Int) < 18 := of_decide_eq_true c1
            obtain ⟨m, rfl⟩ : ∃ k, m = k + 1 := ⟨m - 1, by omega⟩
            have hd2 := figs_in.mp hd
            refine ⟨fun env => ∃ (acc' : List Nat) (p2 : Nat), env = [.ref q (rdT K z p2 u), .val (.bl b), .val (.str ⟨acc'.toArray⟩)] ∧ acc'.length + m = 18 ∧ AllF acc' ∧ acc' ≠ [] ∧ figsR z m acc' p2 = R, fun env' h => ⟨m, by omega, h⟩, ?_⟩
            repeat (first | wtm_at "w" | wtm_at "u")
            refine u_tkok hz e2 hd ?_
            repeat (first | wtm_at "w" | wtm_at "u")
            refine ⟨acc ++ [d], p1 + 1, ?_, by rw [List.length_append]; show acc.length + 1 + m = 18; omega, fun c hc => ?_, by simp, ?_⟩
            · rw [show (⟨acc.toArray⟩ : Str) ++ ⟨#[d]⟩ = ⟨(acc ++ [d]).toArray⟩ from by
                show (⟨acc.toArray ++ #[d]⟩ : Str) = _
                simp]
            · rcases List.mem_append.mp hc with e | e
              · exact ha c e
              · rw [show c = d from by simpa using e]; exact hd2
            · rw [← hf]
              conv => rhs; unfold figsR
              rw [e2]
              dsimp only
              rw [if_pos hd2]
          · have c1 : ¬ (acc.length : Int) < 18 := of_decide_eq_false c1
            exact out (by rw [← hf]; exact figsR_end (.inl (by omega))) _ rfl
        · rw [decide_eq_false hd]
          repeat (first | wtm_at "w" | wtm_at "u")
          exact out (by rw [← hf]; exact figsR_end (.inr fun c hc h1 => hd (by rw [e2] at hc; cases hc; exact figs_in.mpr h1))) _ rfl
    · rw [if_neg hc] at h
      rw [if_neg (fun z => hc (figs1_in.mp z))]
      intro p' u'
      exact w_kBk rfl ⟨⟨rfl, trivial⟩, h p' u'⟩
theorem pure_rnum (kf : KF K w) : ∀ sl P X, ps_rnum K sl P X → p_Reader__read_number K (pxOf sl X) (ps_ahead K) (ps_rtk K) (pdOf false sl P) (sl ++ nones 2) := by
  rintro sl P X ⟨q, z, p, u, rfl, hz, h⟩
  show p_Reader__read_number _ _ _ _ _ [_, .none, .none]
  unfold p_Reader__read_number
  show pSeq _ (pSeq _ (pSeq _ (numTail K _))) _ _
  unfold numR at h
  repeat (first | wtm_at "w" | wtm_at "u")
  rw [is_sg (c := 45) (by rfl)]
  by_cases e : sg z p = some 45
  · rw [if_pos e] at h
    rw [decide_eq_true e]
    repeat (first | wtm_at "w" | wtm_at "u")
    refine u_tkok hz e (by decide +kernel) ?_
    repeat (first | wtm_at "w" | wtm_at "u")
    refine iteB (fun c => ?_) (fun c => ?_)
    · repeat (first | wtm_at "w" | wtm_at "u")
      exact num_tail rfl kf hz h
    · repeat (first | wtm_at "w" | wtm_at "u")
      exact num_tail rfl kf hz h
  · rw [if_neg e] at h
    rw [decide_eq_false e]
    repeat (first | wtm_at "w" | wtm_at "u")
    rw [is_sg (c := 48) (by rfl)]
    by_cases e1 : sg z p = some 48
    · rw [if_pos e1] at h
      rw [decide_eq_true e1]
      repeat (first | wtm_at "w" | wtm_at "u")
      refine u_tkok hz e1 (by decide +kernel) ?_
      repeat (first | wtm_at "w" | wtm_at "u")
      exact ⟨⟨rfl, trivial⟩, h⟩
    · rw [if_neg e1] at h
      rw [decide_eq_false e1]
      repeat (first | wtm_at "w" | wtm_at "u")
      exact num_tail rfl kf hz h
end
end Pu

namespace Pu
open PySem PySem.Spec PyProof.Rows L2 He Hk
section
variable {K : PySem.W.Frag} {w : World} {m : Nat}
local macro_rules | `(tactic| wtm_at "u") => `(tactic| first
  | ((with_reducible refine' w_fldO ?e1 ?e2 ?e3 ?e4 ?_); (case e1 => rfl); (case e2 => exact KF.c_Reader (by assumption)); (case e3 => first | exact KF.n_Reader_all_signs (by assumption) | exact KF.n_Reader_stands_at (by assumption) | exact KF.n_Reader_first_twice (by assumption)); (case e4 => rfl))
  | ((with_reducible refine' w_methO ?e1 ?e2 ?e3 ?_); (case e1 => rfl); (case e2 => rfl); (case e3 => exact List.Mem.head _))
  | ((with_reducible refine' w_methOX ?e1 ?e2 ?e3 ?_); (case e1 => rfl); (case e2 => rfl); (case e3 => exact List.Mem.head _))
  | ((with_reducible refine' w_cA' ?e1 ?e2 ?_); (case e1 => rfl); (case e2 => rfl))
  | ((with_reducible refine' w_cX' ?e1 ?e2 ?_); (case e1 => rfl); (case e2 => rfl))
  | ((with_reducible refine' u_ahead ?a1 ?_); (case a1 => assumption)))
def signB (c : Nat) : Bool := decide (32 ≤ c) && (decide (c ≤ 126) && !decide (c = 37))
def ps_sign : PSp := fun sl P => ∃ c : Nat, sl = [.val (.str ⟨#[c]⟩)] ∧ P (.bl (signB c)) [.val (.str ⟨#[c]⟩)]
theorem lt_one {a b : Nat} : decide ([a] < [b]) = decide (a < b) := decide_eq_decide.mpr (by simp [List.cons_lt_cons_iff])
theorem pure_sign : ∀ sl P, ps_sign sl P → p_is_sign (pdOf false sl P) (sl ++ nones 0) := by
  rintro sl P ⟨c, rfl, h⟩
  show p_is_sign _ [_]
  unfold p_is_sign
  unfold signB at h
  repeat (first | wtm_at "w" | wtm_at "u")
  refine v_leS ?_
  rw [show ((⟨#[c]⟩ : Str).cps.toList) = [c] from rfl, show ((" " : Str).cps.toList) = [32] by decide +kernel, lt_one]
  repeat (first | wtm_at "w" | wtm_at "u")
  by_cases c1 : c < 32
  · rw [decide_eq_true c1]
    rw [decide_eq_false (by omega : ¬ 32 ≤ c)] at h
    repeat (first | wtm_at "w" | wtm_at "u")
    exact ⟨trivial, h⟩
  · rw [decide_eq_false c1]
    rw [decide_eq_true (by omega : 32 ≤ c)] at h
    repeat (first | wtm_at "w" | wtm_at "u")
    refine v_leS ?_
    rw [show ((⟨#[c]⟩ : Str).cps.toList) = [c] from rfl, show (("~" : Str).cps.toList) = [126] by decide +kernel, lt_one]
    by_cases c2 : 126 < c
    · rw [decide_eq_true c2]
      rw [decide_eq_false (by omega : ¬ c ≤ 126)] at h
      repeat (first | wtm_at "w" | wtm_at "u")
      exact ⟨trivial, h⟩
    · rw [decide_eq_false c2]
      rw [decide_eq_true (by omega : c ≤ 126)] at h
      repeat (first | wtm_at "w" | wtm_at "u")
      refine v_ord rfl ?_
      repeat (first | wtm_at "w" | wtm_at "u")
      rw [show ((⟨#[c]⟩ : Str).cps.getD 0 0) = c from rfl]
      have e : decide ((c : Int) = 37) = decide (c = 37) := decide_eq_decide.mpr (by omega)
      rw [e]
      exact ⟨trivial, h⟩
def endsB (z : Str) (n p : Nat) : Bool := decide (sg z p = some 34) && (!decide (sg z (p + 1) = some 34) || decide (n = 40))
def ps_rends (K : PySem.W.Frag) : PSp := fun sl P => ∃ (q : Addr) (z : Str) (p : Nat) (u : Option Str) (s : Str), sl = [.ref q (rdT K z p u), .val (.str s)] ∧ z.length ≤ 16000000 ∧ s.length ≤ 1000 ∧ P (.bl (endsB z s.length p)) [.ref q (rdT K z p u), .val (.str s)]
theorem pure_rends (kf : KF K w) : ∀ sl P, ps_rends K sl P → p_Reader__ends K (ps_ahead K) (pdOf false sl P) (sl ++ nones 1) := by
  rintro sl P ⟨q, z, p, u, s, rfl, hz, hs, h⟩
  show p_Reader__ends _ _ _ [_, _, .none]
  unfold p_Reader__ends
  unfold endsB at h
  repeat (first | wtm_at "w" | wtm_at "u")
  rw [is_sg (c := 34) (by rfl)]
  by_cases e : sg z p = some 34
  · rw [decide_eq_true e] at h ⊢
    repeat (first | wtm_at "w" | wtm_at "u")
    have e2 : cutS z (some ((p : Int) + 1)) (some ((p : Int) + 2)) = sgS (sg z (p + 1)) := by
      rw [← cut_sg]; congr 2
    rw [e2, is_sg (c := 34) (by rfl)]
    by_cases e3 : sg z (p + 1) = some 34
    · rw [decide_eq_true e3] at h ⊢
      repeat (first | wtm_at "w" | wtm_at "u")
      have e4 : decide ((s.length : Int) = 40) = decide (s.length = 40) := decide_eq_decide.mpr (by omega)
      rw [e4]
      exact ⟨⟨rfl, trivial⟩, h⟩
    · rw [decide_eq_false e3] at h ⊢
      repeat (first | wtm_at "w" | wtm_at "u")
      exact ⟨⟨rfl, trivial⟩, h⟩
  · rw [decide_eq_false e] at h ⊢
    repeat (first | wtm_at "w" | wtm_at "u")
    exact ⟨⟨rfl, trivial⟩, h⟩
def qR (z : Str) : Nat → List Nat → Nat → Option Str → Rr
  | 0, acc, p, u => if sg z p = some 34 then .ok (.str ⟨acc.toArray⟩) (p + 1) u else .bad p
  | r + 1, acc, p, u => if sg z p = some 34 ∧ sg z (p + 1) ≠ some 34 then .ok (.str ⟨acc.toArray⟩) (p + 1) u
    else match sg z p with
      | some c => if signB c = true then qR z r (acc ++ [c]) (p + 1 + (if c = 34 then 1 else 0)) u else .bad p
      | none => .bad p
theorem qR_ends {z : Str} {m p : Nat} {acc : List Nat} {u : Option Str} (hl : acc.length + m = 40) (h : endsB z acc.length p = true) : qR z m acc p u = .ok (.str ⟨acc.toArray⟩) (p + 1) u ∧ sg z p = some 34 := by
  unfold endsB at h
  obtain ⟨h1, h2⟩ := Bool.and_eq_true_iff.mp h
  have h1 := of_decide_eq_true h1
  refine ⟨?_, h1⟩
  cases m with
  | zero => unfold qR; rw [if_pos h1]
  | succ r =>
    unfold qR
    rw [decide_eq_false (by omega : ¬ acc.length = 40), Bool.or_false] at h2
    rw [if_pos ⟨h1, fun e => by rw [decide_eq_true e] at h2; cases h2⟩]
theorem qR_go {z : Str} {m p : Nat} {acc : List Nat} {u : Option Str} (hl : acc.length + m = 40) (h : endsB z acc.length p = false) : (m = 0 → qR z m acc p u = .bad p) ∧ (sg z p = none → qR z m acc p u = .bad p) ∧ ∀ c r, sg z p = some c → m = r + 1 → qR z m acc p u = if signB c = true then qR z r (acc ++ [c]) (p + 1 + (if c = 34 then 1 else 0)) u else .bad p := by
  unfold endsB at h
  refine ⟨fun e => ?_, fun e => ?_, fun c r e e2 => ?_⟩
  · subst e
    rw [decide_eq_true (by omega : acc.length = 40), Bool.or_true, Bool.and_true] at h
    unfold qR
    rw [if_neg (of_decide_eq_false h)]
  · cases m with
    | zero => unfold qR; rw [if_neg (by rw [e]; exact fun z => nomatch z)]
    | succ r => unfold qR; rw [if_neg (by rw [e]; exact fun z => nomatch z.1), e]
  · subst e2
    rw [decide_eq_false (by omega : ¬ acc.length = 40), Bool.or_false] at h
    conv => lhs; unfold qR
    rw [if_neg (fun z => by rw [decide_eq_true z.1, decide_eq_false z.2] at h; cases h), e]
def quotR (z : Str) (p : Nat) (u : Option Str) : Rr := if sg z p = some 34 then qR z 40 [] (p + 1) u else .bad p
def ps_rquo (K : PySem.W.Frag) : PSpX := fun sl P X => ∃ (q : Addr) (z : Str) (p : Nat) (u : Option Str), sl = [.ref q (rdT K z p u)] ∧ z.length ≤ 16000000 ∧ RP K P X q z [] (quotR z p u)
theorem pure_rquo (kf : KF K w) : ∀ sl P X, ps_rquo K sl P X → p_Reader__read_quoted K (pxOf sl X) (ps_rtk K) (ps_rends K) (ps_ahead K) ps_sign (pdOf false sl P) (sl ++ nones 2) := by
  rintro sl P X ⟨q, z, p, u, rfl, hz, h⟩
  show p_Reader__read_quoted _ _ _ _ _ _ _ [_, .none, .none]
  unfold p_Reader__read_quoted
  unfold quotR at h
  repeat (first | wtm_at "w" | wtm_at "u")
  by_cases e : sg z p = some 34
  · rw [if_pos e] at h
    refine u_tkok hz e (by decide +kernel) ?_
    repeat (first | wtm_at "w" | wtm_at "u")
    have hl0 : ∀ acc : List Nat, (⟨acc.toArray⟩ : Str).length = acc.length := fun acc => by show acc.toArray.size = _; simp
    refine ⟨fun m env => ∃ (acc : List Nat) (p1 : Nat) (s2 : Slot), env = [.ref q (rdT K z p1 u), .val (.str ⟨acc.toArray⟩), s2] ∧ noRef [s2] 0 ∧ acc.length + m = 40 ∧ RP K P X q z [] (qR z m acc p1 u), ⟨40, [], p + 1, _, rfl, trivial, rfl, h⟩, ?_⟩
    clear h e
    rintro m env ⟨acc, p1, s2, rfl, n2, hl, h⟩
    have hal := hl0 acc
    repeat (first | wtm_at "w" | wtm_at "u")
    refine ⟨q, z, p1, u, _, rfl, hz, by omega, ?_⟩
    repeat (first | wtm_at "w" | wtm_at "u")
    rw [hal]
    cases hE : endsB z acc.length p1 with
    | true =>
      obtain ⟨g1, g2⟩ := qR_ends (u := u) hl hE
      rw [g1] at h
      repeat (first | wtm_at "w" | wtm_at "u")
      refine u_tkok hz g2 (by decide +kernel) ?_
      repeat (first | wtm_at "w" | wtm_at "u")
      exact ⟨⟨rfl, trivial⟩, h⟩
    | false =>
      obtain ⟨g0, g1, g2⟩ := qR_go (u := u) hl hE
      repeat (first | wtm_at "w" | wtm_at "u")
      refine ⟨fun env => ∃ m', m' < m ∧ ∃ (acc : List Nat) (p1 : Nat) (s2 : Slot), env = [.ref q (rdT K z p1 u), .val (.str ⟨acc.toArray⟩), s2] ∧ noRef [s2] 0 ∧ acc.length + m' = 40 ∧ RP K P X q z [] (qR z m' acc p1 u), fun env' h => h, ?_⟩
      repeat (first | wtm_at "w" | wtm_at "u")
      refine w_name n2 rfl ?_
      repeat (first | wtm_at "w" | wtm_at "u")
      rw [is_no (by rfl)]
      cases e2 : sg z p1 with
      | none =>
        rw [g1 e2] at h
        rw [decide_eq_true rfl]
        repeat (first | wtm_at "w" | wtm_at "u")
        exact ⟨⟨rfl, trivial⟩, h p1 u⟩
      | some c =>
        rw [decide_eq_false (fun z => nomatch z)]
        repeat (first | wtm_at "w" | wtm_at "u")
        rw [hal]
        have e4 : decide ((acc.length : Int) = 40) = decide (m = 0) := decide_eq_decide.mpr (by omega)
        rw [e4]
        by_cases e5 : m = 0
        · rw [g0 e5] at h
          rw [decide_eq_true e5]
          repeat (first | wtm_at "w" | wtm_at "u")
          exact ⟨⟨rfl, trivial⟩, h p1 u⟩
        · rw [decide_eq_false e5]
          obtain ⟨r, rfl⟩ : ∃ r, m = r + 1 := ⟨m - 1, by omega⟩
          rw [g2 c r e2 rfl] at h
          repeat (first | wtm_at "w" | wtm_at "u")
          rw [show sgS (some c) = ⟨#[c]⟩ from rfl]
          refine ⟨c, rfl, ?_⟩
          repeat (first | wtm_at "w" | wtm_at "u")
          cases hs : signB c with
          | false =>
            rw [hs, if_neg (by decide)] at h
            repeat (first | wtm_at "w" | wtm_at "u")
            exact ⟨⟨rfl, trivial⟩, h p1 u⟩
          | true =>
            rw [hs, if_pos rfl] at h
            repeat (first | wtm_at "w" | wtm_at "u")
            have e6 : ((p1 : Int) + 1 + if decide ((⟨#[c]⟩ : Str) = "\"") = true then 1 else 0) = ((p1 + 1 + (if c = 34 then 1 else 0) : Nat) : Int) := by
              by_cases e7 : c = 34
              · subst e7; rfl
              · rw [if_neg e7, if_neg (fun z => e7 (by
                  have := congrArg (fun z : Str => z.cps.toList) (of_decide_eq_true z)
                  have h2 : [c] = [34] := this
                  injection h2))]
                omega
            rw [e6]
            refine w_setAt kf rfl rfl ?_
            repeat (first | wtm_at "w" | wtm_at "u")
            refine ⟨r, by omega, acc ++ [c], p1 + 1 + (if c = 34 then 1 else 0), .val (.str ⟨#[c]⟩), ?_, trivial, by rw [List.length_append]; show acc.length + 1 + r = 40; omega, h⟩
            rw [show (⟨acc.toArray⟩ : Str) ++ ⟨#[c]⟩ = ⟨(acc ++ [c]).toArray⟩ from by
              show (⟨acc.toArray ++ #[c]⟩ : Str) = _
              simp]
  · rw [if_neg e] at h
    refine u_tkno hz (fun c hc hm => e ?_) ?_
    · rw [hc]
      have : c ∈ [34] := hm
      rw [List.mem_singleton.mp this]
    · intro p' u'
      exact w_kBk rfl ⟨⟨rfl, trivial⟩, h p' u'⟩
end
end Pu

namespace Pu
open PySem PySem.Spec PyProof.Rows L2 He Hk
section
variable {K : PySem.W.Frag} {w : World} {m : Nat}
local macro_rules | `(tactic| wtm_at "u") => `(tactic| first
  | ((with_reducible refine' w_fldO ?e1 ?e2 ?e3 ?e4 ?_); (case e1 => rfl); (case e2 => exact KF.c_Reader (by assumption)); (case e3 => first | exact KF.n_Reader_all_signs (by assumption) | exact KF.n_Reader_stands_at (by assumption) | exact KF.n_Reader_first_twice (by assumption)); (case e4 => rfl))
  | ((with_reducible refine' w_methO ?e1 ?e2 ?e3 ?_); (case e1 => rfl); (case e2 => rfl); (case e3 => exact List.Mem.head _))
  | ((with_reducible refine' w_methOX ?e1 ?e2 ?e3 ?_); (case e1 => rfl); (case e2 => rfl); (case e3 => exact List.Mem.head _))
  | ((with_reducible refine' w_cA' ?e1 ?e2 ?_); (case e1 => rfl); (case e2 => rfl))
  | ((with_reducible refine' w_cX' ?e1 ?e2 ?_); (case e1 => rfl); (case e2 => rfl))
  | ((with_reducible refine' u_ahead ?a1 ?_); (case a1 => assumption)))
abbrev Rf := Nat → Option Str → Rr
/-- what comes of reading fields so far -/
inductive Fr where
  | bad (p : Nat)
  | ok (kvs : List (Key × T)) (p : Nat) (u : Option Str)
def closeR (z : Str) (c : Nat) (t : T) (p : Nat) (u : Option Str) : Rr := if sg z p = some c then .ok t (p + 1) u else .bad p
def rowMore (f : Rf) (z : Str) : Nat → List T → Nat → Option Str → Rr
  | 0, acc, p, u => closeR z 93 (.lst acc) p u
  | n + 1, acc, p, u => if sg z p = some 44 then (match tkA z [44, 32] p u with
      | .bad b => .bad b
      | .ok _ p1 u1 => match f p1 u1 with
        | .bad b => .bad b
        | .ok t p2 u2 => rowMore f z n (acc ++ [t]) p2 u2) else closeR z 93 (.lst acc) p u
def rowR (n : Nat) (f : Rf) (z : Str) (p : Nat) (u : Option Str) : Rr :=
  if sg z p = some 91 then
    (if 0 < n ∧ sg z (p + 1) ≠ some 93 then (match f (p + 1) u with
      | .bad b => .bad b
      | .ok t p2 u2 => rowMore f z 5 [t] p2 u2) else closeR z 93 (.lst []) (p + 1) u)
  else .bad p
def isL (c : Nat) : Bool := decide (c ∈ letters.cps.toList)
def nameR (z : Str) : Nat → List Nat → Nat → Nat ⊕ (List Nat × Nat)
  | 0, acc, p => .inr (acc, p)
  | n + 1, acc, p => if sg z p = some 58 then .inr (acc, p) else match sg z p with
    | some c => if isL c = true then nameR z n (acc ++ [c]) (p + 1) else .inl p
    | none => .inl p
def twU (kvs : List (Key × T)) (s : Str) (u : Option Str) : Option Str := if hasT kvs (.inr s) = true ∧ u = none then some s else u
def fieldR (f : Rf) (z : Str) (kvs : List (Key × T)) (p : Nat) (u : Option Str) : Fr := match sg z p with
  | some c => if isL c = true then (match nameR z 7 [c] (p + 1) with
      | .inl b => .bad b
      | .inr (s, p1) => match tkA z [58, 32] p1 u with
        | .bad b => .bad b
        | .ok _ p2 _ => match f p2 (twU kvs ⟨s.toArray⟩ u) with
          | .bad b => .bad b
          | .ok t p3 u3 => .ok (putT kvs (.inr ⟨s.toArray⟩) t) p3 u3) else .bad p
  | none => .bad p
def fldMore (f : Rf) (z : Str) : Nat → List (Key × T) → Nat → Option Str → Rr
  | 0, kvs, p, u => closeR z 125 (.dct kvs) p u
  | n + 1, kvs, p, u => if sg z p = some 44 then (match tkA z [44, 32] p u with
      | .bad b => .bad b
      | .ok _ p1 u1 => match fieldR f z kvs p1 u1 with
        | .bad b => .bad b
        | .ok k2 p2 u2 => fldMore f z n k2 p2 u2) else fldMore f z n kvs p u
def fldsR (n : Nat) (f : Rf) (z : Str) (p : Nat) (u : Option Str) : Rr :=
  if sg z p = some 123 then
    (if 0 < n ∧ sg z (p + 1) ≠ some 125 then (match fieldR f z [] (p + 1) u with
      | .bad b => .bad b
      | .ok k2 p2 u2 => fldMore f z 7 k2 p2 u2) else closeR z 125 (.dct []) (p + 1) u)
  else .bad p
def mapR (t : T) : Rr → Rr
  | .bad b => .bad b
  | .ok _ p u => .ok t p u
def noR (z : Str) (p : Nat) (u : Option Str) : Rr := match tkA z [110, 111] p u with
  | .bad b => .bad b
  | .ok _ p1 u1 => if sg z p1 = some 116 then mapR .non (tkA z [116, 104, 105, 110, 103] p1 u1) else .ok (.bl false) p1 u1
def anyF (n : Nat) (f : Rf) (z : Str) (p : Nat) (u : Option Str) : Rr :=
  if sg z p = some 34 then quotR z p u else if sg z p = some 91 then rowR n f z p u else if sg z p = some 123 then fldsR n f z p u
  else if sg z p = some 121 then mapR (.bl true) (tkA z [121, 101, 115] p u) else if sg z p = some 110 then noR z p u else numR z p u
def anyR (z : Str) : Nat → Rf
  | 0 => anyF 0 (fun _ _ => .bad 0) z
  | n + 1 => anyF (n + 1) (anyR z n) z
def inR (z : Str) : Nat → Rf
  | 0 => fun _ _ => .bad 0
  | n + 1 => anyR z n
theorem anyR_eq (z : Str) (n : Nat) : anyR z n = anyF n (inR z n) z := by cases n <;> rfl
def lvT (n : Nat) : T := .int ((4 - n : Nat) : Int)
def ps_rany (K : PySem.W.Frag) (m : Nat) : PSpX := fun sl P X => ∃ (q : Addr) (z : Str) (p : Nat) (u : Option Str) (n : Nat), sl = [.ref q (rdT K z p u), .val (lvT n)] ∧ z.length ≤ 16000000 ∧ n ≤ 3 ∧ 3 * n + 3 ≤ m ∧ RP K P X q z [.val (lvT n)] (anyR z n p u)
def ps_rrow (K : PySem.W.Frag) (m : Nat) : PSpX := fun sl P X => ∃ (q : Addr) (z : Str) (p : Nat) (u : Option Str) (n : Nat), sl = [.ref q (rdT K z p u), .val (lvT n)] ∧ z.length ≤ 16000000 ∧ n ≤ 3 ∧ 3 * n + 2 ≤ m ∧ RP K P X q z [.val (lvT n)] (rowR n (inR z n) z p u)
def ps_rflds (K : PySem.W.Frag) (m : Nat) : PSpX := fun sl P X => ∃ (q : Addr) (z : Str) (p : Nat) (u : Option Str) (n : Nat), sl = [.ref q (rdT K z p u), .val (lvT n)] ∧ z.length ≤ 16000000 ∧ n ≤ 3 ∧ 3 * n + 2 ≤ m ∧ RP K P X q z [.val (lvT n)] (fldsR n (inR z n) z p u)
def FP (K : PySem.W.Frag) (P X : T → List Slot → Prop) (q qd : Addr) (z : Str) (as : List Slot) : Fr → Prop
  | .bad b => ∀ p u kvs, X (badT K b) (.ref q (rdT K z p u) :: .ref qd (.dct kvs) :: as)
  | .ok kvs p u => P .non (.ref q (rdT K z p u) :: .ref qd (.dct kvs) :: as)
def ps_rfld (K : PySem.W.Frag) (m : Nat) : PSpX := fun sl P X => ∃ (q qd : Addr) (z : Str) (p : Nat) (u : Option Str) (n : Nat) (kvs : List (Key × T)), sl = [.ref q (rdT K z p u), .ref qd (.dct kvs), .val (lvT (n + 1))] ∧ z.length ≤ 16000000 ∧ n ≤ 2 ∧ kvs.length ≤ 100 ∧ 3 * n + 4 ≤ m ∧ FP K P X q qd z [.val (lvT (n + 1))] (fieldR (anyR z n) z kvs p u)
theorem no_rany {sl : List Slot} {P X : T → List Slot → Prop} (h : ps_rany K 0 sl P X) : False := by obtain ⟨_, _, _, _, _, _, _, _, h, _⟩ := h; omega
theorem no_rrow {sl : List Slot} {P X : T → List Slot → Prop} (h : ps_rrow K 0 sl P X) : False := by obtain ⟨_, _, _, _, _, _, _, _, h, _⟩ := h; omega
theorem no_rflds {sl : List Slot} {P X : T → List Slot → Prop} (h : ps_rflds K 0 sl P X) : False := by obtain ⟨_, _, _, _, _, _, _, _, h, _⟩ := h; omega
theorem no_rfld {sl : List Slot} {P X : T → List Slot → Prop} (h : ps_rfld K 0 sl P X) : False := by obtain ⟨_, _, _, _, _, _, _, _, _, _, _, h, _⟩ := h; omega
theorem u_rta {q : Addr} {z s : Str} {p : Nat} {u : Option Str} {P X : T → List Slot → Prop} {cs : List Nat} (hz : z.length ≤ 16000000) (hs : s.cps.toList = cs) (hl : s.length ≤ 1000) (h : RP K P X q z [.val (.str s)] (tkA z cs p u)) : ps_rta K [.ref q (rdT K z p u), .val (.str s)] P X := by
  subst hs; exact ⟨q, z, p, u, s, rfl, hz, hl, h⟩
/-- of a reading inside another one: where it stops the outer stops -/
theorem rp_map {P' X' : T → List Slot → Prop} {q : Addr} {z : Str} {as' : List Slot} {r : Rr} (hb : ∀ b, r = .bad b → ∀ p u, X' (badT K b) (.ref q (rdT K z p u) :: as')) (ho : ∀ t p u, r = .ok t p u → P' t (.ref q (rdT K z p u) :: as')) : RP K P' X' q z as' r := by
  cases r with
  | bad b => exact hb b rfl
  | ok t p u => exact ho t p u rfl
theorem pure_rany (kf : KF K w) : ∀ sl P X, ps_rany K (m + 1) sl P X → p_Reader__read_any K (pxOf sl X) (ps_ahead K) (ps_rquo K) (ps_rrow K m) (ps_rflds K m) (ps_rta K) (ps_rnum K) (pdOf false sl P) (sl ++ nones 1) := by
  rintro sl P X ⟨q, z, p, u, n, rfl, hz, hn, hm, h⟩
  show p_Reader__read_any _ _ _ _ _ _ _ _ _ [_, _, .none]
  unfold p_Reader__read_any
  rw [anyR_eq] at h
  unfold anyF at h
  repeat (first | wtm_at "w" | wtm_at "u")
  rw [is_sg (c := 34) (by rfl)]
  by_cases e0 : sg z p = some 34
  · rw [if_pos e0] at h
    rw [decide_eq_true e0]
    repeat (first | wtm_at "w" | wtm_at "u")
    refine ⟨q, z, p, u, rfl, hz, rp_map (fun b e p' u' => w_kBk rfl ?_) fun t p' u' e => w_kBk rfl ?_⟩
    · rw [e] at h
      exact ⟨⟨rfl, trivial⟩, h p' u'⟩
    · rw [e] at h
      exact ⟨⟨rfl, trivial⟩, h⟩
  rw [if_neg e0] at h
  rw [decide_eq_false e0]
  repeat (first | wtm_at "w" | wtm_at "u")
  rw [is_sg (c := 91) (by rfl)]
  by_cases e1 : sg z p = some 91
  · rw [if_pos e1] at h
    rw [decide_eq_true e1]
    repeat (first | wtm_at "w" | wtm_at "u")
    refine ⟨q, z, p, u, n, rfl, hz, hn, by omega, rp_map (fun b e p' u' => w_kBk rfl ?_) fun t p' u' e => w_kBk rfl ?_⟩
    · rw [e] at h
      exact ⟨⟨rfl, trivial⟩, h p' u'⟩
    · rw [e] at h
      exact ⟨⟨rfl, trivial⟩, h⟩
  rw [if_neg e1] at h
  rw [decide_eq_false e1]
  repeat (first | wtm_at "w" | wtm_at "u")
  rw [is_sg (c := 123) (by rfl)]
  by_cases e2 : sg z p = some 123
  · rw [if_pos e2] at h
    rw [decide_eq_true e2]
    repeat (first | wtm_at "w" | wtm_at "u")
    refine ⟨q, z, p, u, n, rfl, hz, hn, by omega, rp_map (fun b e p' u' => w_kBk rfl ?_) fun t p' u' e => w_kBk rfl ?_⟩
    · rw [e] at h
      exact ⟨⟨rfl, trivial⟩, h p' u'⟩
    · rw [e] at h
      exact ⟨⟨rfl, trivial⟩, h⟩
  rw [if_neg e2] at h
  rw [decide_eq_false e2]
  repeat (first | wtm_at "w" | wtm_at "u")
  rw [is_sg (c := 121) (by rfl)]
  by_cases e3 : sg z p = some 121
  · rw [if_pos e3] at h
    rw [decide_eq_true e3]
    repeat (first | wtm_at "w" | wtm_at "u")
    refine u_rta (cs := [121, 101, 115]) hz (by decide +kernel) (by decide) (rp_map (fun b e p' u' => w_kBk rfl ?_) fun t p' u' e => ?_)
    · rw [e] at h
      exact ⟨⟨rfl, trivial⟩, h p' u'⟩
    · rw [e] at h
      repeat (first | wtm_at "w" | wtm_at "u")
      exact ⟨⟨rfl, trivial⟩, h⟩
  rw [if_neg e3] at h
  rw [decide_eq_false e3]
  repeat (first | wtm_at "w" | wtm_at "u")
  rw [is_sg (c := 110) (by rfl)]
  by_cases e4 : sg z p = some 110
  · rw [if_pos e4] at h
    rw [decide_eq_true e4]
    unfold noR at h
    repeat (first | wtm_at "w" | wtm_at "u")
    refine u_rta (cs := [110, 111]) hz (by decide +kernel) (by decide) (rp_map (fun b e p' u' => w_kBk rfl ?_) fun t p1 u1 e => ?_)
    · rw [e] at h
      exact ⟨⟨rfl, trivial⟩, h p' u'⟩
    · rw [e] at h
      dsimp only at h
      repeat (first | wtm_at "w" | wtm_at "u")
      rw [is_sg (c := 116) (by rfl)]
      by_cases e5 : sg z p1 = some 116
      · rw [if_pos e5] at h
        rw [decide_eq_true e5]
        repeat (first | wtm_at "w" | wtm_at "u")
        refine u_rta (cs := [116, 104, 105, 110, 103]) hz (by decide +kernel) (by decide) (rp_map (fun b e p' u' => w_kBk rfl ?_) fun t p' u' e => ?_)
        · rw [e] at h
          exact ⟨⟨rfl, trivial⟩, h p' u'⟩
        · rw [e] at h
          repeat (first | wtm_at "w" | wtm_at "u")
          exact ⟨⟨rfl, trivial⟩, h⟩
      · rw [if_neg e5] at h
        rw [decide_eq_false e5]
        repeat (first | wtm_at "w" | wtm_at "u")
        exact ⟨⟨rfl, trivial⟩, h⟩
  rw [if_neg e4] at h
  rw [decide_eq_false e4]
  repeat (first | wtm_at "w" | wtm_at "u")
  refine ⟨q, z, p, u, rfl, hz, rp_map (fun b e p' u' => w_kBk rfl ?_) fun t p' u' e => w_kBk rfl ?_⟩
  · rw [e] at h
    exact ⟨⟨rfl, trivial⟩, h p' u'⟩
  · rw [e] at h
    exact ⟨⟨rfl, trivial⟩, h⟩
theorem v_lv {n : Nat} {R : T → Prop} (hn : n ≤ 4) (h : R (.bl (decide (0 < n)))) : oLt [lvT n, .int 4] R := by
  refine v_lt ?_
  rw [show decide (((4 - n : Nat) : Int) < 4) = decide (0 < n) from decide_eq_decide.mpr (by omega)]
  exact h
theorem v_lvS {n : Nat} {R : T → Prop} (hn : n ≤ 3) (h : R (lvT n)) : oAdd [lvT (n + 1), .int 1] R := by
  refine v_addI ?_
  rw [show (((4 - (n + 1) : Nat) : Int) + 1) = ((4 - n : Nat) : Int) by omega]
  exact h
def rdTail (K : PySem.W.Frag) (X : PX) (s : Str) : PS := pSeq (pDrop (pMethOX 0 "take" [(ga K "Reader", ps_rtk K)] X (pCons (pC (.str s)) pNil))) (pRet (pVar 2))
theorem rd_close {q a : Addr} {z s : Str} {p p0 c n : Nat} {u u0 : Option Str} {t : T} {r : Env} {P X : T → List Slot → Prop} (hz : z.length ≤ 16000000) (hs : s.cps.toList = [c]) (h : RP K P X q z [.val (lvT n)] (closeR z c t p u)) :
    rdTail K (pxOf [.ref q (rdT K z p0 u0), .val (lvT n)] X) s (pdOf false [.ref q (rdT K z p0 u0), .val (lvT n)] P) (.ref q (rdT K z p u) :: .val (lvT n) :: .own a t :: r) := by
  unfold closeR at h
  unfold rdTail
  repeat (first | wtm_at "w" | wtm_at "u")
  by_cases e : sg z p = some c
  · rw [if_pos e] at h
    refine u_tkok hz e (by rw [hs]; exact List.mem_singleton.mpr rfl) ?_
    repeat (first | wtm_at "w" | wtm_at "u")
    exact ⟨⟨rfl, trivial⟩, h⟩
  · rw [if_neg e] at h
    refine u_tkno hz (fun d hd hm => e ?_) fun p' u' => w_kBk rfl ⟨⟨rfl, trivial⟩, h p' u'⟩
    rw [hs] at hm
    rw [hd, List.mem_singleton.mp hm]
theorem pure_rrow (kf : KF K w) : ∀ sl P X, ps_rrow K (m + 1) sl P X → p_Reader__read_row K (pxOf sl X) (ps_rtk K) (ps_ahead K) (ps_rany K m) (ps_rta K) (pdOf false sl P) (sl ++ nones 1) := by
  rintro sl P X ⟨q, z, p, u, n, rfl, hz, hn, hm, h⟩
  show p_Reader__read_row _ _ _ _ _ _ _ [_, _, .none]
  unfold p_Reader__read_row
  show pSeq _ (pSeq _ (pSeq _ (rdTail K _ "]"))) _ _
  unfold rowR at h
  repeat (first | wtm_at "w" | wtm_at "u")
  by_cases e0 : sg z p = some 91
  · rw [if_pos e0] at h
    refine u_tkok hz e0 (by decide +kernel) ?_
    repeat (first | wtm_at "w" | wtm_at "u")
    refine v_lv (by omega) ?_
    repeat (first | wtm_at "w" | wtm_at "u")
    cases n with
    | zero =>
      rw [if_neg (fun z => absurd z.1 (by decide))] at h
      rw [decide_eq_false (by decide)]
      repeat wtm_at "w"
      exact rd_close hz (by decide +kernel) h
    | succ n =>
      rw [decide_eq_true (Nat.succ_pos n)]
      repeat (first | wtm_at "w" | wtm_at "u")
      rw [is_sg (c := 93) (by rfl)]
      by_cases e1 : sg z (p + 1) = some 93
      · rw [if_neg (fun z => absurd e1 z.2)] at h
        rw [decide_eq_true e1]
        repeat wtm_at "w"
        exact rd_close hz (by decide +kernel) h
      · rw [if_pos ⟨Nat.succ_pos n, e1⟩] at h
        rw [decide_eq_false e1]
        repeat (first | wtm_at "w" | wtm_at "u")
        refine v_lvS (by omega) ?_
        repeat (first | wtm_at "w" | wtm_at "u")
        refine ⟨q, z, p + 1, u, n, rfl, hz, by omega, by omega, rp_map (fun b e p' u' => w_kBk rfl ?_) fun t p2 u2 e => ?_⟩
        · rw [show inR z (n + 1) = anyR z n from rfl, e] at h
          exact ⟨⟨rfl, trivial⟩, h p' u'⟩
        · rw [show inR z (n + 1) = anyR z n from rfl, e] at h
          dsimp only at h
          repeat (first | wtm_at "w" | wtm_at "u")
          clear e e1 e0
          rename_i a
          refine ⟨fun k env => ∃ (acc : List T) (p1 : Nat) (u1 : Option Str), env = [.ref q (rdT K z p1 u1), .val (lvT (n + 1)), .own a (.lst acc)] ∧ acc.length + k = 6 ∧ RP K P X q z [.val (lvT (n + 1))] (rowMore (anyR z n) z k acc p1 u1), ⟨5, [t], p2, u2, rfl, rfl, h⟩, ?_⟩
          clear h
          rintro k env ⟨acc, p1, u1, rfl, hl, h⟩
          repeat (first | wtm_at "w" | wtm_at "u")
          rw [show decide ((acc.length : Int) < 6) = decide (0 < k) from decide_eq_decide.mpr (by omega)]
          cases k with
          | zero =>
            rw [decide_eq_false (by decide)]
            repeat (first | wtm_at "w" | wtm_at "u")
            exact rd_close hz (by decide +kernel) h
          | succ k =>
            rw [decide_eq_true (Nat.succ_pos k)]
            unfold rowMore at h
            repeat (first | wtm_at "w" | wtm_at "u")
            rw [is_sg (c := 44) (by rfl)]
            by_cases e : sg z p1 = some 44
            · rw [if_pos e] at h
              rw [decide_eq_true e]
              repeat (first | wtm_at "w" | wtm_at "u")
              refine ⟨fun env => ∃ k', k' < k + 1 ∧ ∃ (acc : List T) (p1 : Nat) (u1 : Option Str), env = [.ref q (rdT K z p1 u1), .val (lvT (n + 1)), .own a (.lst acc)] ∧ acc.length + k' = 6 ∧ RP K P X q z [.val (lvT (n + 1))] (rowMore (anyR z n) z k' acc p1 u1), fun env' h => h, ?_⟩
              repeat (first | wtm_at "w" | wtm_at "u")
              refine u_rta (cs := [44, 32]) hz (by decide +kernel) (by decide) (rp_map (fun b e p' u' => w_kBk rfl ?_) fun t0 p3 u3 e => ?_)
              · rw [e] at h
                exact ⟨⟨rfl, trivial⟩, h p' u'⟩
              · rw [e] at h
                dsimp only at h
                repeat (first | wtm_at "w" | wtm_at "u")
                refine v_lvS (by omega) ?_
                repeat (first | wtm_at "w" | wtm_at "u")
                refine ⟨q, z, p3, u3, n, rfl, hz, by omega, by omega, rp_map (fun b e p' u' => w_kBk rfl ?_) fun t p4 u4 e => ?_⟩
                · rw [e] at h
                  exact ⟨⟨rfl, trivial⟩, h p' u'⟩
                · rw [e] at h
                  dsimp only at h
                  repeat (first | wtm_at "w" | wtm_at "u")
                  exact ⟨k, by omega, acc ++ [t], p4, u4, rfl, by rw [List.length_append]; show acc.length + 1 + k = 6; omega, h⟩
            · rw [if_neg e] at h
              rw [decide_eq_false e]
              repeat (first | wtm_at "w" | wtm_at "u")
              exact rd_close hz (by decide +kernel) h
  · rw [if_neg e0] at h
    refine u_tkno hz (fun c hc hm => e0 ?_) ?_
    · rw [hc]
      have : c ∈ [91] := hm
      rw [List.mem_singleton.mp this]
    · intro p' u'
      exact w_kBk rfl ⟨⟨rfl, trivial⟩, h p' u'⟩
end
end Pu

namespace Pu
open PySem PySem.Spec PyProof.Rows L2 He Hk
section
variable {K : PySem.W.Frag} {w : World} {m : Nat}
local macro_rules | `(tactic| wtm_at "u") => `(tactic| first
  | ((with_reducible refine' w_fldO ?e1 ?e2 ?e3 ?e4 ?_); (case e1 => rfl); (case e2 => exact KF.c_Reader (by assumption)); (case e3 => first | exact KF.n_Reader_all_signs (by assumption) | exact KF.n_Reader_stands_at (by assumption) | exact KF.n_Reader_first_twice (by assumption)); (case e4 => rfl))
  | ((with_reducible refine' w_methO ?e1 ?e2 ?e3 ?_); (case e1 => rfl); (case e2 => rfl); (case e3 => exact List.Mem.head _))
  | ((with_reducible refine' w_methOX ?e1 ?e2 ?e3 ?_); (case e1 => rfl); (case e2 => rfl); (case e3 => exact List.Mem.head _))
  | ((with_reducible refine' w_cA' ?e1 ?e2 ?_); (case e1 => rfl); (case e2 => rfl))
  | ((with_reducible refine' w_cX' ?e1 ?e2 ?_); (case e1 => rfl); (case e2 => rfl))
  | ((with_reducible refine' u_ahead ?a1 ?_); (case a1 => assumption)))
theorem fp_map {P' X' : T → List Slot → Prop} {q qd : Addr} {z : Str} {as' : List Slot} {r : Fr} (hb : ∀ b, r = .bad b → ∀ p u kvs, X' (badT K b) (.ref q (rdT K z p u) :: .ref qd (.dct kvs) :: as')) (ho : ∀ kvs p u, r = .ok kvs p u → P' .non (.ref q (rdT K z p u) :: .ref qd (.dct kvs) :: as')) : FP K P' X' q qd z as' r := by
  cases r with
  | bad b => exact hb b rfl
  | ok t p u => exact ho t p u rfl
theorem put_len {kvs : List (Key × T)} {k : Key} {t : T} : (putT kvs k t).length ≤ kvs.length + 1 := by
  unfold putT
  split
  · rw [List.length_map]; omega
  · rw [List.length_append]; exact Nat.le_refl _
theorem field_len {f : Rf} {z : Str} {kvs k2 : List (Key × T)} {p p2 : Nat} {u u2 : Option Str} (h : fieldR f z kvs p u = .ok k2 p2 u2) : k2.length ≤ kvs.length + 1 := by
  unfold fieldR at h
  repeat' split at h
  all_goals first
    | (injection h with h1 h2 h3; subst h1; exact put_len)
    | cases h
abbrev fldsBody (K : PySem.W.Frag) (X : PX) (m : Nat) : PS := (pIf (pTest (pOp Pu.oEq (pCons (pMethO 0 "ahead" [(ga K "Reader", ps_ahead K)] pNil) (pCons (pC (.str ",")) pNil)))) (pSeq (pDrop (pMethOX 0 "take_all" [(ga K "Reader", ps_rta K)] X (pCons (pC (.str ", ")) pNil)))
    (pDrop (pMethOX 0 "read_field" [(ga K "Reader", ps_rfld K m)] X (pConsV 2 (pCons (pVar 1) pNil))))) pNext)
theorem flds_go {q a : Addr} {z : Str} {p0 n : Nat} {u0 : Option Str} {P X : T → List Slot → Prop} {D : PD} (hz : z.length ≤ 16000000) (hn : n ≤ 2) (hm : 3 * n + 4 ≤ m) (hD : D.nx = rdTail K (pxOf [.ref q (rdT K z p0 u0), .val (lvT (n + 1))] X) "}" (pdOf false [.ref q (rdT K z p0 u0), .val (lvT (n + 1))] P)) :
    ∀ (items : List T) (kvs : List (Key × T)) (p : Nat) (u : Option Str) (s3 : Slot), noRef [s3] 0 → kvs.length + items.length ≤ 9 → RP K P X q z [.val (lvT (n + 1))] (fldMore (anyR z n) z items.length kvs p u) →
    pForGo (pgName 3) (fldsBody K (pxOf [.ref q (rdT K z p0 u0), .val (lvT (n + 1))] X) m) D items [.ref q (rdT K z p u), .val (lvT (n + 1)), .own a (.dct kvs), s3]
  | [], kvs, p, u, s3, n3, hl, h => by
    show D.nx _
    rw [hD]
    exact rd_close hz (by decide +kernel) h
  | x :: r, kvs, p, u, s3, n3, hl, h => by
    show pgName 3 _ _ _
    refine w_name n3 rfl ?_
    unfold fldsBody
    rw [List.length_cons] at h hl
    unfold fldMore at h
    repeat (first | wtm_at "w" | wtm_at "u")
    rw [is_sg (c := 44) (by rfl)]
    by_cases e : sg z p = some 44
    · rw [if_pos e] at h
      rw [decide_eq_true e]
      repeat (first | wtm_at "w" | wtm_at "u")
      refine u_rta (cs := [44, 32]) hz (by decide +kernel) (by decide) (rp_map (fun b e p' u' => w_kBk rfl ?_) fun t0 p3 u3 e => ?_)
      · rw [e] at h
        exact ⟨⟨rfl, trivial⟩, h p' u'⟩
      · rw [e] at h
        dsimp only at h
        repeat (first | wtm_at "w" | wtm_at "u")
        refine ⟨q, a, z, p3, u3, n, kvs, rfl, hz, hn, by omega, hm, fp_map (fun b e p' u' k' => w_kBk rfl ?_) fun k2 p4 u4 e => ?_⟩
        · rw [e] at h
          exact ⟨⟨rfl, trivial⟩, h p' u'⟩
        · have hk := field_len e
          rw [e] at h
          dsimp only at h
          repeat (first | wtm_at "w" | wtm_at "u")
          exact flds_go hz hn hm hD r k2 p4 u4 _ trivial (by omega) h
    · rw [if_neg e] at h
      rw [decide_eq_false e]
      repeat (first | wtm_at "w" | wtm_at "u")
      exact flds_go hz hn hm hD r kvs p u _ trivial (by omega) h
theorem pure_rflds (kf : KF K w) : ∀ sl P X, ps_rflds K (m + 1) sl P X → p_Reader__read_fields K (pxOf sl X) (ps_rtk K) (ps_ahead K) (ps_rfld K m) (ps_rta K) (pdOf false sl P) (sl ++ nones 2) := by
  rintro sl P X ⟨q, z, p, u, n, rfl, hz, hn, hm, h⟩
  show p_Reader__read_fields _ _ _ _ _ _ _ [_, _, .none, .none]
  unfold p_Reader__read_fields
  show pSeq _ (pSeq _ (pSeq _ (rdTail K _ "}"))) _ _
  unfold fldsR at h
  repeat (first | wtm_at "w" | wtm_at "u")
  by_cases e0 : sg z p = some 123
  · rw [if_pos e0] at h
    refine u_tkok hz e0 (by decide +kernel) ?_
    repeat (first | wtm_at "w" | wtm_at "u")
    refine v_lv (by omega) ?_
    repeat (first | wtm_at "w" | wtm_at "u")
    cases n with
    | zero =>
      rw [if_neg (fun z => absurd z.1 (by decide))] at h
      rw [decide_eq_false (by decide)]
      repeat wtm_at "w"
      exact rd_close hz (by decide +kernel) h
    | succ n =>
      rw [decide_eq_true (Nat.succ_pos n)]
      repeat (first | wtm_at "w" | wtm_at "u")
      rw [is_sg (c := 125) (by rfl)]
      by_cases e1 : sg z (p + 1) = some 125
      · rw [if_neg (fun z => absurd e1 z.2)] at h
        rw [decide_eq_true e1]
        repeat wtm_at "w"
        exact rd_close hz (by decide +kernel) h
      · rw [if_pos ⟨Nat.succ_pos n, e1⟩] at h
        rw [decide_eq_false e1]
        repeat (first | wtm_at "w" | wtm_at "u")
        refine ⟨q, _, z, p + 1, u, n, [], rfl, hz, by omega, by decide, by omega, fp_map (fun b e p' u' k' => w_kBk rfl ?_) fun k2 p4 u4 e => ?_⟩
        · rw [show inR z (n + 1) = anyR z n from rfl, e] at h
          exact ⟨⟨rfl, trivial⟩, h p' u'⟩
        · have hk := field_len e
          rw [show inR z (n + 1) = anyR z n from rfl, e] at h
          dsimp only at h
          repeat (first | wtm_at "w" | wtm_at "u")
          have hk2 : k2.length ≤ 1 := hk
          exact flds_go (n := n) hz (by omega) (by omega) rfl (rngT 0 (8 - 1 : Int).toNat) k2 p4 u4 .none trivial (by show k2.length + 7 ≤ 9; omega) h
  · rw [if_neg e0] at h
    refine u_tkno hz (fun c hc hm => e0 ?_) ?_
    · rw [hc]
      have : c ∈ [123] := hm
      rw [List.mem_singleton.mp this]
    · intro p' u'
      exact w_kBk rfl ⟨⟨rfl, trivial⟩, h p' u'⟩
theorem u_tk {q : Addr} {z s : Str} {p : Nat} {u : Option Str} {P X : T → List Slot → Prop} (hz : z.length ≤ 16000000) (hb : (∀ c, sg z p = some c → c ∉ s.cps.toList) → ∀ p' u', X (badT K p) [.ref q (rdT K z p' u'), .val (.str s)]) (ho : ∀ c, sg z p = some c → c ∈ s.cps.toList → P (.str ⟨#[c]⟩) [.ref q (rdT K z (p + 1) u), .val (.str s)]) : ps_rtk K [.ref q (rdT K z p u), .val (.str s)] P X := by
  cases e : sg z p with
  | none => exact u_tkno hz (fun c h => by rw [e] at h; cases h) (hb fun c h => by rw [e] at h; cases h)
  | some c =>
    by_cases hc : c ∈ s.cps.toList
    · exact u_tkok hz e hc (ho c e hc)
    · exact u_tkno hz (fun d h => by rw [e] at h; cases h; exact hc) (hb fun d h => by rw [e] at h; cases h; exact hc)
theorem tkA_u {z : Str} : ∀ {cs : List Nat} {p p' : Nat} {u u' : Option Str} {t : T}, tkA z cs p u = .ok t p' u' → u' = u ∧ t = .non
  | [], p, p', u, u', t, h => by unfold tkA at h; injection h with h1 h2 h3; exact ⟨h3.symm, h1.symm⟩
  | c :: r, p, p', u, u', t, h => by
    unfold tkA at h
    split at h
    · exact tkA_u h
    · cases h
theorem nameR_end {z : Str} {n p : Nat} {acc : List Nat} (h : n = 0 ∨ sg z p = some 58) : nameR z n acc p = .inr (acc, p) := by
  cases n with
  | zero => rfl
  | succ n =>
    rcases h with h | h
    · cases h
    · unfold nameR; rw [if_pos h]
theorem pure_rfld (kf : KF K w) : ∀ sl P X, ps_rfld K (m + 1) sl P X → p_Reader__read_field K (pxOf sl X) (ps_rtk K) (ps_ahead K) (ps_rta K) (ps_rany K m) (pdOf false sl P) (sl ++ nones 1) := by
  rintro sl P X ⟨q, qd, z, p, u, n, kvs, rfl, hz, hn, hl, hm, h⟩
  show p_Reader__read_field _ _ _ _ _ _ _ [_, _, _, .none]
  unfold p_Reader__read_field
  unfold fieldR at h
  repeat (first | wtm_at "w" | wtm_at "u")
  refine u_tk hz (fun hb p' u' => ?_) fun c e hc => ?_
  · have : FP K P X q qd z [.val (lvT (n + 1))] (.bad p) := by
      cases e : sg z p with
      | none => (try rw [e] at h); exact h
      | some c =>
        (try rw [e] at h)
        dsimp only at h
        rw [if_neg (show ¬ isL c = true from fun z => hb c e (of_decide_eq_true z))] at h
        exact h
    exact w_kBk rfl ⟨⟨rfl, rfl, trivial⟩, this p' u' kvs⟩
  rw [e] at h
  dsimp only at h
  rw [if_pos (show isL c = true from decide_eq_true hc)] at h
  repeat (first | wtm_at "w" | wtm_at "u")
  refine ⟨fun k env => ∃ (acc : List Nat) (p1 : Nat), env = [.ref q (rdT K z p1 u), .ref qd (.dct kvs), .val (lvT (n + 1)), .val (.str ⟨acc.toArray⟩)] ∧ acc.length + k = 8 ∧ nameR z k acc p1 = nameR z 7 [c] (p + 1), ⟨7, [c], p + 1, rfl, rfl, rfl⟩, ?_⟩
  rintro k env ⟨acc, p1, rfl, hk, he⟩
  have hal : (⟨acc.toArray⟩ : Str).length = acc.length := by show acc.toArray.size = _; simp
  have out : nameR z 7 [c] (p + 1) = .inr (acc, p1) → ∀ env, env = [.ref q (rdT K z p1 u), .ref qd (.dct kvs), .val (lvT (n + 1)), .val (.str ⟨acc.toArray⟩)] →
      (pSeq (pDrop (pMethOX 0 "take_all" [(ga K "Reader", ps_rta K)] (pxOf [.ref q (rdT K z p u), .ref qd (.dct kvs), .val (lvT (n + 1))] X) (pCons (pC (.str ": ")) pNil)))
    (pSeq (pIf (pAnd (pTest (pOp Pu.oInA (pConsV 3 (pConsV 1 pNil)))) (pTest (pOp Pu.oIsN (pCons (pFldO K 0 "first_twice") (pCons (pC .non) pNil))))) (pSetF K 0 (pVar 3) "first_twice") pNext)
    (pAsg (pMethOX 0 "read_any" [(ga K "Reader", ps_rany K m)] (pxOf [.ref q (rdT K z p u), .ref qd (.dct kvs), .val (lvT (n + 1))] X) (pCons (pOp Pu.oAdd (pConsV 2 (pCons (pC (.int 1)) pNil))) pNil)) (pgSetD 1 (pVar 3))))) (pdOf false [.ref q (rdT K z p u), .ref qd (.dct kvs), .val (lvT (n + 1))] P) env := by
    rintro e env rfl
    rw [e] at h
    dsimp only at h
    repeat (first | wtm_at "w" | wtm_at "u")
    refine u_rta (cs := [58, 32]) hz (by decide +kernel) (by decide) (rp_map (fun b e p' u' => w_kBk rfl ?_) fun t0 p3 u3 e => ?_)
    · rw [e] at h
      exact ⟨⟨rfl, rfl, trivial⟩, h p' u' kvs⟩
    · rw [e] at h
      dsimp only at h
      obtain ⟨rfl, rfl⟩ := tkA_u e
      have fin2 : ∀ (u' : Option Str) (env : Env), u' = twU kvs ⟨acc.toArray⟩ u3 → env = [.ref q (rdT K z p3 u'), .ref qd (.dct kvs), .val (lvT (n + 1)), .val (.str ⟨acc.toArray⟩)] →
          (pAsg (pMethOX 0 "read_any" [(ga K "Reader", ps_rany K m)] (pxOf [.ref q (rdT K z p u3), .ref qd (.dct kvs), .val (lvT (n + 1))] X) (pCons (pOp Pu.oAdd (pConsV 2 (pCons (pC (.int 1)) pNil))) pNil)) (pgSetD 1 (pVar 3))) (pdOf false [.ref q (rdT K z p u3), .ref qd (.dct kvs), .val (lvT (n + 1))] P) env := by
        rintro u' env hu rfl
        rw [← hu] at h
        repeat (first | wtm_at "w" | wtm_at "u")
        refine v_lvS (by omega) ?_
        repeat (first | wtm_at "w" | wtm_at "u")
        refine ⟨q, z, p3, u', n, rfl, hz, by omega, by omega, rp_map (fun b e p' u' => w_kBk rfl ?_) fun t p4 u4 e => ?_⟩
        · rw [e] at h
          exact ⟨⟨rfl, rfl, trivial⟩, h p' u' kvs⟩
        · rw [e] at h
          dsimp only at h
          repeat (first | wtm_at "w" | wtm_at "u")
          exact ⟨rfl, ⟨rfl, rfl, trivial⟩, h⟩
      repeat (first | wtm_at "w" | wtm_at "u")
      cases hh : hasT kvs (Sum.inr ⟨acc.toArray⟩) with
      | false =>
        repeat wtm_at "w"
        exact fin2 u3 _ (by unfold twU; rw [hh, if_neg (fun z => absurd z.1 (by decide))]) rfl
      | true =>
        repeat (first | wtm_at "w" | wtm_at "u")
        cases hu : u3 with
        | some s =>
          subst hu
          refine iteFalse rfl ?_
          repeat wtm_at "w"
          exact fin2 (some s) _ (by unfold twU; rw [if_neg (fun z => nomatch z.2)]) rfl
        | none =>
          subst hu
          refine iteTrue rfl ?_
          repeat (first | wtm_at "w" | wtm_at "u")
          refine w_setTw kf rfl rfl ?_
          exact fin2 (some ⟨acc.toArray⟩) _ (by unfold twU; rw [if_pos ⟨hh, rfl⟩]) rfl
  repeat (first | wtm_at "w" | wtm_at "u")
  rw [hal]
  have e4 : decide ((acc.length : Int) < 8) = decide (0 < k) := decide_eq_decide.mpr (by omega)
  rw [e4]
  cases k with
  | zero =>
    rw [decide_eq_false (by decide)]
    repeat wtm_at "w"
    exact out (by rw [← he]; exact nameR_end (.inl rfl)) _ rfl
  | succ k =>
    rw [decide_eq_true (Nat.succ_pos k)]
    repeat (first | wtm_at "w" | wtm_at "u")
    rw [is_sg (c := 58) (by rfl)]
    by_cases e5 : sg z p1 = some 58
    · rw [decide_eq_true e5]
      repeat wtm_at "w"
      exact out (by rw [← he]; exact nameR_end (.inr e5)) _ rfl
    · rw [decide_eq_false e5]
      repeat (first | wtm_at "w" | wtm_at "u")
      conv at he => lhs; unfold nameR
      rw [if_neg e5] at he
      refine ⟨fun env => ∃ k', k' < k + 1 ∧ ∃ (acc : List Nat) (p1 : Nat), env = [.ref q (rdT K z p1 u), .ref qd (.dct kvs), .val (lvT (n + 1)), .val (.str ⟨acc.toArray⟩)] ∧ acc.length + k' = 8 ∧ nameR z k' acc p1 = nameR z 7 [c] (p + 1), fun env' h => h, ?_⟩
      repeat (first | wtm_at "w" | wtm_at "u")
      refine u_tk hz (fun hb p' u' => ?_) fun d e hd => ?_
      · have : FP K P X q qd z [.val (lvT (n + 1))] (.bad p1) := by
          have e6 : nameR z 7 [c] (p + 1) = .inl p1 := by
            rw [← he]
            cases e : sg z p1 with
            | none => rfl
            | some d =>
              dsimp only
              rw [if_neg (show ¬ isL d = true from fun z => hb d e (of_decide_eq_true z))]
          rw [e6] at h
          exact h
        exact w_kBk rfl ⟨⟨rfl, rfl, trivial⟩, this p' u' kvs⟩
      · rw [e] at he
        dsimp only at he
        rw [if_pos (show isL d = true from decide_eq_true hd)] at he
        repeat (first | wtm_at "w" | wtm_at "u")
        refine ⟨k, by omega, acc ++ [d], p1 + 1, ?_, by rw [List.length_append]; show acc.length + 1 + k = 8; omega, he⟩
        rw [show (⟨acc.toArray⟩ : Str) ++ ⟨#[d]⟩ = ⟨(acc ++ [d]).toArray⟩ from by
          show (⟨acc.toArray ++ #[d]⟩ : Str) = _
          simp]
end
end Pu

namespace Pu
open PySem PySem.Spec PyProof.Rows L2 He Hk
section
variable {K : PySem.W.Frag} {w : World} {m : Nat}
local macro_rules | `(tactic| wtm_at "u") => `(tactic| first
  | ((with_reducible refine' w_fldO ?e1 ?e2 ?e3 ?e4 ?_); (case e1 => rfl); (case e2 => exact KF.c_Reader (by assumption)); (case e3 => first | exact KF.n_Reader_all_signs (by assumption) | exact KF.n_Reader_stands_at (by assumption) | exact KF.n_Reader_first_twice (by assumption)); (case e4 => rfl))
  | ((with_reducible refine' w_methO ?e1 ?e2 ?e3 ?_); (case e1 => rfl); (case e2 => rfl); (case e3 => exact List.Mem.head _))
  | ((with_reducible refine' w_methOX ?e1 ?e2 ?e3 ?_); (case e1 => rfl); (case e2 => rfl); (case e3 => exact List.Mem.head _))
  | ((with_reducible refine' w_cA' ?e1 ?e2 ?_); (case e1 => rfl); (case e2 => rfl))
  | ((with_reducible refine' w_cX' ?e1 ?e2 ?_); (case e1 => rfl); (case e2 => rfl))
  | ((with_reducible refine' u_ahead ?a1 ?_); (case a1 => assumption)))
def ps_rdini (K : PySem.W.Frag) : PSp := fun sl P => ∃ (q : Addr) (z : Str), sl = [.ref q (.ins (ga K "Reader") []), .val (.str z)] ∧ P .non [.ref q (rdT K z 0 none), .val (.str z)]
theorem pure_rdini (kf : KF K w) : ∀ sl P, ps_rdini K sl P → p_Reader____init__ K (pdOf false sl P) (sl ++ nones 0) := by
  rintro sl P ⟨q, z, rfl, h⟩
  show p_Reader____init__ _ _ [_, _]
  unfold p_Reader____init__
  have c := kf.c_Reader
  have n1 := kf.n_Reader_all_signs
  have n2 := kf.n_Reader_stands_at
  have n3 := kf.n_Reader_first_twice
  repeat (first | wtm_at "w" | wtm_at "u")
  exact ⟨rfl, ⟨rfl, trivial⟩, h⟩
inductive Wr where
  | bad (p : Nat)
  | twice (s : Str)
  | read (t : T)
def rwR (z : Str) : Wr := match anyR z 3 0 none with
  | .bad b => .bad b
  | .ok t p u => if p < z.length then .bad p else match u with
    | some s => .twice s
    | none => .read t
def noTT (K : PySem.W.Frag) (t : T) : T := .ins (ga K "NoText") [(.inr "found", t)]
def twT (K : PySem.W.Frag) (s : Str) : T := .ins (ga K "Doubled") [(.inr "name", .str s)]
def NoStr (t : T) : Prop := ∃ y, tyN t = some y ∧ kitB y "str" = some false
def ps_rdw (K : PySem.W.Frag) : PSpX := fun sl P X => ∃ t : T, sl = [.val t] ∧ ((NoStr t ∧ X (noTT K t) [.val t]) ∨ ∃ z : Str, t = .str z ∧ z.length ≤ 16000000 ∧ match rwR z with
  | .bad b => X (badT K b) [.val t]
  | .twice s => X (twT K s) [.val t]
  | .read v => P v [.val t])
theorem pure_rdw (kf : KF K w) : ∀ sl P X, ps_rdw K sl P X → p_read_worth K (pxOf sl X) (ps_rdini K) (ps_rany K 12) (pdOf false sl P) (sl ++ nones 2) := by
  rintro sl P X ⟨t, rfl, h⟩
  show p_read_worth _ _ _ _ _ [_, .none, .none]
  unfold p_read_worth
  rcases h with ⟨⟨y, h1, h2⟩, h⟩ | ⟨z, rfl, hz, h⟩
  · repeat (first | wtm_at "w" | wtm_at "u")
    refine v_isi h1 h2 ?_
    repeat (first | wtm_at "w" | wtm_at "u")
    exact ⟨trivial, h⟩
  · unfold rwR at h
    repeat (first | wtm_at "w" | wtm_at "u")
    refine ⟨_, z, rfl, ?_⟩
    repeat (first | wtm_at "w" | wtm_at "u")
    refine ⟨_, z, 0, none, 3, rfl, hz, by decide, by decide, rp_map (fun b e p' u' => w_kBk rfl ?_) fun t p1 u1 e => ?_⟩
    · rw [e] at h
      exact ⟨trivial, h⟩
    · rw [e] at h
      dsimp only at h
      repeat (first | wtm_at "w" | wtm_at "u")
      have e4 : decide ((p1 : Int) < (z.length : Int)) = decide (p1 < z.length) := decide_eq_decide.mpr (by omega)
      rw [e4]
      by_cases c : p1 < z.length
      · rw [if_pos c] at h
        rw [decide_eq_true c]
        repeat (first | wtm_at "w" | wtm_at "u")
        exact ⟨trivial, h⟩
      · rw [if_neg c] at h
        rw [decide_eq_false c]
        repeat (first | wtm_at "w" | wtm_at "u")
        cases u1 with
        | some s =>
          refine iteTrue rfl ?_
          repeat (first | wtm_at "w" | wtm_at "u")
          exact ⟨trivial, h⟩
        | none =>
          refine iteFalse rfl ?_
          repeat (first | wtm_at "w" | wtm_at "u")
          exact ⟨trivial, h⟩
def askT (z : Str) : T := match rwR z with
  | .bad b => .tup [.str "bad", .int (b : Nat)]
  | .twice s => .tup [.str "twice", .str s]
  | .read v => .tup [.str "read", v]
def ps_rask : PSp := fun sl P => ∃ t : T, sl = [.val t] ∧ ((NoStr t ∧ P (.tup [.str "none", t]) [.val t]) ∨ ∃ z : Str, t = .str z ∧ z.length ≤ 16000000 ∧ P (askT z) [.val t])
theorem w_tryG {X0 : PX} {l : List HdP} {pb : PX → PS} {d : PD} {env : Env} (h : pb (pxG K X0 d l) d env) : pTryG K l pb X0 d env := h
theorem pure_rask (kf : KF K w) : ∀ sl P, ps_rask sl P → p__law_asked K (ps_rdw K) (pdOf false sl P) (sl ++ nones 2) := by
  rintro sl P ⟨t, rfl, h⟩
  show p__law_asked _ _ _ [_, .none, .none]
  unfold p__law_asked
  repeat (first | wtm_at "w" | wtm_at "u")
  refine w_tryG ?_
  rcases h with ⟨no, h⟩ | ⟨z, rfl, hz, h⟩
  · repeat (first | wtm_at "w" | wtm_at "u")
    refine ⟨t, rfl, .inl ⟨no, ?_⟩⟩
    repeat (first | wtm_at "w" | wtm_at "u")
    refine ⟨true, kf.e_NoText_NoText, fun _ a => ?_, fun e => nomatch e⟩
    unfold noTT
    repeat (first | wtm_at "w" | wtm_at "u")
    dsimp only [dG, dAs, List.set_cons_zero, List.set_cons_succ]
    repeat (first | wtm_at "w" | wtm_at "u")
    exact ⟨trivial, h⟩
  · unfold askT at h
    repeat (first | wtm_at "w" | wtm_at "u")
    refine ⟨_, rfl, .inr ⟨z, rfl, hz, ?_⟩⟩
    cases e : rwR z with
    | bad b =>
      rw [e] at h
      dsimp only
      repeat (first | wtm_at "w" | wtm_at "u")
      refine ⟨false, kf.e_BadText_NoText, (fun e => nomatch e), fun _ => ⟨true, kf.e_BadText_BadText, fun _ a => ?_, fun e => nomatch e⟩⟩
      unfold badT
      repeat (first | wtm_at "w" | wtm_at "u")
      dsimp only [dG, dAs, List.set_cons_zero, List.set_cons_succ]
      repeat (first | wtm_at "w" | wtm_at "u")
      exact ⟨trivial, h⟩
    | twice s =>
      rw [e] at h
      dsimp only
      repeat (first | wtm_at "w" | wtm_at "u")
      refine ⟨false, kf.e_Doubled_NoText, (fun e => nomatch e), fun _ => ⟨false, kf.e_Doubled_BadText, (fun e => nomatch e), fun _ => ⟨true, kf.e_Doubled_Doubled, fun _ a => ?_, fun e => nomatch e⟩⟩⟩
      unfold twT
      repeat (first | wtm_at "w" | wtm_at "u")
      dsimp only [dG, dAs, List.set_cons_zero, List.set_cons_succ]
      repeat (first | wtm_at "w" | wtm_at "u")
      exact ⟨trivial, h⟩
    | read v =>
      rw [e] at h
      dsimp only
      repeat (first | wtm_at "w" | wtm_at "u")
      exact ⟨trivial, h⟩
end
end Pu

namespace Pu
open PySem PySem.Spec PyProof.Rows L2 He Hk
def Rem (z : Str) (p : Nat) (r : List Nat) : Prop := z.cps.toList.drop p = r
section
variable {z : Str} {p : Nat} {r k : List Nat} {u : Option Str} {f : Rf}
theorem Rem.hd (h : Rem z p r) : sg z p = r.head? := by
  unfold sg
  unfold Rem at h
  rw [← h, List.head?_drop]
theorem Rem.hc {c : Nat} (h : Rem z p (c :: r)) : sg z p = some c := h.hd
theorem Rem.nx {c : Nat} (h : Rem z p (c :: r)) : Rem z (p + 1) r := by
  unfold Rem at h ⊢
  rw [← List.drop_drop, h]
  rfl
theorem Rem.ap : ∀ {a : List Nat} {p : Nat}, Rem z p (a ++ r) → Rem z (p + a.length) r
  | [], p, h => h
  | c :: a, p, h => by
    have := Rem.ap (a := a) (Rem.nx (c := c) h)
    rwa [show p + 1 + a.length = p + (c :: a).length by rw [List.length_cons]; omega] at this
def Fol (k : List Nat) : Prop := ∀ c, k.head? = some c → ¬ (48 ≤ c ∧ c ≤ 57) ∧ c ≠ 116 ∧ c ≠ 34
theorem fol_nil : Fol [] := fun c h => nomatch h
theorem fol_cons {c : Nat} (h : c = 44 ∨ c = 93 ∨ c = 125 ∨ c = 97 ∨ c = 32) : Fol (c :: r) := by
  intro d e
  have : c = d := by injection e
  subst this
  omega
def twx : List Str → Option Str → Option Str
  | _, some s => some s
  | ns, none => ns.head?
theorem twx_nil {u : Option Str} : twx [] u = u := by cases u <;> rfl
theorem twx_app {a b : List Str} {u : Option Str} : twx (a ++ b) u = twx b (twx a u) := by
  cases u with
  | some s => rfl
  | none => cases a <;> rfl
theorem tkA_ok : ∀ {cs : List Nat} {p : Nat}, Rem z p (cs ++ r) → tkA z cs p u = .ok .non (p + cs.length) u
  | [], p, h => rfl
  | c :: cs, p, h => by
    unfold tkA
    rw [if_pos (by rw [h.hd]; rfl), tkA_ok (Rem.nx (c := c) h), List.length_cons, Nat.add_right_comm]; rfl
theorem tkA_bad : ∀ {cs : List Nat} {p : Nat} {r y : List Nat}, cs = r ++ y → y ≠ [] → Rem z p r → tkA z cs p u = .bad (p + r.length)
  | [], p, r, y, e, hy, h => absurd (List.append_eq_nil_iff.mp e.symm).2 hy
  | c :: cs, p, [], y, e, hy, h => by
    unfold tkA
    rw [if_neg (by rw [h.hd]; exact fun e => nomatch e)]; rfl
  | c :: cs, p, d :: r, y, e, hy, h => by
    replace e := List.cons.inj e
    obtain ⟨e1, e2⟩ := e
    subst e1
    unfold tkA
    rw [if_pos (by rw [h.hd]; rfl), tkA_bad e2 hy h.nx, List.length_cons, Nat.add_right_comm]; rfl
theorem cut_two : ∀ {a b r y : List Nat}, a ++ b = r ++ y → (∃ e, r = a ++ e ∧ b = e ++ y) ∨ (∃ e, e ≠ [] ∧ a = r ++ e ∧ y = e ++ b)
  | [], b, r, y, h => .inl ⟨r, rfl, h⟩
  | c :: a, b, [], y, h => .inr ⟨c :: a, by simp, rfl, h.symm⟩
  | c :: a, b, d :: r, y, h => by
    injection h with h1 h2
    subst h1
    rcases cut_two h2 with ⟨e, h3, h4⟩ | ⟨e, h3, h4, h5⟩
    · exact .inl ⟨e, by rw [h3]; rfl, h4⟩
    · exact .inr ⟨e, h3, by rw [h4]; rfl, h5⟩
def EndR (e : Nat) (R : Rr) : Prop := R = .bad e ∨ ∃ t u, R = .ok t e u
theorem EndR.cast {a b : Nat} {R : Rr} (h : EndR a R) (e : a = b) : EndR b R := e ▸ h
/-- a tree, what is written of it, what it is read as, the names that come twice -/
structure Sp where
  t : T
  w : List Nat
  v : T
  ns : List Str
def Reads (z : Str) (f : Rf) (x : Sp) : Prop := ∀ p u k, Rem z p (x.w ++ k) → Fol k → f p u = .ok x.v (p + x.w.length) (twx x.ns u)
def Ends (z : Str) (f : Rf) (x : Sp) : Prop := ∀ p u r y, x.w = r ++ y → y ≠ [] → Rem z p r → EndR (p + r.length) (f p u)
theorem close_ok {c : Nat} {t : T} (h : Rem z p (c :: r)) : closeR z c t p u = .ok t (p + 1) u := by
  unfold closeR; rw [if_pos h.hc]
theorem close_bad {c : Nat} {t : T} (h : Rem z p []) : closeR z c t p u = .bad p := by
  unfold closeR; rw [if_neg (by rw [h.hd]; exact fun e => nomatch e)]
def tailC : List Sp → List Nat
  | [] => []
  | x :: r => 44 :: 32 :: (x.w ++ tailC r)
def nss : List Sp → List Str
  | [] => []
  | x :: r => x.ns ++ nss r
theorem tailC_fol {xs : List Sp} {k : List Nat} : Fol (tailC xs ++ 93 :: k) := by
  cases xs with
  | nil => exact fol_cons (.inr (.inl rfl))
  | cons x r => exact fol_cons (.inl rfl)
theorem row_end {n : Nat} {acc : List T} (h : sg z p ≠ some 44) : rowMore f z n acc p u = closeR z 93 (.lst acc) p u := by
  cases n with
  | zero => rfl
  | succ n => unfold rowMore; rw [if_neg h]
theorem row_more : ∀ (xs : List Sp) (n : Nat) (acc : List T) (p : Nat) (u : Option Str) (k : List Nat), (∀ x, x ∈ xs → Reads z f x) → xs.length ≤ n → Rem z p (tailC xs ++ 93 :: k) →
    rowMore f z n acc p u = .ok (.lst (acc ++ xs.map Sp.v)) (p + (tailC xs).length + 1) (twx (nss xs) u)
  | [], n, acc, p, u, k, _, _, h => by
    rw [row_end (by rw [h.hd]; exact fun e => by injection e with e; cases e), close_ok h]
    show _ = Rr.ok (.lst (acc ++ [])) (p + 0 + 1) (twx [] u)
    rw [List.append_nil, twx_nil]
  | x :: xs, 0, acc, p, u, k, _, hl, h => absurd hl (by rw [List.length_cons]; omega)
  | x :: xs, n + 1, acc, p, u, k, hr, hl, h => by
    have h1 : Rem z p (44 :: 32 :: (x.w ++ (tailC xs ++ 93 :: k))) := by
      have e : tailC (x :: xs) ++ 93 :: k = 44 :: 32 :: (x.w ++ (tailC xs ++ 93 :: k)) := by
        show 44 :: 32 :: (x.w ++ tailC xs) ++ 93 :: k = _
        simp
      rw [← e]; exact h
    unfold rowMore
    rw [if_pos h1.hc, tkA_ok (cs := [44, 32]) h1]
    dsimp only
    have h2 : Rem z (p + 2) (x.w ++ (tailC xs ++ 93 :: k)) := Rem.ap (a := [44, 32]) h1
    rw [show p + [44, 32].length = p + 2 from rfl, hr x (List.Mem.head _) (p + 2) u _ h2 tailC_fol]
    dsimp only
    rw [row_more xs n (acc ++ [x.v]) _ _ k (fun y hy => hr y (List.Mem.tail _ hy)) (by rw [List.length_cons] at hl; omega) h2.ap]
    have e1 : (tailC (x :: xs)).length = 2 + x.w.length + (tailC xs).length := by
      show (44 :: 32 :: (x.w ++ tailC xs)).length = _
      rw [List.length_cons, List.length_cons, List.length_append]; omega
    rw [List.append_assoc, ← twx_app, e1, show p + 2 + x.w.length + (tailC xs).length + 1 = p + (2 + x.w.length + (tailC xs).length) + 1 by omega]
    rfl
theorem row_cut : ∀ (xs : List Sp) (n : Nat) (acc : List T) (p : Nat) (u : Option Str) (r y : List Nat), (∀ x, x ∈ xs → Reads z f x ∧ Ends z f x) → xs.length ≤ n → tailC xs ++ [93] = r ++ y → y ≠ [] → Rem z p r →
    rowMore f z n acc p u = .bad (p + r.length)
  | xs, n, acc, p, u, [], y, _, _, _, _, h => by
    rw [row_end (by rw [h.hd]; exact fun e => nomatch e), close_bad h]; rfl
  | [], n, acc, p, u, d :: r, y, _, _, e, hy, h => by
    replace e : [93] = d :: (r ++ y) := e
    injection e with e1 e2
    exact absurd (List.append_eq_nil_iff.mp e2.symm).2 hy
  | x :: xs, 0, acc, p, u, d :: r, y, _, hl, _, _, h => absurd hl (by rw [List.length_cons]; omega)
  | x :: xs, n + 1, acc, p, u, d :: r, y, hr, hl, e, hy, h => by
    replace e : 44 :: 32 :: (x.w ++ tailC xs) ++ [93] = d :: r ++ y := e
    replace e : 44 :: 32 :: (x.w ++ tailC xs ++ [93]) = d :: (r ++ y) := e
    replace e := List.cons.inj e
    obtain ⟨e1, e2⟩ := e
    subst e1
    unfold rowMore
    rw [if_pos h.hc]
    cases r with
    | nil =>
      rw [tkA_bad (cs := [44, 32]) (r := [44]) (y := [32]) rfl (by simp) h]
    | cons d r =>
      replace e2 : 32 :: (x.w ++ tailC xs ++ [93]) = d :: (r ++ y) := e2
      replace e2 := List.cons.inj e2
      obtain ⟨e1, e2⟩ := e2
      subst e1
      rw [tkA_ok (cs := [44, 32]) h]
      dsimp only
      have h2 : Rem z (p + [44, 32].length) r := Rem.ap (a := [44, 32]) h
      rw [List.append_assoc] at e2
      rcases cut_two e2 with ⟨a, rfl, e3⟩ | ⟨a, ha, e3, e4⟩
      · have hF : Fol a := by
          cases a with
          | nil => exact fol_nil
          | cons c a => 
            have := tailC_fol (xs := xs) (k := [])
            rw [e3] at this
            exact this
        rw [(hr x (List.Mem.head _)).1 _ u a h2 hF]
        dsimp only
        rw [row_cut xs n _ _ _ a y (fun y hy => hr y (List.Mem.tail _ hy)) (by rw [List.length_cons] at hl; omega) e3 hy h2.ap]
        simp only [List.length_cons, List.length_append, List.length_nil]
        congr 1; omega
      · have hE := (hr x (List.Mem.head _)).2 _ u r a e3 ha h2
        have el : p + [44, 32].length + r.length = p + (44 :: 32 :: r).length := by simp only [List.length_cons, List.length_nil]; omega
        rw [el] at hE
        rcases hE with hE | ⟨t, u2, hE⟩
        · rw [hE]
        · rw [hE]
          dsimp only
          have h3 : Rem z (p + (44 :: 32 :: r).length) [] := by
            have := Rem.ap (a := r) (r := []) (by rw [List.append_nil]; exact h2)
            rwa [el] at this
          rw [row_end (by rw [h3.hd]; exact fun e => nomatch e), close_bad h3]
def NmK (s : Str) : Prop := ∃ c cs, s.cps.toList = c :: cs ∧ isL c = true ∧ (∀ d, d ∈ cs → isL d = true) ∧ cs.length ≤ 7
theorem isL_58 : isL 58 = false := by decide +kernel
theorem isL_125 : isL 125 = false := by decide +kernel
theorem nameR_ok : ∀ (cs : List Nat) (n : Nat) (acc : List Nat) (p : Nat) (r : List Nat), (∀ d, d ∈ cs → isL d = true) → cs.length ≤ n → Rem z p (cs ++ 58 :: r) → nameR z n acc p = .inr (acc ++ cs, p + cs.length)
  | [], n, acc, p, r, _, _, h => by rw [nameR_end (.inr h.hd), List.append_nil]; rfl
  | c :: cs, 0, acc, p, r, _, hl, h => absurd hl (by rw [List.length_cons]; omega)
  | c :: cs, n + 1, acc, p, r, hc, hl, h => by
    have c1 := hc c (List.Mem.head _)
    unfold nameR
    rw [h.hd, if_neg (fun e => by
      replace e : some c = some 58 := e
      injection e with e
      rw [e, isL_58] at c1; cases c1)]
    show (if isL c = true then _ else _) = _
    rw [if_pos c1, nameR_ok cs n _ _ r (fun d hd => hc d (List.Mem.tail _ hd)) (by rw [List.length_cons] at hl; omega) (Rem.nx (c := c) h), List.append_assoc, List.length_cons, Nat.add_right_comm]
    rfl
theorem nameR_cut : ∀ (r : List Nat) (n : Nat) (acc : List Nat) (p : Nat), (∀ d, d ∈ r → isL d = true) → r.length ≤ n → Rem z p r → nameR z n acc p = .inl (p + r.length) ∨ nameR z n acc p = .inr (acc ++ r, p + r.length)
  | [], 0, acc, p, _, _, h => .inr (by rw [List.append_nil]; rfl)
  | [], n + 1, acc, p, _, _, h => .inl (by unfold nameR; rw [h.hd, if_neg (fun e => nomatch e)]; rfl)
  | c :: r, 0, acc, p, _, hl, h => absurd hl (by rw [List.length_cons]; omega)
  | c :: r, n + 1, acc, p, hc, hl, h => by
    have c1 := hc c (List.Mem.head _)
    have e : nameR z (n + 1) acc p = nameR z n (acc ++ [c]) (p + 1) := by
      conv => lhs; unfold nameR
      rw [h.hd, if_neg (fun e => by
        replace e : some c = some 58 := e
        injection e with e
        rw [e, isL_58] at c1; cases c1)]
      show (if isL c = true then _ else _) = _
      rw [if_pos c1]
    rw [e, List.length_cons, show p + (r.length + 1) = p + 1 + r.length by omega, show acc ++ c :: r = (acc ++ [c]) ++ r by simp]
    exact nameR_cut r n _ _ (fun d hd => hc d (List.Mem.tail _ hd)) (by rw [List.length_cons] at hl; omega) h.nx
def tailF : List (Str × Sp) → List Nat
  | [] => []
  | y :: r => 44 :: 32 :: (y.1.cps.toList ++ (58 :: 32 :: (y.2.w ++ tailF r)))
def putF : List (Key × T) → List (Str × Sp) → List (Key × T)
  | kvs, [] => kvs
  | kvs, y :: r => putF (putT kvs (.inr y.1) y.2.v) r
def nsF : List (Key × T) → List (Str × Sp) → List Str
  | kvs, [] => []
  | kvs, y :: r => (if hasT kvs (.inr y.1) = true then [y.1] else []) ++ (y.2.ns ++ nsF (putT kvs (.inr y.1) y.2.v) r)
theorem twU_eq {kvs : List (Key × T)} {s : Str} {u : Option Str} : twU kvs s u = twx (if hasT kvs (.inr s) = true then [s] else []) u := by
  unfold twU
  cases u with
  | some a => rw [if_neg (fun e => nomatch e.2)]; rfl
  | none =>
    by_cases c : hasT kvs (.inr s) = true
    · rw [if_pos ⟨c, rfl⟩, if_pos c]; rfl
    · rw [if_neg (fun e => c e.1), if_neg c]; rfl
theorem str_eta {s : Str} {cs : List Nat} (h : s.cps.toList = cs) : (⟨cs.toArray⟩ : Str) = s := by
  subst h; rfl
theorem field_ok {s : Str} {x : Sp} {kvs : List (Key × T)} {k : List Nat} (hs : NmK s) (hx : Reads z f x) (h : Rem z p (s.cps.toList ++ (58 :: 32 :: (x.w ++ k)))) (hk : Fol k) :
    fieldR f z kvs p u = .ok (putT kvs (.inr s) x.v) (p + (s.cps.toList.length + 2 + x.w.length)) (twx x.ns (twx (if hasT kvs (.inr s) = true then [s] else []) u)) := by
  obtain ⟨c, cs, e, c1, c2, c3⟩ := hs
  rw [e] at h ⊢
  unfold fieldR
  have h1 : Rem z p (c :: (cs ++ (58 :: 32 :: (x.w ++ k)))) := h
  rw [h1.hd]
  show (if isL c = true then _ else _) = _
  have h2 : Rem z (p + 1 + cs.length) (58 :: 32 :: (x.w ++ k)) := h1.nx.ap
  have h3 : Rem z (p + 1 + cs.length + 2) (x.w ++ k) := Rem.ap (a := [58, 32]) h2
  rw [if_pos c1, nameR_ok cs 7 [c] (p + 1) _ c2 c3 h1.nx]
  dsimp only
  rw [tkA_ok (cs := [58, 32]) h2]
  dsimp only
  rw [show ([c] ++ cs) = c :: cs from rfl, str_eta e, twU_eq, show p + 1 + cs.length + [58, 32].length = p + 1 + cs.length + 2 from rfl, hx _ _ k h3 hk]
  dsimp only
  rw [List.length_cons, show p + 1 + cs.length + 2 + x.w.length = p + (cs.length + 1 + 2 + x.w.length) by omega]
def FEnd (e : Nat) (R : Fr) : Prop := R = .bad e ∨ ∃ kvs u, R = .ok kvs e u
theorem field_cut {s : Str} {x : Sp} {kvs : List (Key × T)} {r y : List Nat} (hs : NmK s) (hx : Ends z f x) (e : s.cps.toList ++ (58 :: 32 :: x.w) = r ++ y) (hy : y ≠ []) (h : Rem z p r) : FEnd (p + r.length) (fieldR f z kvs p u) := by
  obtain ⟨c, cs, e0, c1, c2, c3⟩ := hs
  rw [e0] at e
  replace e : c :: (cs ++ (58 :: 32 :: x.w)) = r ++ y := e
  cases r with
  | nil => exact .inl (by unfold fieldR; rw [h.hd]; rfl)
  | cons d r =>
    replace e := List.cons.inj e
    obtain ⟨e1, e⟩ := e
    subst e1
    have name : ∀ a, r = cs ++ a ∧ a = [] ∨ (∃ b, cs = r ++ b) → FEnd (p + (c :: r).length) (fieldR f z kvs p u) := by
      intro a hh
      have hr : (∀ d, d ∈ r → isL d = true) ∧ r.length ≤ 7 := by
        rcases hh with ⟨h1, h2⟩ | ⟨b, h1⟩
        · subst h2; rw [List.append_nil] at h1; subst h1; exact ⟨c2, c3⟩
        · rw [h1] at c2 c3
          rw [List.length_append] at c3
          exact ⟨fun d hd => c2 d (List.mem_append_left _ hd), by omega⟩
      refine .inl ?_
      unfold fieldR
      rw [h.hd]
      show (if isL c = true then _ else _) = _
      rw [if_pos c1]
      rw [List.length_cons, show p + (r.length + 1) = p + 1 + r.length by omega]
      rcases nameR_cut r 7 [c] (p + 1) hr.1 hr.2 h.nx with e3 | e3
      · rw [e3]
      · rw [e3]
        dsimp only
        have h4 : Rem z (p + 1 + r.length) [] := Rem.ap (a := r) (by rw [List.append_nil]; exact h.nx)
        rw [tkA_bad (cs := [58, 32]) (r := []) rfl (by simp) h4]
        rfl
    rcases cut_two e with ⟨a, ha, e3⟩ | ⟨a, ha, e3, e4⟩
    · cases a with
      | nil => exact name [] (.inl ⟨ha, rfl⟩)
      | cons d a =>
        replace e3 : 58 :: 32 :: x.w = d :: (a ++ y) := e3
        replace e3 := List.cons.inj e3
        obtain ⟨e1, e3⟩ := e3
        subst e1
        subst ha
        have h2 : Rem z (p + 1 + cs.length) (58 :: a) := h.nx.ap
        unfold fieldR
        rw [h.hd]
        show FEnd _ (if isL c = true then _ else _)
        rw [if_pos c1, nameR_ok cs 7 [c] (p + 1) _ c2 c3 h.nx]
        dsimp only
        cases a with
        | nil =>
          rw [tkA_bad (cs := [58, 32]) (r := [58]) (y := [32]) rfl (by simp) h2]
          refine .inl ?_
          simp only [List.length_cons, List.length_append, List.length_nil]
          congr 1; omega
        | cons d a =>
          replace e3 : 32 :: x.w = d :: (a ++ y) := e3
          replace e3 := List.cons.inj e3
          obtain ⟨e1, e3⟩ := e3
          subst e1
          rw [tkA_ok (cs := [58, 32]) h2]
          dsimp only
          have h3 : Rem z (p + 1 + cs.length + [58, 32].length) a := Rem.ap (a := [58, 32]) h2
          have := hx _ (twU kvs ⟨([c] ++ cs).toArray⟩ u) a y e3 hy h3
          have el : p + 1 + cs.length + [58, 32].length + a.length = p + (c :: (cs ++ 58 :: 32 :: a)).length := by simp only [List.length_cons, List.length_append, List.length_nil]; omega
          rw [el] at this
          rcases this with g | ⟨t, u2, g⟩
          · rw [g]; exact .inl rfl
          · rw [g]; exact .inr ⟨_, _, rfl⟩
    · exact name [] (.inr ⟨a, e3⟩)
theorem tailF_fol {xs : List (Str × Sp)} {k : List Nat} : Fol (tailF xs ++ 125 :: k) := by
  cases xs with
  | nil => exact fol_cons (.inr (.inr (.inl rfl)))
  | cons x r => exact fol_cons (.inl rfl)
theorem fld_end : ∀ {n : Nat} {kvs : List (Key × T)}, sg z p ≠ some 44 → fldMore f z n kvs p u = closeR z 125 (.dct kvs) p u
  | 0, kvs, h => rfl
  | n + 1, kvs, h => by unfold fldMore; rw [if_neg h]; exact fld_end h
theorem fld_more : ∀ (xs : List (Str × Sp)) (n : Nat) (kvs : List (Key × T)) (p : Nat) (u : Option Str) (k : List Nat), (∀ x, x ∈ xs → NmK x.1 ∧ Reads z f x.2) → xs.length ≤ n → Rem z p (tailF xs ++ 125 :: k) →
    fldMore f z n kvs p u = .ok (.dct (putF kvs xs)) (p + (tailF xs).length + 1) (twx (nsF kvs xs) u)
  | [], n, kvs, p, u, k, _, _, h => by
    rw [fld_end (by rw [h.hd]; exact fun e => by injection e with e; cases e), close_ok h]
    show _ = Rr.ok (.dct kvs) (p + 0 + 1) (twx [] u)
    rw [twx_nil]
  | x :: xs, 0, kvs, p, u, k, _, hl, h => absurd hl (by rw [List.length_cons]; omega)
  | x :: xs, n + 1, kvs, p, u, k, hr, hl, h => by
    have h1 : Rem z p (44 :: 32 :: (x.1.cps.toList ++ (58 :: 32 :: (x.2.w ++ (tailF xs ++ 125 :: k))))) := by
      have e : tailF (x :: xs) ++ 125 :: k = 44 :: 32 :: (x.1.cps.toList ++ (58 :: 32 :: (x.2.w ++ (tailF xs ++ 125 :: k)))) := by
        show 44 :: 32 :: (x.1.cps.toList ++ (58 :: 32 :: (x.2.w ++ tailF xs))) ++ 125 :: k = _
        simp
      rw [← e]; exact h
    unfold fldMore
    rw [if_pos h1.hc, tkA_ok (cs := [44, 32]) h1]
    dsimp only
    have h2 : Rem z (p + 2) (x.1.cps.toList ++ (58 :: 32 :: (x.2.w ++ (tailF xs ++ 125 :: k)))) := Rem.ap (a := [44, 32]) h1
    have h3 : Rem z (p + 2 + (x.1.cps.toList.length + 2 + x.2.w.length)) (tailF xs ++ 125 :: k) := by
      have := Rem.ap (a := x.2.w) (Rem.ap (a := [58, 32]) (Rem.ap h2))
      rwa [show p + 2 + x.1.cps.toList.length + [58, 32].length + x.2.w.length = p + 2 + (x.1.cps.toList.length + 2 + x.2.w.length) by show p + 2 + x.1.cps.toList.length + 2 + x.2.w.length = _; omega] at this
    rw [show p + [44, 32].length = p + 2 from rfl, field_ok (hr x (List.Mem.head _)).1 (hr x (List.Mem.head _)).2 h2 tailF_fol]
    dsimp only
    rw [fld_more xs n _ _ _ k (fun y hy => hr y (List.Mem.tail _ hy)) (by rw [List.length_cons] at hl; omega) h3]
    have e1 : (tailF (x :: xs)).length = 2 + (x.1.cps.toList.length + 2 + x.2.w.length) + (tailF xs).length := by
      show (44 :: 32 :: (x.1.cps.toList ++ (58 :: 32 :: (x.2.w ++ tailF xs)))).length = _
      simp only [List.length_cons, List.length_append]; omega
    rw [← twx_app, ← twx_app, e1, show p + 2 + (x.1.cps.toList.length + 2 + x.2.w.length) + (tailF xs).length + 1 = p + (2 + (x.1.cps.toList.length + 2 + x.2.w.length) + (tailF xs).length) + 1 by omega]
    rfl
theorem fld_cut : ∀ (xs : List (Str × Sp)) (n : Nat) (kvs : List (Key × T)) (p : Nat) (u : Option Str) (r y : List Nat), (∀ x, x ∈ xs → NmK x.1 ∧ Reads z f x.2 ∧ Ends z f x.2) → xs.length ≤ n → tailF xs ++ [125] = r ++ y → y ≠ [] → Rem z p r →
    fldMore f z n kvs p u = .bad (p + r.length)
  | xs, n, kvs, p, u, [], y, _, _, _, _, h => by
    rw [fld_end (by rw [h.hd]; exact fun e => nomatch e), close_bad h]; rfl
  | [], n, kvs, p, u, d :: r, y, _, _, e, hy, h => by
    replace e : [125] = d :: (r ++ y) := e
    injection e with e1 e2
    exact absurd (List.append_eq_nil_iff.mp e2.symm).2 hy
  | x :: xs, 0, kvs, p, u, d :: r, y, _, hl, _, _, h => absurd hl (by rw [List.length_cons]; omega)
  | x :: xs, n + 1, kvs, p, u, d :: r, y, hr, hl, e, hy, h => by
    replace e : 44 :: 32 :: (x.1.cps.toList ++ (58 :: 32 :: (x.2.w ++ tailF xs))) ++ [125] = d :: r ++ y := e
    replace e : 44 :: 32 :: ((x.1.cps.toList ++ (58 :: 32 :: (x.2.w ++ tailF xs))) ++ [125]) = d :: (r ++ y) := e
    replace e := List.cons.inj e
    obtain ⟨e1, e2⟩ := e
    subst e1
    unfold fldMore
    rw [if_pos h.hc]
    cases r with
    | nil =>
      rw [tkA_bad (cs := [44, 32]) (r := [44]) (y := [32]) rfl (by simp) h]
    | cons d r =>
      replace e2 := List.cons.inj e2
      obtain ⟨e1, e2⟩ := e2
      subst e1
      rw [tkA_ok (cs := [44, 32]) h]
      dsimp only
      have h2 : Rem z (p + [44, 32].length) r := Rem.ap (a := [44, 32]) h
      replace e2 : (x.1.cps.toList ++ (58 :: 32 :: x.2.w)) ++ (tailF xs ++ [125]) = r ++ y := Eq.trans (by simp) e2
      obtain ⟨g1, g2, g3⟩ := hr x (List.Mem.head _)
      rcases cut_two e2 with ⟨a, rfl, e3⟩ | ⟨a, ha, e3, e4⟩
      · have hF : Fol a := by
          cases a with
          | nil => exact fol_nil
          | cons c a => 
            have := tailF_fol (xs := xs) (k := [])
            rw [e3] at this
            exact this
        have h2' : Rem z (p + [44, 32].length) (x.1.cps.toList ++ (58 :: 32 :: (x.2.w ++ a))) := by
          have e : x.1.cps.toList ++ 58 :: 32 :: x.2.w ++ a = x.1.cps.toList ++ (58 :: 32 :: (x.2.w ++ a)) := by simp
          rw [← e]; exact h2
        have h3 : Rem z (p + [44, 32].length + (x.1.cps.toList.length + 2 + x.2.w.length)) a := by
          have := h2.ap
          rwa [show (x.1.cps.toList ++ 58 :: 32 :: x.2.w).length = x.1.cps.toList.length + 2 + x.2.w.length by simp only [List.length_cons, List.length_append]; omega] at this
        rw [field_ok g1 g2 h2' hF]
        dsimp only
        rw [fld_cut xs n _ _ _ a y (fun y hy => hr y (List.Mem.tail _ hy)) (by rw [List.length_cons] at hl; omega) e3 hy h3]
        simp only [List.length_cons, List.length_append, List.length_nil]
        congr 1; omega
      · have hE := field_cut (kvs := kvs) (u := u) g1 g3 e3 ha h2
        have el : p + [44, 32].length + r.length = p + (44 :: 32 :: r).length := by simp only [List.length_cons, List.length_nil]; omega
        rw [el] at hE
        rcases hE with hE | ⟨t, u2, hE⟩
        · rw [hE]
        · rw [hE]
          dsimp only
          have h3 : Rem z (p + (44 :: 32 :: r).length) [] := by
            have := Rem.ap (a := r) (r := []) (by rw [List.append_nil]; exact h2)
            rwa [el] at this
          rw [fld_end (by rw [h3.hd]; exact fun e => nomatch e), close_bad h3]
end
end Pu

namespace Pu
open PySem PySem.Spec PyProof.Rows L2 He Hk
section
variable {z : Str} {p n : Nat} {r k : List Nat} {u : Option Str} {f : Rf}
theorem any_at {c : Nat} (h : sg z p = some c) : anyR z n p u = if c = 34 then quotR z p u else if c = 91 then rowR n (inR z n) z p u else if c = 123 then fldsR n (inR z n) z p u
    else if c = 121 then mapR (.bl true) (tkA z [121, 101, 115] p u) else if c = 110 then noR z p u else numR z p u := by
  rw [anyR_eq]; unfold anyF; rw [h]; simp only [Option.some.injEq]
theorem num_end (h : Rem z p []) {b : Bool} : numA z b p u = .bad p := by
  have : sg z p = none := h.hd
  unfold numA; rw [this]
theorem any_end (h : Rem z p []) : anyR z n p u = .bad p := by
  have e : sg z p = none := h.hd
  rw [anyR_eq]; unfold anyF
  have ne : ∀ c : Nat, sg z p ≠ some c := fun c e2 => by rw [e] at e2; cases e2
  rw [if_neg (ne _), if_neg (ne _), if_neg (ne _), if_neg (ne _), if_neg (ne _)]
  unfold numR
  rw [if_neg (ne _), if_neg (ne _), num_end h]
def esc : List Nat → List Nat
  | [] => []
  | c :: r => if c = 34 then 34 :: 34 :: esc r else c :: esc r
theorem q_ok : ∀ (cs : List Nat) (m : Nat) (acc : List Nat) (p : Nat) (k : List Nat), (∀ c, c ∈ cs → signB c = true) → cs.length ≤ m → k.head? ≠ some 34 → Rem z p (esc cs ++ 34 :: k) →
    qR z m acc p u = .ok (.str ⟨(acc ++ cs).toArray⟩) (p + (esc cs).length + 1) u
  | [], m, acc, p, k, _, _, hk, h => by
    have h : Rem z p (34 :: k) := h
    rw [List.append_nil]
    cases m with
    | zero => unfold qR; rw [if_pos h.hc]; rfl
    | succ m => unfold qR; rw [if_pos ⟨h.hc, fun e => hk (by rw [← h.nx.hd]; exact e)⟩]; rfl
  | c :: cs, 0, acc, p, k, _, hl, _, h => absurd hl (by rw [List.length_cons]; omega)
  | c :: cs, m + 1, acc, p, k, hc, hl, hk, h => by
    have c1 := hc c (List.Mem.head _)
    replace hl : cs.length ≤ m := by rw [List.length_cons] at hl; omega
    conv => lhs; unfold qR
    by_cases c2 : c = 34
    · have h : Rem z p (34 :: 34 :: (esc cs ++ 34 :: k)) := by
        have e : esc (c :: cs) ++ 34 :: k = 34 :: 34 :: (esc cs ++ 34 :: k) := by
          show (if c = 34 then _ else _) ++ _ = _
          rw [if_pos c2]; rfl
        rw [← e]; exact h
      rw [if_neg (fun e => e.2 h.nx.hc), h.hd]
      show (if signB 34 = true then _ else _) = _
      rw [c2] at c1
      rw [if_pos c1, if_pos rfl, q_ok cs m _ _ k (fun d hd => hc d (List.Mem.tail _ hd)) hl hk h.nx.nx, c2]
      rw [show (esc (34 :: cs)).length = (esc cs).length + 2 from rfl, List.append_assoc, show p + 1 + 1 + (esc cs).length + 1 = p + ((esc cs).length + 2) + 1 by omega]
      rfl
    · have e : esc (c :: cs) = c :: esc cs := by
        show (if c = 34 then _ else _) = _
        rw [if_neg c2]
      rw [e] at h ⊢
      have h : Rem z p (c :: (esc cs ++ 34 :: k)) := h
      rw [if_neg (fun e => c2 (by have e := e.1; rw [h.hd] at e; injection e)), h.hd]
      show (if signB c = true then _ else _) = _
      rw [if_pos c1, if_neg c2, q_ok cs m _ _ k (fun d hd => hc d (List.Mem.tail _ hd)) hl hk h.nx, List.append_assoc, List.length_cons, show p + 1 + 0 + (esc cs).length + 1 = p + ((esc cs).length + 1) + 1 by omega]
      rfl
theorem q_end {m : Nat} {acc : List Nat} (h : Rem z p []) : qR z m acc p u = .bad p := by
  have e : sg z p = none := h.hd
  cases m with
  | zero => unfold qR; rw [e, if_neg (fun e => nomatch e)]
  | succ m => unfold qR; rw [e, if_neg (fun e => nomatch e.1)]
theorem q_cut : ∀ (cs : List Nat) (m : Nat) (acc : List Nat) (p : Nat) (r y : List Nat), (∀ c, c ∈ cs → signB c = true) → cs.length ≤ m → esc cs ++ [34] = r ++ y → y ≠ [] → Rem z p r →
    EndR (p + r.length) (qR z m acc p u)
  | cs, m, acc, p, [], y, _, _, _, _, h => .inl (q_end h)
  | [], m, acc, p, d :: r, y, _, _, e, hy, h => by
    replace e : [34] = d :: (r ++ y) := e
    injection e with e1 e2
    exact absurd (List.append_eq_nil_iff.mp e2.symm).2 hy
  | c :: cs, 0, acc, p, d :: r, y, _, hl, _, _, h => absurd hl (by rw [List.length_cons]; omega)
  | c :: cs, m + 1, acc, p, d :: r, y, hc, hl, e, hy, h => by
    have c1 := hc c (List.Mem.head _)
    replace hl : cs.length ≤ m := by rw [List.length_cons] at hl; omega
    by_cases c2 : c = 34
    · subst c2
      replace e : 34 :: 34 :: (esc cs ++ [34]) = d :: (r ++ y) := e
      replace e := List.cons.inj e
      obtain ⟨e1, e2⟩ := e
      subst e1
      cases r with
      | nil =>
        unfold qR
        rw [if_pos ⟨h.hc, fun e => by rw [h.nx.hd] at e; cases e⟩]
        exact .inr ⟨_, _, rfl⟩
      | cons d r =>
        replace e2 : 34 :: (esc cs ++ [34]) = d :: (r ++ y) := e2
        replace e2 := List.cons.inj e2
        obtain ⟨e1, e2⟩ := e2
        subst e1
        unfold qR
        rw [if_neg (fun e => e.2 h.nx.hc), h.hd]
        show EndR _ (if signB 34 = true then _ else _)
        rw [if_pos c1, if_pos rfl]
        refine (q_cut cs m _ _ r y (fun d hd => hc d (List.Mem.tail _ hd)) hl e2 hy h.nx.nx).cast ?_
        simp only [List.length_cons]; omega
    · have e0 : esc (c :: cs) = c :: esc cs := by
        show (if c = 34 then _ else _) = _
        rw [if_neg c2]
      rw [e0] at e
      replace e : c :: (esc cs ++ [34]) = d :: (r ++ y) := e
      replace e := List.cons.inj e
      obtain ⟨e1, e2⟩ := e
      subst e1
      unfold qR
      rw [if_neg (fun e => c2 (by have e := e.1; rw [h.hd] at e; injection e)), h.hd]
      show EndR _ (if signB c = true then _ else _)
      rw [if_pos c1, if_neg c2]
      refine (q_cut cs m _ _ r y (fun d hd => hc d (List.Mem.tail _ hd)) hl e2 hy h.nx).cast ?_
      simp only [List.length_cons]; omega
def rowW (x : Sp) (r : List Sp) : List Nat := 91 :: (x.w ++ (tailC r ++ [93]))
def fldW (s : Str) (x : Sp) (r : List (Str × Sp)) : List Nat := 123 :: (s.cps.toList ++ (58 :: 32 :: (x.w ++ (tailF r ++ [125]))))
def tagR : T := .str "row"
def tagF : T := .str "fields"
def rowS (x : Sp) (r : List Sp) : Sp := ⟨.lst [tagR, .lst ((x :: r).map Sp.t)], rowW x r, .lst ((x :: r).map Sp.v), nss (x :: r)⟩
def fldS (s : Str) (x : Sp) (r : List (Str × Sp)) : Sp := ⟨.lst [tagF, .lst (((s, x) :: r).map fun y => .tup [.str y.1, y.2.t])], fldW s x r, .dct (putF [] ((s, x) :: r)), nsF [] ((s, x) :: r)⟩
theorem row_ok {x : Sp} {xs : List Sp} {m : Nat} (hm : 0 < m) (hl : xs.length ≤ 5) (hr : ∀ y, y ∈ x :: xs → Reads z f y) (hx : ∃ c r, x.w = c :: r ∧ c ≠ 93) (h : Rem z p (rowW x xs ++ k)) :
    rowR m f z p u = .ok (rowS x xs).v (p + (rowW x xs).length) (twx (rowS x xs).ns u) := by
  have h : Rem z p (91 :: (x.w ++ (tailC xs ++ 93 :: k))) := by
    have e : rowW x xs ++ k = 91 :: (x.w ++ (tailC xs ++ 93 :: k)) := by unfold rowW; simp
    rw [← e]; exact h
  obtain ⟨c, r, e, hc⟩ := hx
  have h0 : sg z (p + 1) ≠ some 93 := by
    have := h.nx.hd
    rw [e] at this
    intro e2
    rw [this] at e2
    injection e2 with e2
    exact hc e2
  unfold rowR
  rw [if_pos h.hc, if_pos ⟨hm, h0⟩, hr x (List.Mem.head _) _ u _ h.nx tailC_fol]
  dsimp only
  rw [row_more xs 5 [x.v] _ _ k (fun y hy => hr y (List.Mem.tail _ hy)) hl h.nx.ap]
  have e1 : (rowW x xs).length = 1 + x.w.length + (tailC xs).length + 1 := by unfold rowW; simp only [List.length_cons, List.length_append, List.length_nil]; omega
  rw [e1, ← twx_app, show p + 1 + x.w.length + (tailC xs).length + 1 = p + (1 + x.w.length + (tailC xs).length + 1) by omega]
  rfl
theorem row_bad {x : Sp} {xs : List Sp} {m : Nat} {y : List Nat} (hm : 0 < m) (hl : xs.length ≤ 5) (hr : ∀ y, y ∈ x :: xs → Reads z f y ∧ Ends z f y) (hx : ∃ c r, x.w = c :: r ∧ c ≠ 93) (hE : ∀ p u, Rem z p [] → f p u = .bad p) (e : rowW x xs = r ++ y) (hy : y ≠ []) (h : Rem z p r) :
    rowR m f z p u = .bad (p + r.length) := by
  cases r with
  | nil => unfold rowR; rw [if_neg (by rw [h.hd]; exact fun e => nomatch e)]; rfl
  | cons d r =>
    replace e : 91 :: (x.w ++ (tailC xs ++ [93])) = d :: (r ++ y) := e
    replace e := List.cons.inj e
    obtain ⟨e1, e⟩ := e
    subst e1
    unfold rowR
    rw [if_pos h.hc]
    obtain ⟨c, w0, e0, hc⟩ := hx
    have h0 : sg z (p + 1) ≠ some 93 := by
      rw [h.nx.hd]
      cases r with
      | nil => exact fun e => nomatch e
      | cons a r =>
        rw [e0] at e
        replace e := List.cons.inj e
        obtain ⟨e1, e⟩ := e
        subst e1
        intro e2
        injection e2 with e2
        exact hc e2
    rw [if_pos ⟨hm, h0⟩]
    obtain ⟨g1, g2⟩ := hr x (List.Mem.head _)
    rcases cut_two e with ⟨a, rfl, e3⟩ | ⟨a, ha, e3, e4⟩
    · have hF : Fol a := by
        cases a with
        | nil => exact fol_nil
        | cons c a =>
          have := tailC_fol (xs := xs) (k := [])
          rw [e3] at this
          exact this
      rw [g1 _ u a h.nx hF]
      dsimp only
      rw [row_cut xs 5 _ _ _ a y (fun y hy => hr y (List.Mem.tail _ hy)) hl e3 hy h.nx.ap]
      simp only [List.length_cons, List.length_append, List.length_nil]
      congr 1; omega
    · have el : p + 1 + r.length = p + (91 :: r).length := by simp only [List.length_cons]; omega
      have hE := g2 _ u r a e3 ha h.nx
      rw [el] at hE
      rcases hE with hE | ⟨t, u2, hE⟩
      · rw [hE]
      · rw [hE]
        dsimp only
        have h3 : Rem z (p + (91 :: r).length) [] := by
          have := Rem.ap (a := r) (r := []) (by rw [List.append_nil]; exact h.nx)
          rwa [el] at this
        rw [row_end (by rw [h3.hd]; exact fun e => nomatch e), close_bad h3]
theorem nm_ne {s : Str} (h : NmK s) : s.cps.toList.head? ≠ some 125 := by
  obtain ⟨c, cs, e, c1, _⟩ := h
  rw [e]
  intro e2
  injection e2 with e2
  rw [e2, isL_125] at c1
  cases c1
theorem flds_ok {s : Str} {x : Sp} {xs : List (Str × Sp)} {m : Nat} (hm : 0 < m) (hl : xs.length ≤ 7) (hr : ∀ y, y ∈ (s, x) :: xs → NmK y.1 ∧ Reads z f y.2) (h : Rem z p (fldW s x xs ++ k)) :
    fldsR m f z p u = .ok (fldS s x xs).v (p + (fldW s x xs).length) (twx (fldS s x xs).ns u) := by
  have h : Rem z p (123 :: (s.cps.toList ++ (58 :: 32 :: (x.w ++ (tailF xs ++ 125 :: k))))) := by
    have e : fldW s x xs ++ k = 123 :: (s.cps.toList ++ (58 :: 32 :: (x.w ++ (tailF xs ++ 125 :: k)))) := by unfold fldW; simp
    rw [← e]; exact h
  obtain ⟨g1, g2⟩ := hr (s, x) (List.Mem.head _)
  have h0 : sg z (p + 1) ≠ some 125 := by
    rw [h.nx.hd]
    have := nm_ne g1
    obtain ⟨c, cs, e, _⟩ := g1
    dsimp only at e this
    rw [e] at this ⊢
    exact this
  unfold fldsR
  rw [if_pos h.hc, if_pos ⟨hm, h0⟩, field_ok g1 g2 h.nx tailF_fol]
  dsimp only
  have h3 : Rem z (p + 1 + (s.cps.toList.length + 2 + x.w.length)) (tailF xs ++ 125 :: k) := by
    have := Rem.ap (a := x.w) (Rem.ap (a := [58, 32]) (Rem.ap h.nx))
    rwa [show p + 1 + s.cps.toList.length + [58, 32].length + x.w.length = p + 1 + (s.cps.toList.length + 2 + x.w.length) by show p + 1 + s.cps.toList.length + 2 + x.w.length = _; omega] at this
  rw [fld_more xs 7 _ _ _ k (fun y hy => hr y (List.Mem.tail _ hy)) hl h3]
  have e1 : (fldW s x xs).length = 1 + (s.cps.toList.length + 2 + x.w.length) + (tailF xs).length + 1 := by unfold fldW; simp only [List.length_cons, List.length_append, List.length_nil]; omega
  rw [e1, ← twx_app, ← twx_app, show p + 1 + (s.cps.toList.length + 2 + x.w.length) + (tailF xs).length + 1 = p + (1 + (s.cps.toList.length + 2 + x.w.length) + (tailF xs).length + 1) by omega]
  rfl
theorem flds_bad {s : Str} {x : Sp} {xs : List (Str × Sp)} {m : Nat} {y : List Nat} (hm : 0 < m) (hl : xs.length ≤ 7) (hr : ∀ y, y ∈ (s, x) :: xs → NmK y.1 ∧ Reads z f y.2 ∧ Ends z f y.2) (e : fldW s x xs = r ++ y) (hy : y ≠ []) (h : Rem z p r) :
    fldsR m f z p u = .bad (p + r.length) := by
  cases r with
  | nil => unfold fldsR; rw [if_neg (by rw [h.hd]; exact fun e => nomatch e)]; rfl
  | cons d r =>
    replace e : 123 :: (s.cps.toList ++ (58 :: 32 :: (x.w ++ (tailF xs ++ [125])))) = d :: (r ++ y) := e
    replace e := List.cons.inj e
    obtain ⟨e1, e⟩ := e
    subst e1
    unfold fldsR
    rw [if_pos h.hc]
    obtain ⟨g1, g2, g3⟩ := hr (s, x) (List.Mem.head _)
    have g1' : NmK s := g1
    have h0 : sg z (p + 1) ≠ some 125 := by
      rw [h.nx.hd]
      cases r with
      | nil => exact fun e => nomatch e
      | cons a r =>
        have := nm_ne g1'
        obtain ⟨c, cs, e0, _⟩ := g1'
        rw [e0] at e this
        replace e := List.cons.inj e
        obtain ⟨e1, e⟩ := e
        subst e1
        exact this
    rw [if_pos ⟨hm, h0⟩]
    replace e : (s.cps.toList ++ (58 :: 32 :: x.w)) ++ (tailF xs ++ [125]) = r ++ y := Eq.trans (by simp) e
    rcases cut_two e with ⟨a, rfl, e3⟩ | ⟨a, ha, e3, e4⟩
    · have hF : Fol a := by
        cases a with
        | nil => exact fol_nil
        | cons c a =>
          have := tailF_fol (xs := xs) (k := [])
          rw [e3] at this
          exact this
      have h2' : Rem z (p + 1) (s.cps.toList ++ (58 :: 32 :: (x.w ++ a))) := by
        have e : s.cps.toList ++ 58 :: 32 :: x.w ++ a = s.cps.toList ++ (58 :: 32 :: (x.w ++ a)) := by simp
        rw [← e]; exact h.nx
      have h3 : Rem z (p + 1 + (s.cps.toList.length + 2 + x.w.length)) a := by
        have := h.nx.ap
        rwa [show (s.cps.toList ++ 58 :: 32 :: x.w).length = s.cps.toList.length + 2 + x.w.length by simp only [List.length_cons, List.length_append]; omega] at this
      rw [field_ok g1 g2 h2' hF]
      dsimp only
      rw [fld_cut xs 7 _ _ _ a y (fun y hy => hr y (List.Mem.tail _ hy)) hl e3 hy h3]
      simp only [List.length_cons, List.length_append, List.length_nil]
      congr 1; omega
    · have el : p + 1 + r.length = p + (123 :: r).length := by simp only [List.length_cons]; omega
      have hE := field_cut (kvs := []) (u := u) g1 g3 e3 ha h.nx
      rw [el] at hE
      rcases hE with hE | ⟨t, u2, hE⟩
      · rw [hE]
      · rw [hE]
        dsimp only
        have h3 : Rem z (p + (123 :: r).length) [] := by
          have := Rem.ap (a := r) (r := []) (by rw [List.append_nil]; exact h.nx)
          rwa [el] at this
        rw [fld_end (by rw [h3.hd]; exact fun e => nomatch e), close_bad h3]
def SpO (L : Sp → Prop) : Nat → Sp → Prop
  | 0, s => L s
  | n + 1, s => L s ∨ (∃ x r, r.length ≤ 5 ∧ (∀ y, y ∈ x :: r → SpO L n y) ∧ s = rowS x r) ∨ (∃ nm x r, r.length ≤ 7 ∧ (∀ y, y ∈ (nm, x) :: r → NmK y.1 ∧ SpO L n y.2) ∧ s = fldS nm x r)
def GoodS (n : Nat) (x : Sp) : Prop := (∀ z m, n ≤ m → Reads z (anyR z m) x ∧ Ends z (anyR z m) x) ∧ ∃ c r, x.w = c :: r ∧ c ≠ 93
theorem spo_good {L : Sp → Prop} (hL : ∀ x, L x → GoodS 0 x) : ∀ (n : Nat) (x : Sp), SpO L n x → GoodS n x
  | 0, x, h => hL x h
  | n + 1, s, h => by
    rcases h with h | ⟨x, r, hl, hr, rfl⟩ | ⟨nm, x, r, hl, hr, rfl⟩
    · exact ⟨fun z m _ => (hL s h).1 z m (Nat.zero_le _), (hL s h).2⟩
    · have ih : ∀ y, y ∈ x :: r → GoodS n y := fun y hy => spo_good hL n y (hr y hy)
      refine ⟨fun z m hm => ?_, 91, x.w ++ (tailC r ++ [93]), rfl, by decide⟩
      obtain ⟨m, rfl⟩ : ∃ k, m = k + 1 := ⟨m - 1, by omega⟩
      have g : ∀ y, y ∈ x :: r → Reads z (anyR z m) y ∧ Ends z (anyR z m) y := fun y hy => (ih y hy).1 z m (by omega)
      constructor
      · intro p u k h hk
        have h1 : sg z p = some 91 := h.hd
        rw [any_at h1, if_neg (by decide), if_pos rfl]
        exact row_ok (Nat.succ_pos m) hl (fun y hy => (g y hy).1) (ih x (List.Mem.head _)).2 h
      · intro p u w y e hy h
        cases w with
        | nil => exact .inl (any_end h)
        | cons d w =>
          have e1 : 91 :: (x.w ++ (tailC r ++ [93])) = d :: (w ++ y) := e
          replace e1 := List.cons.inj e1
          obtain ⟨e1, e2⟩ := e1
          subst e1
          have h1 : sg z p = some 91 := h.hd
          rw [any_at h1, if_neg (by decide), if_pos rfl]
          exact .inl (row_bad (Nat.succ_pos m) hl g (ih x (List.Mem.head _)).2 (fun p u h => any_end h) e hy h)
    · have ih : ∀ y, y ∈ (nm, x) :: r → GoodS n y.2 := fun y hy => spo_good hL n y.2 (hr y hy).2
      refine ⟨fun z m hm => ?_, 123, nm.cps.toList ++ (58 :: 32 :: (x.w ++ (tailF r ++ [125]))), rfl, by decide⟩
      obtain ⟨m, rfl⟩ : ∃ k, m = k + 1 := ⟨m - 1, by omega⟩
      have g : ∀ y, y ∈ (nm, x) :: r → NmK y.1 ∧ Reads z (anyR z m) y.2 ∧ Ends z (anyR z m) y.2 := fun y hy => ⟨(hr y hy).1, (ih y hy).1 z m (by omega)⟩
      constructor
      · intro p u k h hk
        have h1 : sg z p = some 123 := h.hd
        rw [any_at h1, if_neg (by decide), if_neg (by decide), if_pos rfl]
        exact flds_ok (Nat.succ_pos m) hl (fun y hy => ⟨(g y hy).1, (g y hy).2.1⟩) h
      · intro p u w y e hy h
        cases w with
        | nil => exact .inl (any_end h)
        | cons d w =>
          have e1 : 123 :: (nm.cps.toList ++ (58 :: 32 :: (x.w ++ (tailF r ++ [125])))) = d :: (w ++ y) := e
          replace e1 := List.cons.inj e1
          obtain ⟨e1, e2⟩ := e1
          subst e1
          have h1 : sg z p = some 123 := h.hd
          rw [any_at h1, if_neg (by decide), if_neg (by decide), if_pos rfl]
          exact .inl (flds_bad (Nat.succ_pos m) hl g e hy h)
theorem rem_all {cs : List Nat} : Rem ⟨cs.toArray⟩ 0 cs := by unfold Rem; simp
theorem len_of {cs : List Nat} : (⟨cs.toArray⟩ : Str).length = cs.length := by show cs.toArray.size = _; simp
def outR (x : Sp) : Wr := match x.ns with
  | [] => .read x.v
  | a :: _ => .twice a
theorem rw_full {n : Nat} {x : Sp} (hn : n ≤ 3) (h : GoodS n x) : rwR ⟨x.w.toArray⟩ = outR x := by
  unfold rwR
  rw [((h.1 ⟨x.w.toArray⟩ 3 hn).1 0 none [] (by rw [List.append_nil]; exact rem_all) fol_nil)]
  dsimp only
  rw [Nat.zero_add, if_neg (by rw [len_of]; omega)]
  unfold outR
  cases x.ns <;> rfl
theorem rw_more {n c : Nat} {x : Sp} (hn : n ≤ 3) (h : GoodS n x) (hc : Fol [c]) : rwR ⟨(x.w ++ [c]).toArray⟩ = .bad x.w.length := by
  unfold rwR
  rw [((h.1 ⟨(x.w ++ [c]).toArray⟩ 3 hn).1 0 none [c] rem_all hc)]
  dsimp only
  rw [Nat.zero_add, if_pos (by rw [len_of, List.length_append]; exact Nat.lt_succ_self _)]
theorem rw_cut {n : Nat} {x : Sp} {xs : List Sp} {r y : List Nat} (hn : n ≤ 2) (hl : xs.length ≤ 5) (hr : ∀ y, y ∈ x :: xs → GoodS n y) (e : rowW x xs = r ++ y) (hy : y ≠ []) : rwR ⟨r.toArray⟩ = .bad r.length := by
  unfold rwR
  have e2 : anyR ⟨r.toArray⟩ 3 0 none = .bad r.length := by
    cases r with
    | nil => exact any_end rem_all
    | cons d w =>
      have e1 : 91 :: (x.w ++ (tailC xs ++ [93])) = d :: (w ++ y) := e
      replace e1 := List.cons.inj e1
      obtain ⟨e1, e2⟩ := e1
      subst e1
      have h1 : sg ⟨(91 :: w).toArray⟩ 0 = some 91 := rem_all.hd
      rw [any_at h1, if_neg (by decide), if_pos rfl]
      have := row_bad (m := 3) (p := 0) (u := none) (z := ⟨(91 :: w).toArray⟩) (f := anyR ⟨(91 :: w).toArray⟩ 2) (by decide) hl (fun y hy => (hr y hy).1 _ 2 hn) (hr x (List.Mem.head _)).2 (fun p u h => any_end h) e hy rem_all
      rw [Nat.zero_add] at this
      exact this
  rw [e2]
end
end Pu

namespace Pu
open PySem PySem.Spec PyProof.Rows L2 He Hk
section
variable {z : Str} {p n : Nat} {r k : List Nat} {u : Option Str} {f : Rf}
def lf (w : List Nat) (v : T) : Sp := ⟨.str ⟨w.toArray⟩, w, v, []⟩
def qB : List Nat := [97, 58, 32, 49, 44, 32, 97, 58, 32, 50]
def thingW : List Nat := [110, 111, 116, 104, 105, 110, 103]
def Leaf6 (x : Sp) : Prop := x = lf [110, 111] (.bl false) ∨ x = lf [45, 55] (.int (-7)) ∨ x = lf (34 :: (qB ++ [34])) (.str ⟨qB.toArray⟩) ∨ x = lf [91, 93] (.lst []) ∨ x = lf [123, 125] (.dct []) ∨ x = lf thingW .non
theorem no_good : GoodS 0 (lf [110, 111] (.bl false)) := by
  refine ⟨fun z m _ => ⟨fun p u k h hk => ?_, fun p u r y e hy h => ?_⟩, 110, [111], rfl, by decide⟩
  · have h : Rem z p ([110, 111] ++ k) := h
    rw [any_at (c := 110) h.hd, if_neg (by decide), if_neg (by decide), if_neg (by decide), if_neg (by decide), if_pos rfl]
    unfold noR
    rw [tkA_ok (cs := [110, 111]) h]
    dsimp only
    rw [if_neg (fun e => (hk 116 (by rw [← h.ap.hd]; exact e)).2.1 rfl)]
    show _ = Rr.ok _ _ (twx [] u)
    rw [twx_nil]; rfl
  · replace e : [110, 111] = r ++ y := e
    cases r with
    | nil => exact .inl (any_end h)
    | cons c r =>
      replace e := List.cons.inj e
      obtain ⟨e1, e2⟩ := e
      subst e1
      rw [any_at (c := 110) h.hd, if_neg (by decide), if_neg (by decide), if_neg (by decide), if_neg (by decide), if_pos rfl]
      unfold noR
      rw [tkA_bad (cs := [110, 111]) (r := 110 :: r) (y := y) (by rw [e2]; rfl) hy h]
      exact .inl rfl
theorem nothing_good : GoodS 0 (lf thingW .non) := by
  refine ⟨fun z m _ => ⟨fun p u k h hk => ?_, fun p u r y e hy h => ?_⟩, 110, [111, 116, 104, 105, 110, 103], rfl, by decide⟩
  · have h : Rem z p ([110, 111] ++ ([116, 104, 105, 110, 103] ++ k)) := h
    rw [any_at (c := 110) h.hd, if_neg (by decide), if_neg (by decide), if_neg (by decide), if_neg (by decide), if_pos rfl]
    unfold noR
    rw [tkA_ok (cs := [110, 111]) h]
    dsimp only
    rw [if_pos h.ap.hc, tkA_ok (cs := [116, 104, 105, 110, 103]) h.ap]
    show _ = Rr.ok _ _ (twx [] u)
    rw [twx_nil]; rfl
  · replace e : [110, 111, 116, 104, 105, 110, 103] = r ++ y := e
    cases r with
    | nil => exact .inl (any_end h)
    | cons c r =>
      replace e := List.cons.inj e
      obtain ⟨e1, e2⟩ := e
      subst e1
      rw [any_at (c := 110) h.hd, if_neg (by decide), if_neg (by decide), if_neg (by decide), if_neg (by decide), if_pos rfl]
      unfold noR
      cases r with
      | nil =>
        rw [tkA_bad (cs := [110, 111]) (r := [110]) (y := [111]) rfl (by simp) h]
        exact .inl rfl
      | cons c r =>
        replace e2 := List.cons.inj e2
        obtain ⟨e1, e2⟩ := e2
        subst e1
        rw [tkA_ok (cs := [110, 111]) (r := r) h]
        dsimp only
        have h2 : Rem z (p + [110, 111].length) r := Rem.ap (a := [110, 111]) h
        cases r with
        | nil =>
          rw [if_neg (by rw [h2.hd]; exact fun e => nomatch e)]
          exact .inr ⟨_, _, rfl⟩
        | cons c r =>
          replace e2 := List.cons.inj e2
          obtain ⟨e1, e2⟩ := e2
          subst e1
          rw [if_pos h2.hc, tkA_bad (cs := [116, 104, 105, 110, 103]) (r := 116 :: r) (y := y) (by rw [e2]; rfl) hy h2]
          refine .inl ?_
          show Rr.bad _ = Rr.bad _
          simp only [List.length_cons, List.length_nil]
          congr 1; omega
theorem seven_good : GoodS 0 (lf [45, 55] (.int (-7))) := by
  refine ⟨fun z m _ => ⟨fun p u k h hk => ?_, fun p u r y e hy h => ?_⟩, 45, [55], rfl, by decide⟩
  · have h : Rem z p (45 :: 55 :: k) := h
    rw [any_at (c := 45) h.hd, if_neg (by decide), if_neg (by decide), if_neg (by decide), if_neg (by decide), if_neg (by decide)]
    have e : sg z (p + 1) = some 55 := h.nx.hd
    unfold numR numA
    rw [if_pos h.hc, e]
    show (if 49 ≤ 55 ∧ 55 ≤ 57 then _ else _) = _
    rw [if_pos (by decide), figsR_end (.inr fun c hc => (hk c (by rw [← h.nx.nx.hd]; exact hc)).1)]
    show _ = Rr.ok _ _ (twx [] u)
    rw [twx_nil]; rfl
  · replace e : [45, 55] = r ++ y := e
    cases r with
    | nil => exact .inl (any_end h)
    | cons c r =>
      replace e := List.cons.inj e
      obtain ⟨e1, e2⟩ := e
      subst e1
      rw [any_at (c := 45) h.hd, if_neg (by decide), if_neg (by decide), if_neg (by decide), if_neg (by decide), if_neg (by decide)]
      cases r with
      | nil =>
        unfold numR
        rw [if_pos h.hc, num_end h.nx]
        exact .inl rfl
      | cons c r =>
        injection e2 with e1 e2
        exact absurd (List.append_eq_nil_iff.mp e2.symm).2 hy
theorem quoted_good {cs : List Nat} (hs : ∀ c, c ∈ cs → signB c = true) (hl : cs.length ≤ 40) {t : T} : GoodS 0 ⟨t, 34 :: (esc cs ++ [34]), .str ⟨cs.toArray⟩, []⟩ := by
  refine ⟨fun z m _ => ⟨fun p u k h hk => ?_, fun p u r y e hy h => ?_⟩, 34, esc cs ++ [34], rfl, by decide⟩
  · have h : Rem z p (34 :: (esc cs ++ 34 :: k)) := by
      have e : 34 :: (esc cs ++ [34]) ++ k = 34 :: (esc cs ++ 34 :: k) := by simp
      rw [← e]; exact h
    rw [any_at (c := 34) h.hd, if_pos rfl]
    unfold quotR
    rw [if_pos h.hc, q_ok cs 40 [] (p + 1) k hs hl (fun e => (hk 34 e).2.2 rfl) h.nx]
    show _ = Rr.ok _ _ (twx [] u)
    rw [twx_nil]
    simp only [List.nil_append, List.length_cons, List.length_append, List.length_nil]
    congr 1; omega
  · replace e : 34 :: (esc cs ++ [34]) = r ++ y := e
    cases r with
    | nil => exact .inl (any_end h)
    | cons c r =>
      replace e := List.cons.inj e
      obtain ⟨e1, e2⟩ := e
      subst e1
      rw [any_at (c := 34) h.hd, if_pos rfl]
      unfold quotR
      rw [if_pos h.hc]
      refine (q_cut cs 40 [] (p + 1) r y hs hl e2 hy h.nx).cast ?_
      simp only [List.length_cons]; omega
theorem text_good : GoodS 0 (lf (34 :: (qB ++ [34])) (.str ⟨qB.toArray⟩)) := quoted_good (cs := qB) (by decide +kernel) (by decide)
theorem brk_good : GoodS 0 (lf [91, 93] (.lst [])) := by
  refine ⟨fun z m _ => ⟨fun p u k h hk => ?_, fun p u r y e hy h => ?_⟩, 91, [93], rfl, by decide⟩
  · have h : Rem z p (91 :: 93 :: k) := h
    rw [any_at (c := 91) h.hd, if_neg (by decide), if_pos rfl]
    unfold rowR
    rw [if_pos h.hc, if_neg (fun e => e.2 h.nx.hc), close_ok h.nx]
    show _ = Rr.ok _ _ (twx [] u)
    rw [twx_nil]; rfl
  · replace e : [91, 93] = r ++ y := e
    cases r with
    | nil => exact .inl (any_end h)
    | cons c r =>
      replace e := List.cons.inj e
      obtain ⟨e1, e2⟩ := e
      subst e1
      rw [any_at (c := 91) h.hd, if_neg (by decide), if_pos rfl]
      unfold rowR
      rw [if_pos h.hc]
      cases r with
      | nil =>
        cases m with
        | zero => rw [if_neg (fun e => absurd e.1 (by decide)), close_bad h.nx]; exact .inl rfl
        | succ m =>
          rw [if_pos ⟨Nat.succ_pos m, by rw [h.nx.hd]; exact fun e => nomatch e⟩]
          rw [show inR z (m + 1) = anyR z m from rfl, any_end h.nx]
          exact .inl rfl
      | cons c r =>
        injection e2 with e1 e2
        exact absurd (List.append_eq_nil_iff.mp e2.symm).2 hy
theorem brc_good : GoodS 0 (lf [123, 125] (.dct [])) := by
  refine ⟨fun z m _ => ⟨fun p u k h hk => ?_, fun p u r y e hy h => ?_⟩, 123, [125], rfl, by decide⟩
  · have h : Rem z p (123 :: 125 :: k) := h
    rw [any_at (c := 123) h.hd, if_neg (by decide), if_neg (by decide), if_pos rfl]
    unfold fldsR
    rw [if_pos h.hc, if_neg (fun e => e.2 h.nx.hc), close_ok h.nx]
    show _ = Rr.ok _ _ (twx [] u)
    rw [twx_nil]; rfl
  · replace e : [123, 125] = r ++ y := e
    cases r with
    | nil => exact .inl (any_end h)
    | cons c r =>
      replace e := List.cons.inj e
      obtain ⟨e1, e2⟩ := e
      subst e1
      rw [any_at (c := 123) h.hd, if_neg (by decide), if_neg (by decide), if_pos rfl]
      unfold fldsR
      rw [if_pos h.hc]
      cases r with
      | nil =>
        have e0 : sg z (p + 1) = none := h.nx.hd
        cases m with
        | zero => rw [if_neg (fun e => absurd e.1 (by decide)), close_bad h.nx]; exact .inl rfl
        | succ m =>
          rw [if_pos ⟨Nat.succ_pos m, by rw [e0]; exact fun e => nomatch e⟩]
          unfold fieldR
          rw [e0]
          exact .inl rfl
      | cons c r =>
        injection e2 with e1 e2
        exact absurd (List.append_eq_nil_iff.mp e2.symm).2 hy
theorem leaf_good : ∀ x, Leaf6 x → GoodS 0 x := by
  rintro x (rfl | rfl | rfl | rfl | rfl | rfl)
  · exact no_good
  · exact seven_good
  · exact text_good
  · exact brk_good
  · exact brc_good
  · exact nothing_good
def isTw (r : Wr) (s : Str) : Bool := match r with
  | .twice a => decide (a = s)
  | _ => false
def isBad (r : Wr) (b : Nat) : Bool := match r with
  | .bad a => decide (a = b)
  | _ => false
theorem isTw_eq {r : Wr} {s : Str} (h : isTw r s = true) : r = .twice s := by
  cases r with
  | twice a => rw [of_decide_eq_true h]
  | bad b => cases h
  | read v => cases h
theorem isBad_eq {r : Wr} {b : Nat} (h : isBad r b = true) : r = .bad b := by
  cases r with
  | bad a => rw [of_decide_eq_true h]
  | twice a => cases h
  | read v => cases h
theorem end1 : rwR ("{a: {b: 1, b: 2}, a: 1, a: 3}" : Str) = .twice ("b" : Str) := isTw_eq (by decide +kernel)
theorem end2 : rwR ("{a: 1, a: 2" : Str) = .bad 11 := isBad_eq (by decide +kernel)
end
end Pu

namespace Pu
open PySem PySem.Spec PyProof.Rows L2 He Hk
theorem rng_get {lo : Int} {n i : Nat} {x : T} (h : (rngT lo n)[i]? = some x) : i < n ∧ x = .int (lo + (i : Int)) := by
  unfold rngT at h
  rw [List.getElem?_map] at h
  by_cases c : i < n
  · rw [List.getElem?_range c] at h; exact ⟨c, (Option.some.inj h).symm⟩
  · rw [List.getElem?_eq_none_iff.mpr (by simp; omega)] at h; cases h
theorem rng_len {lo : Int} {n : Nat} : (rngT lo n).length = n := by unfold rngT; simp
end Pu

namespace Pu
open PySem PySem.Spec PyProof.Rows L2 He Hk
/-- the box: what is left of the cell, its remainder, how often it was asked -/
def BoxT (t : T) (n : Nat) : Prop := ∃ a c m : Int, t = .lst [.int a, .int c, .int m] ∧ 0 ≤ a ∧ 0 ≤ c ∧ c < 2147483647 ∧ 0 ≤ m ∧ m ≤ n
theorem BoxT.mono {t : T} {n m : Nat} (h : BoxT t n) (hn : n ≤ m) : BoxT t m := by
  obtain ⟨a, c, k, e, h1, h2, h3, h4, h5⟩ := h
  exact ⟨a, c, k, e, h1, h2, h3, h4, by omega⟩
def ps_take : PSp := fun sl P => ∃ (b : Addr) (t : T) (m : Int) (n : Nat), sl = [.ref b t, .val (.int m)] ∧ BoxT t n ∧ n ≤ 5000000 ∧ 0 < m ∧ m ≤ 4000000000000000000 ∧
  ∀ (r : Int) (t' : T), 0 ≤ r → r < m → BoxT t' (n + 1) → P (.int r) [.ref b t', .val (.int m)]
theorem u_take {b : Addr} {t : T} {m : Int} {n : Nat} {P : T → List Slot → Prop} (hb : BoxT t n) (hn : n ≤ 5000000) (h0 : 0 < m) (h1 : m ≤ 4000000000000000000) (h : ∀ (r : Int) (t' : T), 0 ≤ r → r < m → BoxT t' (n + 1) → P (.int r) [.ref b t', .val (.int m)]) : ps_take [.ref b t, .val (.int m)] P := ⟨b, t, m, n, rfl, hb, hn, h0, h1, h⟩
def ps_cell : PSp := fun sl P => ∃ (ns : List Int) (k : Int), sl = [.val (.scr ns), .val (.int k)] ∧ 0 ≤ k ∧ k ≤ 1000000 ∧ ∀ c, P (.int c) [.val (.scr ns), .val (.int k)]
theorem u_cell {ns : List Int} {k : Int} {P : T → List Slot → Prop} (h0 : 0 ≤ k) (h1 : k ≤ 1000000) (h : ∀ c, P (.int c) [.val (.scr ns), .val (.int k)]) : ps_cell [.val (.scr ns), .val (.int k)] P := ⟨ns, k, rfl, h0, h1, h⟩
theorem pure_cell : ∀ sl P, ps_cell sl P → p__law_cell (pdOf false sl P) (sl ++ nones 0) := by
  rintro sl P ⟨ns, k, rfl, h0, h1, q⟩
  show p__law_cell _ [_, _]
  unfold p__law_cell
  repeat wtm_at "w"
  refine iteB (fun c => ?_) (fun c => ?_)
  · repeat wtm_at "w"
    exact v_ixScr h0 (of_decide_eq_true c) fun n => ⟨trivial, q n⟩
  · repeat wtm_at "w"
    exact ⟨trivial, q _⟩
def ps_box : PSp := fun sl P => ∃ c : Int, sl = [.val (.int c)] ∧ ∀ t, BoxT t 0 → P t [.val (.int c)]
theorem u_box {c : Int} {P : T → List Slot → Prop} (h : ∀ t, BoxT t 0 → P t [.val (.int c)]) : ps_box [.val (.int c)] P := ⟨c, rfl, h⟩
def ps_page : PSp := fun sl P => sl = [] ∧ P (.str signs) []
theorem u_page {P : T → List Slot → Prop} (h : P (.str signs) []) : ps_page [] P := ⟨rfl, h⟩
local macro_rules | `(tactic| wtm_at "u") => `(tactic| first
  | ((with_reducible refine' u_take ?s1 ?s2 ?s3 ?s4 ?_); (case s1 => assumption); (case s2 => omega); (case s3 => omega); (case s4 => omega); intro r' t' hr0 hr1 bx)
  | (with_reducible refine u_page ?_))
theorem chars_sum {ys : List Str} (h : ∀ y, y ∈ ys → y.length = 1) : (ys.map (·.length)).sum = ys.length := by
  induction ys with
  | nil => rfl
  | cons y r ih =>
    rw [List.map_cons, List.sum_cons, ih fun z hz => h z (by simp [hz]), h y (by simp), List.length_cons]
    omega
/-- one-sign texts -/
def Ch (l : Str) (t : T) : Prop := ∃ c, c ∈ l.cps.toList ∧ t = .str ⟨#[c]⟩
theorem chars_of {l : Str} : ∀ {ts : List T}, (∀ t, t ∈ ts → Ch l t) → ∃ ys : List Str, ts = ys.map T.str ∧ ys.length = ts.length ∧ (∀ y, y ∈ ys → y.length = 1) ∧ (Txt.join "" ys).length = ts.length ∧ Cs (· ∈ l.cps.toList) (Txt.join "" ys) := by
  intro ts h
  have e : ∃ ys : List Str, ts = ys.map T.str ∧ ∀ y, y ∈ ys → ∃ c, c ∈ l.cps.toList ∧ y = ⟨#[c]⟩ := by
    induction ts with
    | nil => exact ⟨[], rfl, fun y hy => nomatch hy⟩
    | cons t r ih =>
      obtain ⟨ys, e, hy⟩ := ih fun z hz => h z (by simp [hz])
      obtain ⟨c, hc, rfl⟩ := h t (by simp)
      refine ⟨⟨#[c]⟩ :: ys, by rw [e]; rfl, fun y hy2 => ?_⟩
      rcases List.mem_cons.mp hy2 with rfl | hy2
      · exact ⟨c, hc, rfl⟩
      · exact hy y hy2
  obtain ⟨ys, rfl, hy⟩ := e
  have h1 : ∀ y, y ∈ ys → y.length = 1 := fun y hy2 => by obtain ⟨c, _, rfl⟩ := hy y hy2; rfl
  refine ⟨ys, rfl, by simp, h1, ?_, ?_⟩
  · rw [TL.join_eq, join0_len, chars_sum h1]; simp
  · rw [TL.join_eq]
    refine cs_join (fun c hc => nomatch hc) ys fun y hy2 => ?_
    obtain ⟨c, hc, rfl⟩ := hy y hy2
    exact Cs.one hc
theorem allIn_of {z w : Str} (h : Cs (· ∈ w.cps.toList) z) : allIn z w = true := by
  unfold allIn
  exact List.all_eq_true.mpr fun c hc => decide_eq_true (h c hc)
theorem letters_len : letters.length = 26 := by decide +kernel
end Pu

namespace Pu
open PySem PySem.Spec PyProof.Rows L2 He Hk
local macro_rules | `(tactic| wtm_at "u") => `(tactic| first
  | ((with_reducible refine' u_take ?s1 ?s2 ?s3 ?s4 ?_); (case s1 => assumption); (case s2 => omega); (case s3 => omega); (case s4 => omega); intro r' t' hr0 hr1 bx))
theorem app_cps (a b : Str) : (a ++ b).cps.toList = a.cps.toList ++ b.cps.toList := by
  show (a.cps ++ b.cps).toList = _
  rw [Array.toList_append]
theorem cut_to_cps {z : Str} {i : Int} (h0 : 0 ≤ i) (h1 : i ≤ (z.length : Int)) : (cutS z none (some i)).cps.toList = z.cps.toList.take i.toNat := by
  have e : HT.sIx z.length z.length (some i) = i.toNat := by
    show (if i < 0 then _ else min i.toNat z.length) = _
    rw [if_neg (by omega)]; omega
  show (List.toArray _).toList = _
  rw [e, HT.sIx_none]
  simp
theorem cutS_to {z : Str} {i : Int} (h0 : 0 ≤ i) (h1 : i ≤ (z.length : Int)) : (cutS z none (some i)).length = i.toNat := by
  have e := congrArg List.length (cut_to_cps h0 h1)
  rw [Array.length_toList, List.length_take, Array.length_toList] at e
  have e2 : z.length = z.cps.size := rfl
  show (cutS z none (some i)).cps.size = _
  omega
theorem str_app_len (a b : Str) : (a ++ b).length = a.length + b.length := by
  show (a.cps ++ b.cps).size = a.cps.size + b.cps.size
  rw [Array.size_append]
theorem okWord_of {z : Str} (h1 : 1 ≤ z.length) (h2 : z.length ≤ 8) (h3 : Cs (· ∈ letters.cps.toList) z) : okWord z = true := by
  unfold okWord; rw [allIn_of h3, decide_eq_true (by omega), decide_eq_true (by omega)]; rfl
/-- a comprehension over range(n) whose i-th text is as S says -/
theorem lc_idx {env env0 : Env} {P : T → Env → Prop} {te : PE} {vs : List Nat} {n j : Nat} (S : Nat → Str → Prop) (e0 : wipeE env vs = env0) (hz : n ≤ 1000000) (hn : noRef env0 j) (hw : ∀ x, wipeE (env0.set j (.val x)) vs = env0)
    (he : ∀ i, i < n → ∀ Q : T → Env → Prop, (∀ z, S i z → Q (.str z) (env0.set j (.val (.int (0 + (i : Int)))))) → te (env0.set j (.val (.int (0 + (i : Int))))) Q)
    (hd : ∀ zs : List Str, zs.length = n → (∀ i z, zs[i]? = some z → S i z) → P (.lst (zs.map T.str)) env0) : LcK (pgName j) pYes te vs (rngT 0 n) env P := by
  refine lc_inv e0 (by rw [rng_len]; exact hz) (fun i acc env => env = env0 ∧ ∃ zs : List Str, acc = zs.map T.str ∧ zs.length = i ∧ ∀ j z, zs[j]? = some z → S j z) ⟨rfl, [], rfl, rfl, fun j z h => by simp at h⟩ (fun acc env h => ?_) fun i x acc env N hx h hN => ?_
  · obtain ⟨rfl, zs, rfl, hl, hs⟩ := h
    rw [rng_len] at hl
    exact hd zs hl hs
  · obtain ⟨rfl, zs, rfl, hl, hs⟩ := h
    obtain ⟨hi, rfl⟩ := rng_get hx
    refine ⟨hn, ?_⟩
    show te _ _
    refine he i hi _ fun z hz => ?_
    rw [hw]
    refine hN _ _ ⟨rfl, zs ++ [z], by rw [List.map_append]; rfl, by rw [List.length_append]; simp [hl], fun j y hy => ?_⟩
    rw [List.getElem?_append] at hy
    by_cases c : j < zs.length
    · rw [if_pos c] at hy; exact hs j y hy
    · rw [if_neg c] at hy
      cases q : j - zs.length with
      | zero =>
        rw [q] at hy
        simp at hy
        subst hy
        rw [show j = i by omega]; exact hz
      | succ k => rw [q] at hy; simp at hy
theorem nodup_idx {zs : List Str} {S : Nat → Str → Prop} (h : ∀ i z, zs[i]? = some z → S i z) (hi : ∀ i j z, i < zs.length → j < zs.length → S i z → S j z → i = j) : zs.Nodup := by
  rw [List.nodup_iff_pairwise_ne, List.pairwise_iff_getElem]
  intro i j h1 h2 hij e
  have a := h i _ (List.getElem?_eq_getElem h1)
  have b := h j _ (List.getElem?_eq_getElem h2)
  rw [← e] at b
  have := hi i j _ h1 h2 a b
  omega
theorem letters_nd : letters.cps.toList.Nodup := by decide +kernel
theorem mem_idx {zs : List Str} {z : Str} (h : z ∈ zs) : ∃ i, i < zs.length ∧ zs[i]? = some z := by
  obtain ⟨i, hi, e⟩ := List.mem_iff_getElem.mp h
  exact ⟨i, hi, by rw [List.getElem?_eq_getElem hi, e]⟩
end Pu

namespace Pu
open PySem PySem.Spec PyProof.Rows L2 He Hk
theorem pure_take3 : ∀ sl P, ps_take sl P → p__law_take (pdOf false sl P) (sl ++ nones 3) := by
  rintro sl P ⟨b, t, m, n, rfl, ⟨a, c, k, rfl, ha, hc, hc2, hk, hk2⟩, hn, hm, hm2, q⟩
  show p__law_take _ [_, _, .none, .none, .none]
  unfold p__law_take
  repeat wtm_at "w"
  refine iteB (fun c1 => ?_) (fun c1 => ?_)
  · repeat wtm_at "w"
    exact ⟨⟨rfl, trivial⟩, q _ _ (Int.emod_nonneg _ (by omega)) (Int.emod_lt_of_pos _ hm) ⟨a / m, c, k + 1, rfl, Int.ediv_nonneg ha (by omega), hc, hc2, by omega, by omega⟩⟩
  · repeat wtm_at "w"
    generalize hz : (c + 7919 * (k + 1) + 5) ^ 5 % 2147483647 = z
    have hz1 : 0 ≤ z := by rw [← hz]; exact Int.emod_nonneg _ (by decide)
    have hz2 : z < 2147483647 := by rw [← hz]; exact Int.emod_lt_of_pos _ (by decide)
    have h1 : c * (k + 1) ≤ 2147483647 * 5000001 := Int.mul_le_mul (by omega) (by omega) (by omega) (by decide)
    have h2 : 0 ≤ c * (k + 1) := Int.mul_nonneg (by omega) (by omega)
    generalize c * (k + 1) = u at h1 h2
    refine v_powE ⟨by decide, by decide, by omega, by omega⟩ rfl ?_
    repeat wtm_at "w"
    generalize hy : (u + 104729 * (k + 1) + 11) ^ (Int.toNat 3) % 2147483587 = y
    have hy1 : 0 ≤ y := by rw [← hy]; exact Int.emod_nonneg _ (by decide)
    have hy2 : y < 2147483587 := by rw [← hy]; exact Int.emod_lt_of_pos _ (by decide)
    repeat wtm_at "w"
    exact ⟨⟨rfl, trivial⟩, q _ _ (Int.emod_nonneg _ (by omega)) (Int.emod_lt_of_pos _ hm) ⟨a, c, k + 1, rfl, ha, hc, hc2, by omega, by omega⟩⟩
theorem pure_box3 : ∀ sl P, ps_box sl P → p__law_box (pdOf true sl P) (sl ++ nones 0) := by
  rintro sl P ⟨c, rfl, q⟩
  show p__law_box _ [_]
  unfold p__law_box
  repeat wtm_at "w"
  have h1 := Int.emod_nonneg c (by decide : (2147483629 : Int) ≠ 0)
  have h2 := Int.emod_lt_of_pos c (by decide : (0 : Int) < 2147483629)
  refine ⟨trivial, q _ ⟨_, _, _, rfl, ?_, h1, by omega, Int.le_refl 0, Int.le_refl 0⟩⟩
  split <;> omega
local macro_rules | `(tactic| wtm_at "u") => `(tactic| first
  | ((with_reducible refine' u_take ?s1 ?s2 ?s3 ?s4 ?_); (case s1 => assumption); (case s2 => omega); (case s3 => omega); (case s4 => omega); intro r' t' hr0 hr1 bx)
  | (with_reducible refine u_page ?_))
def names8 : List Str := ["no", "yes", "nothing", "a", "n", "never", "y", "nothings"]
theorem names8_ok : ∀ z, z ∈ names8 → okWord z = true := by decide +kernel
theorem names8_nd : names8.Nodup := by decide +kernel
def ps_nam3 : PSp := fun sl P => ∃ (b : Addr) (t : T) (m : Int) (n : Nat), sl = [.ref b t, .val (.int m)] ∧ BoxT t n ∧ n ≤ 4900000 ∧ 0 ≤ m ∧ m ≤ 8 ∧
  ∀ (zs : List Str) (t' : T), (∀ z, z ∈ zs → okWord z = true) → zs.Nodup → zs.length = m.toNat → BoxT t' (n + 20) → P (.lst (zs.map T.str)) [.ref b t', .val (.int m)]
end Pu

namespace Pu
open PySem PySem.Spec PyProof.Rows L2 He Hk
local macro_rules | `(tactic| wtm_at "u") => `(tactic| first
  | ((with_reducible refine' u_take ?s1 ?s2 ?s3 ?s4 ?_); (case s1 => assumption); (case s2 => omega); (case s3 => omega); (case s4 => omega); intro r' t' hr0 hr1 bx))
theorem u_nam3 {b : Addr} {t : T} {m : Int} {n : Nat} {P : T → List Slot → Prop} (hb : BoxT t n) (hn : n ≤ 4900000) (h0 : 0 ≤ m) (h1 : m ≤ 8)
    (h : ∀ (zs : List Str) (t' : T), (∀ z, z ∈ zs → okWord z = true) → zs.Nodup → zs.length = m.toNat → BoxT t' (n + 20) → P (.lst (zs.map T.str)) [.ref b t', .val (.int m)]) : ps_nam3 [.ref b t, .val (.int m)] P := ⟨b, t, m, n, rfl, hb, hn, h0, h1, h⟩
theorem names8_at {j : Nat} {t : T} (h : (names8.map T.str)[j]? = some t) : ∃ z, names8[j]? = some z ∧ t = .str z := by
  rw [List.getElem?_map] at h
  obtain ⟨z, h1, rfl⟩ := Option.map_eq_some_iff.mp h
  exact ⟨z, h1, rfl⟩
/-- as lc_idx, the box going on -/
theorem lc_idxB {E : T → Env} {env : Env} {P : T → Env → Prop} {te : PE} {vs : List Nat} {n j n0 : Nat} {t0 : T} (S : Nat → Str → Prop) (e0 : wipeE env vs = E t0) (hb : BoxT t0 n0) (hz : n ≤ 1000000) (hn : ∀ t, noRef (E t) j) (hw : ∀ t x, wipeE ((E t).set j (.val x)) vs = E t)
    (he : ∀ i t, i < n → BoxT t (n0 + i) → ∀ Q : T → Env → Prop, (∀ z t', S i z → BoxT t' (n0 + i + 1) → Q (.str z) ((E t').set j (.val (.int (0 + (i : Int)))))) → te ((E t).set j (.val (.int (0 + (i : Int))))) Q)
    (hd : ∀ (zs : List Str) t, BoxT t (n0 + n) → zs.length = n → (∀ i z, zs[i]? = some z → S i z) → P (.lst (zs.map T.str)) (E t)) : LcK (pgName j) pYes te vs (rngT 0 n) env P := by
  refine lc_inv e0 (by rw [rng_len]; exact hz) (fun i acc env => ∃ t, env = E t ∧ BoxT t (n0 + i) ∧ ∃ zs : List Str, acc = zs.map T.str ∧ zs.length = i ∧ ∀ j z, zs[j]? = some z → S j z) ⟨t0, rfl, hb, [], rfl, rfl, fun j z h => by simp at h⟩ (fun acc env h => ?_) fun i x acc env N hx h hN => ?_
  · obtain ⟨t, rfl, bt, zs, rfl, hl, hs⟩ := h
    rw [rng_len] at hl bt
    exact hd zs t bt hl hs
  · obtain ⟨t, rfl, bt, zs, rfl, hl, hs⟩ := h
    obtain ⟨hi, rfl⟩ := rng_get hx
    refine ⟨hn t, ?_⟩
    show te _ _
    refine he i t hi bt _ fun z t' hz bt' => ?_
    rw [hw]
    refine hN _ _ ⟨t', rfl, bt', zs ++ [z], by rw [List.map_append]; rfl, by rw [List.length_append]; simp [hl], fun j y hy => ?_⟩
    rw [List.getElem?_append] at hy
    by_cases c : j < zs.length
    · rw [if_pos c] at hy; exact hs j y hy
    · rw [if_neg c] at hy
      cases q : j - zs.length with
      | zero =>
        rw [q] at hy
        simp at hy
        subst hy
        rw [show j = i by omega]; exact hz
      | succ k => rw [q] at hy; simp at hy
theorem pure_nam3 : ∀ sl P, ps_nam3 sl P → p__law_names ps_take (pdOf true sl P) (sl ++ nones 6) := by
  rintro sl P ⟨b, t, m, n, rfl, hb, hn, h0, h1, q⟩
  show p__law_names _ _ [_, _, .none, .none, .none, .none, .none, .none]
  have eL := letters_len
  unfold p__law_names
  repeat (first | wtm_at "w" | wtm_at "u")
  rename_i r0 t0 hr00 hr01 bx0 r1 t1 hr10 hr11 bx1
  refine lc_all (env0 := [.ref b t1, .val (.int m), .val (.str letters), .val (.int r0), .val (.int r1), .none, .none, .none]) rfl (by rw [rng_len]; decide) (fun i env => ∃ t', BoxT t' (n + 2 + i) ∧ env = [.ref b t', .val (.int m), .val (.str letters), .val (.int r0), .val (.int r1), .none, .none, .none]) (Ch letters) ⟨t1, bx1, rfl⟩ (fun i x env N hi hx hw hN => ?_) fun ys env hl hys hw => ?_
  · obtain ⟨t', bx', rfl⟩ := hw
    obtain ⟨hi, rfl⟩ := rng_get hx
    have hi' : i < 7 := hi
    repeat (first | wtm_at "w" | wtm_at "u")
    exact hN _ _ ⟨_, by assumption, rfl⟩ ⟨_, by assumption, rfl⟩
  obtain ⟨t2, bx2, rfl⟩ := hw
  rw [rng_len] at hl bx2
  have hl7 : ys.length = 7 := hl
  have bx2' : BoxT t2 (n + 9) := bx2
  clear bx2
  obtain ⟨cs, rfl, g1, g2, g3, g4⟩ := chars_of hys
  repeat (first | wtm_at "w" | wtm_at "u")
  refine v_join (by rw [chars_sum g2, show (Str.ofString "").length = 0 from rfl]; omega) ?_
  generalize Txt.join "" cs = tail at g3 g4
  have tl : tail.length = 7 := by rw [g3]; exact hl7
  repeat (first | wtm_at "w" | wtm_at "u")
  refine iteB (fun c => ?_) (fun c => ?_)
  · repeat (first | wtm_at "w" | wtm_at "u")
    refine lc_idx (env0 := [.ref b t2, .val (.int m), .val (.str letters), .val (.int r0), .val (.int r1), .val (.str tail), .none, .val (.lst (names8.map T.str))]) (fun i z => names8[((r1 + 3 * (i : Int)) % 8).toNat]? = some z) rfl (by omega) trivial (fun _ => rfl) (fun i hi Q h => ?_) fun zs hl hs => ?_
    · have e1 : (0 : Int) ≤ (r1 + 3 * (0 + (i : Int))) % 8 ∧ (r1 + 3 * (0 + (i : Int))) % 8 < 8 := by omega
      repeat (first | wtm_at "w" | wtm_at "u")
      refine v_ixLo e1.1 (by show _ < (8 : Int); omega) fun y hy e2 => ?_
      obtain ⟨z, hz, rfl⟩ := names8_at e2
      refine h z ?_
      rw [show ((r1 + 3 * (0 + (i : Int))) % 8) = ((r1 + 3 * (i : Int)) % 8) by omega] at hz
      exact hz
    · refine ⟨⟨rfl, trivial⟩, q zs _ (fun z hz => ?_) (nodup_idx hs fun i j z hi hj a b => ?_) hl (bx2'.mono (by omega))⟩
      · obtain ⟨i, hi, e⟩ := mem_idx hz
        exact names8_ok z (List.mem_of_getElem? (hs i z e))
      · have := (List.getElem?_inj (i := ((r1 + 3 * (i : Int)) % 8).toNat) (by show _ < 8; omega) names8_nd).mp (a.trans b.symm)
        omega
  repeat (first | wtm_at "w" | wtm_at "u")
  refine iteB (fun c => ?_) (fun c => ?_)
  · repeat (first | wtm_at "w" | wtm_at "u")
    refine lc_idx (env0 := [.ref b t2, .val (.int m), .val (.str letters), .val (.int r0), .val (.int r1), .val (.str tail), .none, .none]) (fun i z => okWord z = true ∧ z.length = (1 + (r1 + 3 * (i : Int)) % 8).toNat) rfl (by omega) trivial (fun _ => rfl) (fun i hi Q h => ?_) fun zs hl hs => ?_
    · repeat (first | wtm_at "w" | wtm_at "u")
      rename_i c hc hc2
      have al : ((⟨#[c]⟩ : Str) ++ tail).length = 8 := by rw [str_app_len, tl]; rfl
      have la := cutS_to (z := (⟨#[c]⟩ : Str) ++ tail) (i := 1 + (r1 + 3 * (0 + (i : Int))) % 8) (by omega) (by omega)
      refine h _ ⟨okWord_of ?_ ?_ ?_, ?_⟩
      · rw [la]; omega
      · rw [la]; omega
      · exact ((Cs.one hc).app g4).cut _ _
      · rw [la, show (0 + (i : Int)) = i by omega]
    · refine ⟨⟨rfl, trivial⟩, q zs _ (fun z hz => ?_) (nodup_idx hs fun i j z hi hj a b => ?_) hl (bx2'.mono (by omega))⟩
      · obtain ⟨i, hi, e⟩ := mem_idx hz
        exact (hs i z e).1
      · have := a.2.symm.trans b.2
        omega
  repeat (first | wtm_at "w" | wtm_at "u")
  refine lc_idxB (E := fun t' => [.ref b t', .val (.int m), .val (.str letters), .val (.int r0), .val (.int r1), .val (.str tail), .none, .none]) (fun i z => okWord z = true ∧ ∃ c, z.cps.toList[0]? = some c ∧ letters.cps.toList[((r1 + 7 * (i : Int)) % 26).toNat]? = some c) rfl bx2' (by omega) (fun _ => trivial) (fun _ _ => rfl) (fun i t3 hi bx3 Q h => ?_) fun zs t3 bx3 hl hs => ?_
  · have e1 : (0 : Int) ≤ (r1 + 7 * (0 + (i : Int))) % 26 ∧ (r1 + 7 * (0 + (i : Int))) % 26 < 26 := by omega
    repeat (first | wtm_at "w" | wtm_at "u")
    rename_i c hc hc2 r3 t4 hr30 hr31 bx4
    have la := cutS_to (z := tail) (i := r3) (by omega) (by omega)
    refine h _ _ ⟨okWord_of ?_ ?_ ?_, c, ?_, ?_⟩ (bx4.mono (by omega))
    · rw [str_app_len]; show 1 ≤ 1 + _; omega
    · rw [str_app_len, la]; show 1 + _ ≤ 8; omega
    · exact (Cs.one hc).app (g4.cut _ _)
    · rw [app_cps]; rfl
    · rw [show ((r1 + 7 * (0 + (i : Int))) % 26) = ((r1 + 7 * (i : Int)) % 26) by omega] at hc2
      exact hc2
  · refine ⟨⟨rfl, trivial⟩, q zs _ (fun z hz => ?_) (nodup_idx hs fun i j z hi hj a b => ?_) hl (bx3.mono (by omega))⟩
    · obtain ⟨i, hi, e⟩ := mem_idx hz
      exact (hs i z e).1
    · obtain ⟨_, c, x1, x2⟩ := a
      obtain ⟨_, c', y1, y2⟩ := b
      rw [x1] at y1
      cases y1
      have := (List.getElem?_inj (i := ((r1 + 7 * (i : Int)) % 26).toNat) (by rw [Array.length_toList]; show _ < letters.length; omega) letters_nd).mp (x2.trans y2.symm)
      omega
end Pu

namespace Pu
open PySem PySem.Spec PyProof.Rows L2 He Hk
section
variable {K : PySem.W.Frag} {w : World} {m : Nat}
theorem of_allIn {z w : Str} (h : allIn z w = true) : ∀ c, c ∈ z.cps.toList → c ∈ w.cps.toList := fun c hc => of_decide_eq_true (List.all_eq_true.mp h c hc)
theorem okWord_cs {z : Str} (h : okWord z = true) : Cs (· ∈ letters.cps.toList) z := by
  unfold okWord at h
  exact of_allIn (Bool.and_eq_true_iff.mp (Bool.and_eq_true_iff.mp h).2).2
theorem nmk_of {z : Str} (h : okWord z = true) : NmK z := by
  have hc := okWord_cs h
  unfold okWord at h
  have h1 := of_decide_eq_true (Bool.and_eq_true_iff.mp h).1
  have h2 := of_decide_eq_true (Bool.and_eq_true_iff.mp (Bool.and_eq_true_iff.mp h).2).1
  have hl : z.length = z.cps.toList.length := by rw [Array.length_toList]; rfl
  rw [hl] at h1 h2
  have hm : ∀ c, c ∈ z.cps.toList → isL c = true := fun c hd => decide_eq_true (hc c hd)
  cases e : z.cps.toList with
  | nil => rw [e] at h1; exact absurd h1 (by decide)
  | cons c cs =>
    rw [e] at h1 h2 hm
    rw [List.length_cons] at h2
    exact ⟨c, cs, e, hm c (List.Mem.head _), fun d hd => hm d (List.Mem.tail _ hd), by omega⟩
theorem choose_list {α β : Type} {Q : α → Prop} {g : α → β} : ∀ {ys : List β}, (∀ y, y ∈ ys → ∃ a, Q a ∧ g a = y) → ∃ as : List α, (∀ a, a ∈ as → Q a) ∧ as.map g = ys
  | [], _ => ⟨[], fun a h => (nomatch h), rfl⟩
  | y :: ys, h => by
    obtain ⟨a, h1, h2⟩ := h y (List.Mem.head _)
    obtain ⟨as, h3, h4⟩ := choose_list (ys := ys) fun z hz => h z (List.Mem.tail _ hz)
    refine ⟨a :: as, fun b hb => ?_, by rw [List.map_cons, h2, h4]⟩
    cases hb with
    | head => exact h1
    | tail _ hb => exact h3 b hb
def six : List T := [.str "no", .str "-7", .str "\"a: 1, a: 2\"", .str "[]", .str "{}", .str "nothing"]
theorem six_eq : ("no" : Str) = ⟨[110, 111].toArray⟩ ∧ ("-7" : Str) = ⟨[45, 55].toArray⟩ ∧ ("\"a: 1, a: 2\"" : Str) = ⟨(34 :: (qB ++ [34])).toArray⟩ ∧ ("[]" : Str) = ⟨[91, 93].toArray⟩ ∧ ("{}" : Str) = ⟨[123, 125].toArray⟩ ∧ ("nothing" : Str) = ⟨thingW.toArray⟩ := by decide +kernel
theorem six_at {j : Nat} {y : T} (h : six[j]? = some y) : ∃ x, Leaf6 x ∧ x.t = y := by
  obtain ⟨e1, e2, e3, e4, e5, e6⟩ := six_eq
  unfold six at h
  rw [e1, e2, e3, e4, e5, e6] at h
  rcases j with _ | _ | _ | _ | _ | _ | j
  · injection h with h; exact ⟨_, .inl rfl, h⟩
  · injection h with h; exact ⟨_, .inr (.inl rfl), h⟩
  · injection h with h; exact ⟨_, .inr (.inr (.inl rfl)), h⟩
  · injection h with h; exact ⟨_, .inr (.inr (.inr (.inl rfl))), h⟩
  · injection h with h; exact ⟨_, .inr (.inr (.inr (.inr (.inl rfl)))), h⟩
  · injection h with h; exact ⟨_, .inr (.inr (.inr (.inr (.inr rfl)))), h⟩
  · cases h
def tC : Nat → Nat
  | 0 => 2
  | n + 1 => 8 * tC n + 40
theorem tC_le {n : Nat} (h : n ≤ 2) : tC n ≤ 1000 := by
  rcases n with _ | _ | _ | n
  · decide
  · decide
  · decide
  · omega
theorem spo_leaf {L : Sp → Prop} {x : Sp} (h : L x) : ∀ n, SpO L n x
  | 0 => h
  | n + 1 => .inl h
def lvl (l : Nat) : T := .int ((l + 1 : Nat) : Int)
def ps_tree (m : Nat) : PSp := fun sl P => ∃ (b : Addr) (t : T) (n l : Nat), sl = [.ref b t, .val (lvl l)] ∧ BoxT t n ∧ n + tC l ≤ 4000000 ∧ l ≤ 2 ∧ l + 1 ≤ m ∧ ∀ (x : Sp) (t' : T), SpO Leaf6 l x → BoxT t' (n + tC l) → P x.t [.ref b t', .val (lvl l)]
theorem no_tree {sl : List Slot} {P : T → List Slot → Prop} (h : ps_tree 0 sl P) : False := by obtain ⟨_, _, _, _, _, _, _, _, h, _⟩ := h; omega
theorem u_tree {b : Addr} {t : T} {n l m : Nat} {P : T → List Slot → Prop} (hb : BoxT t n) (hn : n + tC l ≤ 4000000) (hl : l ≤ 2) (hm : l + 1 ≤ m) (h : ∀ (x : Sp) (t' : T), SpO Leaf6 l x → BoxT t' (n + tC l) → P x.t [.ref b t', .val (lvl l)]) : ps_tree m [.ref b t, .val (lvl l)] P := ⟨b, t, n, l, rfl, hb, hn, hl, hm, h⟩
local macro_rules | `(tactic| wtm_at "u") => `(tactic| first
  | ((with_reducible refine' u_take ?s1 ?s2 ?s3 ?s4 ?_); (case s1 => assumption); (case s2 => omega); (case s3 => omega); (case s4 => omega); intro r' t' hr0 hr1 bx)
  | ((with_reducible refine' u_nam3 ?s1 ?s2 ?s3 ?s4 ?_); (case s1 => assumption); (case s2 => omega); (case s3 => omega); (case s4 => omega); intro zs t' hz hnd hzl bx))
theorem pure_tree : ∀ sl P, ps_tree (m + 1) sl P → p__law_tree ps_take (ps_tree m) ps_nam3 (pdOf false sl P) (sl ++ nones 6) := by
  rintro sl P ⟨b, t, n, l, rfl, hb, hn, hl, hm, q⟩
  show p__law_tree _ _ _ _ [_, _, .none, .none, .none, .none, .none, .none]
  unfold p__law_tree
  unfold lvl at q ⊢
  have hT := tC_le hl
  repeat (first | wtm_at "w" | wtm_at "u")
  rename_i r0 t0 hr00 hr01 b0
  have leaf : ∀ (D : PD) (env : Env), D.rt = (pdOf false [.ref b t, .val (lvl l)] P).rt → env = [.ref b t0, .val (.int ((l + 1 : Nat) : Int)), .val (.int r0), .none, .none, .none, .none, .none] →
      pRet (pOp Pu.oIx (pCons (pLst (pCons (pC (.str "no")) (pCons (pC (.str "-7")) (pCons (pC (.str "\"a: 1, a: 2\"")) (pCons (pC (.str "[]")) (pCons (pC (.str "{}")) (pCons (pC (.str "nothing")) pNil))))))) (pCons (pCall ps_take (pConsV 0 (pCons (pC (.int 6)) pNil))) pNil))) D env := by
    rintro D env hD rfl
    repeat (first | wtm_at "w" | wtm_at "u")
    rename_i r1 t1 hr10 hr11 b1
    refine v_ixLo hr10 (by show _ < (6 : Int); omega) fun y hy e2 => ?_
    obtain ⟨x, hx, rfl⟩ := six_at e2
    rw [hD]
    exact ⟨⟨rfl, trivial⟩, q x t1 (spo_leaf hx l) (b1.mono (by
      have : 2 ≤ tC l := by cases l with
        | zero => exact Nat.le_refl _
        | succ l => show 2 ≤ 8 * tC l + 40; omega
      omega))⟩
  refine iteB (fun c => ?_) (fun c => ?_)
  · refine iteTrue rfl ?_
    exact leaf _ _ rfl rfl
  have c1 : ¬ ((l + 1 : Nat) : Int) = 1 := of_decide_eq_false c
  obtain ⟨l, rfl⟩ : ∃ k, l = k + 1 := ⟨l - 1, by omega⟩
  repeat (first | wtm_at "w" | wtm_at "u")
  refine iteB (fun c => ?_) (fun c => ?_)
  · exact leaf _ _ rfl rfl
  repeat (first | wtm_at "w" | wtm_at "u")
  clear leaf
  rename_i r2 t2 hr20 hr21 b2
  have eS : ((l + 1 + 1 : Nat) : Int) - 1 = ((l + 1 : Nat) : Int) := by omega
  have eC : tC (l + 1) = 8 * tC l + 40 := rfl
  refine iteB (fun c => ?_) (fun c => ?_)
  · repeat (first | wtm_at "w" | wtm_at "u")
    refine lc_all (env0 := [.ref b t2, .val (.int ((l + 1 + 1 : Nat) : Int)), .val (.int r0), .val (.int (1 + r2)), .none, .none, .none, .none]) rfl (by rw [rng_len]; omega) (fun i env => ∃ t', BoxT t' (n + 2 + i * tC l) ∧ env = [.ref b t', .val (.int ((l + 1 + 1 : Nat) : Int)), .val (.int r0), .val (.int (1 + r2)), .none, .none, .none, .none]) (fun y => ∃ x, SpO Leaf6 l x ∧ Sp.t x = y) ⟨t2, b2.mono (by omega), rfl⟩ (fun i x env N hi hx hw hN => ?_) fun ys env hy hys hw => ?_
    · obtain ⟨t', bx', rfl⟩ := hw
      obtain ⟨hi, rfl⟩ := rng_get hx
      have hi' : i ≤ 2 := by omega
      have hm2 : i * tC l ≤ 2 * tC l := Nat.mul_le_mul_right _ hi'
      repeat (first | wtm_at "w" | wtm_at "u")
      rw [eS]
      refine u_tree bx' (by omega) (by omega) (by omega) fun x t3 hx b3 => ?_
      repeat (first | wtm_at "w" | wtm_at "u")
      exact hN _ _ ⟨x, hx, rfl⟩ ⟨t3, b3.mono (by have : (i + 1) * tC l = i * tC l + tC l := Nat.succ_mul i (tC l); omega), rfl⟩
    · obtain ⟨t', bx', rfl⟩ := hw
      rw [rng_len] at hy bx'
      obtain ⟨as, h1, rfl⟩ := choose_list hys
      rw [List.length_map] at hy
      have hl3 : (1 + r2).toNat ≤ 3 := by omega
      have hm2 : (1 + r2).toNat * tC l ≤ 3 * tC l := Nat.mul_le_mul_right _ hl3
      cases as with
      | nil => exact absurd hy (by show ¬ 0 = _; omega)
      | cons x r =>
        rw [List.length_cons] at hy
        repeat (first | wtm_at "w" | wtm_at "u")
        exact ⟨⟨rfl, trivial⟩, q (rowS x r) t' (.inr (.inl ⟨x, r, by omega, h1, rfl⟩)) (bx'.mono (by omega))⟩
  repeat (first | wtm_at "w" | wtm_at "u")
  rename_i r3 t3 hr30 hr31 b3
  refine v_ixLo (by split <;> omega) (by show _ < (2 : Int); split <;> omega) fun y hy e2 => ?_
  obtain ⟨M, rfl, hM1, hM2⟩ : ∃ M : Int, y = .int M ∧ 1 ≤ M ∧ M ≤ 8 := by
    rcases List.mem_cons.mp hy with e | hy
    · exact ⟨_, e, by omega, by omega⟩
    · exact ⟨8, List.mem_singleton.mp hy, by decide, by decide⟩
  clear hy e2
  repeat (first | wtm_at "w" | wtm_at "u")
  rename_i zs t4 hzs hnd hzl b4 p5 r5 t5 hr50 hr51 b5
  refine for_inv (fun i env => ∃ (ts : List T) (t' : T) (s6 : Slot), env = [.ref b t', .val (.int ((l + 1 + 1 : Nat) : Int)), .val (.int r0), .val (.int M), .none, .own p5 (.lst ts), s6, .none] ∧ noRef [s6] 0 ∧ ts.length = M.toNat ∧ (∀ y, y ∈ ts → ∃ z, okWord z = true ∧ T.str z = y) ∧ BoxT t' (n + 24 + 2 * i)) ⟨zs.map T.str, t5, _, rfl, trivial, by rw [List.length_map]; exact hzl, fun y hy => ?_, b5⟩ ?_ ?_
  · obtain ⟨z, hz, rfl⟩ := List.mem_map.mp hy
    exact ⟨z, hzs z hz, rfl⟩
  · rintro env ⟨ts, t6, s6, rfl, n6, hl6, hts, b6⟩
    rw [rng_len] at b6
    repeat (first | wtm_at "w" | wtm_at "u")
    refine lc_all (env0 := [.ref b t6, .val (.int ((l + 1 + 1 : Nat) : Int)), .val (.int r0), .val (.int M), .none, .val (.lst ts), s6, .none]) rfl (by omega) (fun i env => ∃ t', BoxT t' (n + 24 + 2 * r5.toNat + i * tC l) ∧ env = [.ref b t', .val (.int ((l + 1 + 1 : Nat) : Int)), .val (.int r0), .val (.int M), .none, .val (.lst ts), s6, .none]) (fun y => ∃ a : Str × Sp, (NmK a.1 ∧ SpO Leaf6 l a.2) ∧ T.tup [.str a.1, a.2.t] = y) ⟨t6, b6.mono (by omega), rfl⟩ (fun i x env N hi hx hw hN => ?_) fun ys env hy hys hw => ?_
    · obtain ⟨t', bx', rfl⟩ := hw
      obtain ⟨z, hz, rfl⟩ := hts x (List.mem_of_getElem? hx)
      have hi' : i ≤ 7 := by omega
      have hm2 : i * tC l ≤ 7 * tC l := Nat.mul_le_mul_right _ hi'
      repeat (first | wtm_at "w" | wtm_at "u")
      rw [eS]
      refine u_tree bx' (by omega) (by omega) (by omega) fun x t3 hx b3 => ?_
      repeat (first | wtm_at "w" | wtm_at "u")
      exact hN _ _ ⟨(z, x), ⟨nmk_of hz, hx⟩, rfl⟩ ⟨t3, b3.mono (by have : (i + 1) * tC l = i * tC l + tC l := Nat.succ_mul i (tC l); omega), rfl⟩
    · obtain ⟨t', bx', rfl⟩ := hw
      obtain ⟨as, h1, rfl⟩ := choose_list hys
      rw [List.length_map] at hy
      have hl3 : ts.length ≤ 8 := by omega
      have hm2 : ts.length * tC l ≤ 8 * tC l := Nat.mul_le_mul_right _ hl3
      cases as with
      | nil => exact absurd hy (by show ¬ 0 = _; omega)
      | cons a r =>
        rw [List.length_cons] at hy
        repeat (first | wtm_at "w" | wtm_at "u")
        exact ⟨⟨rfl, trivial⟩, q (fldS a.1 a.2 r) t' (.inr (.inr ⟨a.1, a.2, r, by omega, h1, rfl⟩)) (bx'.mono (by omega))⟩
  · rintro i x env N hx ⟨ts, t6, s6, rfl, n6, hl6, hts, b6⟩ hN
    obtain ⟨hi, rfl⟩ := rng_get hx
    refine w_name n6 rfl ?_
    repeat (first | wtm_at "w" | wtm_at "u")
    rename_i r6 t7 hr60 hr61 b7
    refine v_ixLo hr60 (by omega) fun y hy e2 => ?_
    obtain ⟨z, hz, rfl⟩ := hts y hy
    repeat (first | wtm_at "w" | wtm_at "u")
    rename_i r7 t8 hr70 hr71 b8
    refine w_kSetL (j := r7.toNat) rfl (by unfold ixN; rw [if_pos (by omega), if_pos (by omega)]) rfl ?_
    refine hN _ ⟨_, t8, _, rfl, trivial, by rw [List.length_set]; exact hl6, fun y hy => ?_, b8.mono (by omega)⟩
    rcases List.mem_or_eq_of_mem_set hy with h | rfl
    · exact hts y h
    · exact ⟨z, hz, rfl⟩
end
end Pu

namespace Pu
open PySem PySem.Spec PyProof.Rows L2 He Hk
section
variable {K : PySem.W.Frag} {w : World} {m : Nat}
theorem lc_mapG {α : Type} {pg : PG} {te : PE} {vs : List Nat} {as : List α} {g f : α → T} {env env0 : Env} {P : T → Env → Prop} (e0 : wipeE env vs = env0) (hz : as.length ≤ 1000000)
    (hs : ∀ a, a ∈ as → ∀ N : T → Env → Prop, (∀ env', wipeE env' vs = env0 → N (f a) env') → pg (g a) env0 fun env1 => te env1 N) (hd : P (.lst (as.map f)) env0) : LcK pg pYes te vs (as.map g) env P := by
  refine lc_inv e0 (by rw [List.length_map]; exact hz) (fun i acc env => env = env0 ∧ acc = (as.take i).map f) ⟨rfl, rfl⟩ (fun acc env h => ?_) fun i x acc env N hx h hN => ?_
  · obtain ⟨rfl, rfl⟩ := h
    rw [List.length_map, List.take_length]; exact hd
  · obtain ⟨rfl, rfl⟩ := h
    rw [List.getElem?_map] at hx
    obtain ⟨a, ha, rfl⟩ := Option.map_eq_some_iff.mp hx
    refine hs a (List.mem_of_getElem? ha) _ fun env' e => ?_
    refine hN _ _ ⟨e, ?_⟩
    rw [List.take_succ, ha]; simp
theorem join_cps {sep : Str} : ∀ (x : Str) (r : List Str), (Txt.join sep (x :: r)).cps.toList = x.cps.toList ++ (r.flatMap fun s => sep.cps.toList ++ s.cps.toList) := by
  intro x r
  rw [TL.join_eq]
  induction r generalizing x with
  | nil => show x.cps.toList = _; simp
  | cons y r ih =>
    show (x ++ sep ++ Str.join sep (y :: r)).cps.toList = _
    rw [app_cps, app_cps, ih, List.flatMap_cons]
    simp only [List.append_assoc]
def wB : Nat → Nat
  | 0 => 20
  | n + 1 => 8 * (wB n + 14) + 10
theorem wB_le {n : Nat} (h : n ≤ 3) : wB n ≤ 20000 := by
  rcases n with _ | _ | _ | _ | n
  · decide
  · decide
  · decide
  · decide
  · omega
theorem tailC_len {B : Nat} : ∀ {r : List Sp}, (∀ y, y ∈ r → y.w.length ≤ B) → (tailC r).length ≤ r.length * (B + 2)
  | [], _ => Nat.zero_le _
  | y :: r, h => by
    have h1 := h y (List.Mem.head _)
    have h2 := tailC_len (r := r) fun z hz => h z (List.Mem.tail _ hz)
    show (44 :: 32 :: (y.w ++ tailC r)).length ≤ (r.length + 1) * (B + 2)
    rw [List.length_cons, List.length_cons, List.length_append, Nat.succ_mul]
    omega
theorem nmk_len {s : Str} (h : NmK s) : s.cps.toList.length ≤ 8 := by
  obtain ⟨c, cs, e, _, _, h⟩ := h
  rw [e, List.length_cons]; omega
theorem tailF_len {B : Nat} : ∀ {r : List (Str × Sp)}, (∀ y, y ∈ r → NmK y.1 ∧ y.2.w.length ≤ B) → (tailF r).length ≤ r.length * (B + 12)
  | [], _ => Nat.zero_le _
  | y :: r, h => by
    obtain ⟨h0, h1⟩ := h y (List.Mem.head _)
    have h3 := nmk_len h0
    have h2 := tailF_len (r := r) fun z hz => h z (List.Mem.tail _ hz)
    show (44 :: 32 :: (y.1.cps.toList ++ (58 :: 32 :: (y.2.w ++ tailF r)))).length ≤ (r.length + 1) * (B + 12)
    simp only [List.length_cons, List.length_append]
    rw [Nat.succ_mul]
    omega
theorem nss_len {B : Nat} : ∀ {r : List Sp}, (∀ y, y ∈ r → y.ns.length ≤ B) → (nss r).length ≤ r.length * B
  | [], _ => Nat.zero_le _
  | y :: r, h => by
    have h1 := h y (List.Mem.head _)
    have h2 := nss_len (r := r) fun z hz => h z (List.Mem.tail _ hz)
    show (y.ns ++ nss r).length ≤ (r.length + 1) * B
    rw [List.length_append, Nat.succ_mul]; omega
theorem nsF_len {B : Nat} : ∀ {r : List (Str × Sp)} {kvs : List (Key × T)}, (∀ y, y ∈ r → y.2.ns.length ≤ B) → (nsF kvs r).length ≤ r.length * (B + 1)
  | [], kvs, _ => Nat.zero_le _
  | y :: r, kvs, h => by
    have h1 := h y (List.Mem.head _)
    have h2 := nsF_len (r := r) (kvs := putT kvs (.inr y.1) y.2.v) fun z hz => h z (List.Mem.tail _ hz)
    show ((if hasT kvs (.inr y.1) = true then [y.1] else []) ++ (y.2.ns ++ nsF (putT kvs (.inr y.1) y.2.v) r)).length ≤ (r.length + 1) * (B + 1)
    rw [List.length_append, List.length_append, Nat.succ_mul]
    have : (if hasT kvs (.inr y.1) = true then [y.1] else []).length ≤ 1 := by split <;> simp
    omega
theorem spo_len {L : Sp → Prop} (hL : ∀ x, L x → x.w.length ≤ 20 ∧ x.ns = []) : ∀ (n : Nat) (x : Sp), SpO L n x → x.w.length ≤ wB n ∧ x.ns.length ≤ wB n
  | 0, x, h => by
    obtain ⟨h1, h2⟩ := hL x h
    rw [h2]; exact ⟨h1, Nat.zero_le _⟩
  | n + 1, s, h => by
    have e : wB (n + 1) = 8 * (wB n + 14) + 10 := rfl
    rcases h with h | ⟨x, r, hl, hr, rfl⟩ | ⟨nm, x, r, hl, hr, rfl⟩
    · obtain ⟨h1, h2⟩ := hL s h
      rw [h2]; exact ⟨by omega, Nat.zero_le _⟩
    · have ih : ∀ y, y ∈ x :: r → y.w.length ≤ wB n ∧ y.ns.length ≤ wB n := fun y hy => spo_len hL n y (hr y hy)
      have hx := ih x (List.Mem.head _)
      have h1 := tailC_len (r := r) fun y hy => (ih y (List.Mem.tail _ hy)).1
      have h2 := nss_len (r := x :: r) fun y hy => (ih y hy).2
      have h3 : r.length * (wB n + 2) ≤ 5 * (wB n + 2) := Nat.mul_le_mul_right _ hl
      have h4 : (x :: r).length * wB n ≤ 6 * wB n := Nat.mul_le_mul_right _ (by rw [List.length_cons]; omega)
      refine ⟨?_, by show (nss (x :: r)).length ≤ _; omega⟩
      show (91 :: (x.w ++ (tailC r ++ [93]))).length ≤ _
      simp only [List.length_cons, List.length_append, List.length_nil]
      omega
    · have ih : ∀ y, y ∈ (nm, x) :: r → NmK y.1 ∧ y.2.w.length ≤ wB n ∧ y.2.ns.length ≤ wB n := fun y hy => ⟨(hr y hy).1, spo_len hL n y.2 (hr y hy).2⟩
      have hx := ih (nm, x) (List.Mem.head _)
      have hn := nmk_len hx.1
      have h1 := tailF_len (r := r) fun y hy => ⟨(ih y (List.Mem.tail _ hy)).1, (ih y (List.Mem.tail _ hy)).2.1⟩
      have h2 := nsF_len (r := (nm, x) :: r) (kvs := []) fun y hy => (ih y hy).2.2
      have h3 : r.length * (wB n + 12) ≤ 7 * (wB n + 12) := Nat.mul_le_mul_right _ hl
      have h4 : ((nm, x) :: r).length * (wB n + 1) ≤ 8 * (wB n + 1) := Nat.mul_le_mul_right _ (by rw [List.length_cons]; omega)
      refine ⟨?_, by show (nsF [] ((nm, x) :: r)).length ≤ _; omega⟩
      show (123 :: (nm.cps.toList ++ (58 :: 32 :: (x.w ++ (tailF r ++ [125]))))).length ≤ _
      dsimp only at hx hn
      simp only [List.length_cons, List.length_append, List.length_nil]
      omega
theorem leaf6_len : ∀ x, Leaf6 x → x.w.length ≤ 20 ∧ x.ns = [] := by
  rintro x (rfl | rfl | rfl | rfl | rfl | rfl) <;> exact ⟨by decide, rfl⟩
def wS (x : Sp) : Str := ⟨x.w.toArray⟩
def fS (y : Str × Sp) : Str := ⟨(y.1.cps.toList ++ (58 :: 32 :: y.2.w)).toArray⟩
theorem comma_cps : (", " : Str).cps.toList = [44, 32] := by decide +kernel
theorem tailC_eq : ∀ r : List Sp, ((r.map wS).flatMap fun s => (", " : Str).cps.toList ++ s.cps.toList) = tailC r
  | [] => rfl
  | y :: r => by
    rw [List.map_cons, List.flatMap_cons, tailC_eq r, comma_cps]; rfl
theorem tailF_eq : ∀ r : List (Str × Sp), ((r.map fS).flatMap fun s => (", " : Str).cps.toList ++ s.cps.toList) = tailF r
  | [] => rfl
  | y :: r => by
    rw [List.map_cons, List.flatMap_cons, tailF_eq r, comma_cps]
    show [44, 32] ++ (y.1.cps.toList ++ (58 :: 32 :: y.2.w)) ++ tailF r = 44 :: 32 :: (y.1.cps.toList ++ (58 :: 32 :: (y.2.w ++ tailF r)))
    simp
theorem row_text {x : Sp} {r : List Sp} : (("[" : Str) ++ Txt.join ", " ((x :: r).map wS)) ++ "]" = ⟨(rowW x r).toArray⟩ := by
  rw [← str_eta (s := ("[" : Str) ++ Txt.join ", " ((x :: r).map wS) ++ "]") (cs := rowW x r)]
  rw [app_cps, app_cps, List.map_cons, join_cps, tailC_eq, show ("[" : Str).cps.toList = [91] by decide +kernel, show ("]" : Str).cps.toList = [93] by decide +kernel]
  unfold rowW wS
  simp
theorem fld_text {s : Str} {x : Sp} {r : List (Str × Sp)} : (("{" : Str) ++ Txt.join ", " (((s, x) :: r).map fS)) ++ "}" = ⟨(fldW s x r).toArray⟩ := by
  rw [← str_eta (s := ("{" : Str) ++ Txt.join ", " (((s, x) :: r).map fS) ++ "}") (cs := fldW s x r)]
  rw [app_cps, app_cps, List.map_cons, join_cps, tailF_eq, show ("{" : Str).cps.toList = [123] by decide +kernel, show ("}" : Str).cps.toList = [125] by decide +kernel]
  unfold fldW fS
  simp
theorem f_text {y : Str × Sp} : (y.1 ++ ": ") ++ wS y.2 = fS y := by
  rw [← str_eta (s := y.1 ++ ": " ++ wS y.2) (cs := y.1.cps.toList ++ (58 :: 32 :: y.2.w))]
  · rfl
  rw [app_cps, app_cps, show (": " : Str).cps.toList = [58, 32] by decide +kernel]
  unfold wS
  simp
theorem sum_le {α : Type} {f : α → Nat} {B : Nat} : ∀ {l : List α}, (∀ a, a ∈ l → f a ≤ B) → (l.map f).sum ≤ l.length * B
  | [], _ => Nat.zero_le _
  | a :: l, h => by
    have h1 := h a (List.Mem.head _)
    have h2 := sum_le (l := l) fun b hb => h b (List.Mem.tail _ hb)
    rw [List.map_cons, List.sum_cons, List.length_cons, Nat.succ_mul]; omega
def ps_wri (m : Nat) : PSp := fun sl P => ∃ (x : Sp) (n : Nat), sl = [.val x.t] ∧ SpO Leaf6 n x ∧ n ≤ 3 ∧ n + 1 ≤ m ∧ P (.str (wS x)) [.val x.t]
theorem no_wri {sl : List Slot} {P : T → List Slot → Prop} (h : ps_wri 0 sl P) : False := by obtain ⟨_, _, _, _, _, h, _⟩ := h; omega
theorem u_wri {x : Sp} {n m : Nat} {P : T → List Slot → Prop} (hx : SpO Leaf6 n x) (hn : n ≤ 3) (hm : n + 1 ≤ m) (h : P (.str (wS x)) [.val x.t]) : ps_wri m [.val x.t] P := ⟨x, n, rfl, hx, hn, hm, h⟩
theorem wri_leaf {x : Sp} (hx : Leaf6 x) : x.t = .str (wS x) := by
  rcases hx with rfl | rfl | rfl | rfl | rfl | rfl <;> rfl
theorem wri_sum {α : Type} {f : α → Str} {B : Nat} {l : List α} (hl : l.length ≤ 8) (hB : B ≤ 20020) (h : ∀ a, a ∈ l → (f a).length ≤ B) : ((l.map f).map (·.length)).sum + (l.map f).length * (", " : Str).length ≤ 16777216 ∧ (Txt.join ", " (l.map f)).length ≤ 200000 := by
  have e2 : (", " : Str).length = 2 := by decide +kernel
  have e3 : ((l.map f).map (·.length)) = l.map fun a => (f a).length := by rw [List.map_map]; rfl
  have e1 := sum_le (f := fun a => (f a).length) h
  have e4 : l.length * B ≤ 8 * B := Nat.mul_le_mul_right _ hl
  rw [e3, e2, List.length_map]
  refine ⟨by omega, ?_⟩
  cases l with
  | nil => exact Nat.zero_le _
  | cons a l =>
    have ha := h a (List.Mem.head _)
    rw [List.map_cons, show (Txt.join ", " (f a :: l.map f)).length = (Txt.join ", " (f a :: l.map f)).cps.toList.length by rw [Array.length_toList]; rfl, join_cps, comma_cps, List.length_append]
    have : ∀ l : List α, (∀ a, a ∈ l → (f a).length ≤ B) → ((l.map f).flatMap fun s => [44, 32] ++ s.cps.toList).length ≤ l.length * (B + 2) := by
      intro l hl
      induction l with
      | nil => exact Nat.zero_le _
      | cons b l ih =>
        have h1 := hl b (List.Mem.head _)
        have h2 := ih fun c hc => hl c (List.Mem.tail _ hc)
        have h3 : (f b).cps.toList.length = (f b).length := by rw [Array.length_toList]; rfl
        have h4 : (b :: l).length * (B + 2) = l.length * (B + 2) + (B + 2) := Nat.succ_mul _ _
        have h0 : ([44, 32] : List Nat).length = 2 := rfl
        rw [List.map_cons, List.flatMap_cons, List.length_append, List.length_append, h3]
        omega
    have h5 := this l fun c hc => h c (List.Mem.tail _ hc)
    have h6 : l.length * (B + 2) ≤ 7 * (B + 2) := Nat.mul_le_mul_right _ (by rw [List.length_cons] at hl; omega)
    have h3 : (f a).cps.toList.length = (f a).length := by rw [Array.length_toList]; rfl
    omega
theorem wS_len {x : Sp} : (wS x).length = x.w.length := len_of
theorem fS_len {y : Str × Sp} : (fS y).length = y.1.cps.toList.length + 2 + y.2.w.length := by
  unfold fS; rw [len_of]; simp only [List.length_append, List.length_cons]; omega
local macro_rules | `(tactic| wtm_at "u") => `(tactic| first
  | ((with_reducible refine' u_wri ?s1 ?s2 ?s3 ?_); (case s1 => assumption); (case s2 => omega); (case s3 => omega)))
theorem pure_wri : ∀ sl P, ps_wri (m + 1) sl P → p__law_written (ps_wri m) (pdOf false sl P) (sl ++ nones 2) := by
  rintro sl P ⟨x, n, rfl, hx, hn, hm, q⟩
  show p__law_written _ _ [_, .none, .none]
  unfold p__law_written
  have leaf : Leaf6 x → p__law_written (ps_wri m) (pdOf false [.val x.t] P) [.val x.t, .none, .none] := by
    intro h
    unfold p__law_written
    rw [wri_leaf h] at q ⊢
    repeat (first | wtm_at "w" | wtm_at "u")
    exact ⟨trivial, q⟩
  cases n with
  | zero => exact leaf hx
  | succ n =>
  rcases hx with h | ⟨x, r, hl, hr, rfl⟩ | ⟨nm, x, r, hl, hr, rfl⟩
  · exact leaf h
  · clear leaf
    have hw := wB_le (n := n) (by omega)
    have hlen : ∀ y, y ∈ x :: r → (wS y).length ≤ wB n := fun y hy => by rw [wS_len]; exact (spo_len leaf6_len n y (hr y hy)).1
    obtain ⟨g1, g2⟩ := wri_sum (f := wS) (l := x :: r) (by rw [List.length_cons]; omega) (by omega) hlen
    show (_ : Prop)
    unfold rowS tagR at q ⊢
    dsimp only at q ⊢
    repeat (first | wtm_at "w" | wtm_at "u")
    refine lc_mapG (as := x :: r) (g := Sp.t) (f := fun y => .str (wS y)) (env0 := [.val _, .none, .none]) rfl (by rw [List.length_cons]; omega) (fun y hy N hN => ?_) ?_
    · have hy2 := hr y hy
      repeat (first | wtm_at "w" | wtm_at "u")
      exact hN _ rfl
    · rw [show (x :: r).map (fun y => T.str (wS y)) = ((x :: r).map wS).map T.str from by rw [List.map_map]; rfl]
      generalize hJ : Txt.join ", " ((x :: r).map wS) = J at g2
      repeat (first | wtm_at "w" | wtm_at "u")
      refine v_join g1 ?_
      rw [hJ]
      repeat (first | wtm_at "w" | wtm_at "u")
      rw [← hJ, row_text]
      exact ⟨trivial, q⟩
  · clear leaf
    have hw := wB_le (n := n) (by omega)
    have hlen : ∀ y, y ∈ (nm, x) :: r → (fS y).length ≤ wB n + 10 := fun y hy => by
      have h1 := (spo_len leaf6_len n y.2 (hr y hy).2).1
      have h2 := nmk_len (hr y hy).1
      rw [fS_len]; omega
    obtain ⟨g1, g2⟩ := wri_sum (f := fS) (l := (nm, x) :: r) (by rw [List.length_cons]; omega) (by omega) hlen
    unfold fldS tagF at q ⊢
    dsimp only at q ⊢
    repeat (first | wtm_at "w" | wtm_at "u")
    refine lc_mapG (as := (nm, x) :: r) (g := fun y => .tup [.str y.1, y.2.t]) (f := fun y => .str (fS y)) (env0 := [.val _, .none, .none]) rfl (by rw [List.length_cons]; omega) (fun y hy N hN => ?_) ?_
    · obtain ⟨hy1, hy2⟩ := hr y hy
      have h1 := (spo_len leaf6_len n y.2 hy2).1
      have h2 := nmk_len hy1
      have h3 : y.1.length = y.1.cps.toList.length := by rw [Array.length_toList]; rfl
      refine w_gTup2 trivial trivial rfl ?_
      repeat (first | wtm_at "w" | wtm_at "u")
      refine v_addS (by rw [str_app_len, wS_len, show (": " : Str).length = 2 by decide +kernel]; omega) ?_
      rw [f_text]
      exact hN _ rfl
    · rw [show ((nm, x) :: r).map (fun y => T.str (fS y)) = (((nm, x) :: r).map fS).map T.str from by rw [List.map_map]; rfl]
      generalize hJ : Txt.join ", " (((nm, x) :: r).map fS) = J at g2
      repeat (first | wtm_at "w" | wtm_at "u")
      refine v_join g1 ?_
      rw [hJ]
      repeat (first | wtm_at "w" | wtm_at "u")
      rw [← hJ, fld_text]
      exact ⟨trivial, q⟩
end
end Pu

namespace Pu
open PySem PySem.Spec PyProof.Rows L2 He Hk
section
variable {K : PySem.W.Frag} {w : World} {m : Nat}
theorem nss_app {y : Sp} : ∀ {a : List Sp}, nss (a ++ [y]) = nss a ++ y.ns
  | [] => by show y.ns ++ [] = [] ++ y.ns; simp
  | b :: a => by show b.ns ++ nss (a ++ [y]) = (b.ns ++ nss a) ++ y.ns; rw [nss_app, List.append_assoc]
theorem nsF_app {y : Str × Sp} : ∀ {a : List (Str × Sp)} {kvs : List (Key × T)}, nsF kvs (a ++ [y]) = nsF kvs a ++ ((if hasT (putF kvs a) (.inr y.1) = true then [y.1] else []) ++ y.2.ns)
  | [], kvs => by show (if hasT kvs (.inr y.1) = true then [y.1] else []) ++ (y.2.ns ++ []) = [] ++ _; simp; rfl
  | b :: a, kvs => by
    show (if hasT kvs (.inr b.1) = true then [b.1] else []) ++ (b.2.ns ++ nsF _ (a ++ [y])) = ((if hasT kvs (.inr b.1) = true then [b.1] else []) ++ (b.2.ns ++ nsF _ a)) ++ _
    rw [nsF_app]
    simp only [List.append_assoc]
    rfl
theorem inT_strs {z : Str} : ∀ zs : List Str, inT (.str z) (zs.map T.str) = decide (z ∈ zs)
  | [] => rfl
  | y :: r => by
    show (eqF (.str y) (.str z) || inT (.str z) (r.map T.str)) = _
    rw [inT_strs r]
    show (decide (y = z) || _) = _
    by_cases c : y = z
    · subst c; simp
    · rw [decide_eq_false c, Bool.false_or]
      have : z ≠ y := fun e => c e.symm
      simp [this]
theorem hasT_mem {k : Key} : ∀ {kvs : List (Key × T)}, hasT kvs k = true ↔ k ∈ kvs.map Prod.fst
  | [] => ⟨fun h => (nomatch h), fun h => nomatch h⟩
  | kv :: r => by
    have ih := hasT_mem (k := k) (kvs := r)
    unfold hasT valT at ih ⊢
    rw [List.map_cons]
    by_cases c : kv.1 = k
    · rw [List.find?_cons_of_pos (by exact decide_eq_true c), c]
      exact ⟨fun _ => List.Mem.head _, fun _ => rfl⟩
    · rw [List.find?_cons_of_neg (by simpa using c), ih]
      refine ⟨fun h => List.Mem.tail _ h, fun h => ?_⟩
      rcases List.mem_cons.mp h with e | h
      · exact absurd e.symm c
      · exact h
theorem put_new {kvs : List (Key × T)} {k : Key} {v : T} (h : hasT kvs k = false) : putT kvs k v = kvs ++ [(k, v)] := by
  unfold putT
  rw [if_neg (fun e => by
    obtain ⟨kv, h1, h2⟩ := List.any_eq_true.mp e
    rw [hasT_mem.mpr (List.mem_map.mpr ⟨kv, h1, of_decide_eq_true h2⟩)] at h
    cases h)]
theorem mem_put {kvs : List (Key × T)} {k k' : Key} {v : T} : k' ∈ (putT kvs k v).map Prod.fst ↔ k' ∈ kvs.map Prod.fst ∨ k' = k := by
  unfold putT
  by_cases c : (kvs.any fun kv => decide (kv.1 = k)) = true
  · rw [if_pos c, List.map_map]
    have e : (kvs.map (Prod.fst ∘ fun kv => if kv.1 = k then (kv.1, v) else kv)) = kvs.map Prod.fst := by
      refine List.map_congr_left fun kv _ => ?_
      show (if kv.1 = k then (kv.1, v) else kv).1 = kv.1
      split <;> rfl
    rw [e]
    refine ⟨.inl, fun h => h.elim id fun h => ?_⟩
    obtain ⟨kv, h1, h2⟩ := List.any_eq_true.mp c
    exact List.mem_map.mpr ⟨kv, h1, (of_decide_eq_true h2).trans h.symm⟩
  · rw [if_neg c, List.map_append]
    simp
theorem mem_putF {k : Key} : ∀ {fs : List (Str × Sp)} {kvs : List (Key × T)}, k ∈ (putF kvs fs).map Prod.fst ↔ k ∈ kvs.map Prod.fst ∨ ∃ y, y ∈ fs ∧ k = .inr y.1
  | [], kvs => ⟨.inl, fun h => h.elim id fun ⟨y, h, _⟩ => nomatch h⟩
  | b :: fs, kvs => by
    show k ∈ (putF (putT kvs (.inr b.1) b.2.v) fs).map Prod.fst ↔ _
    rw [mem_putF, mem_put]
    constructor
    · rintro ((h | h) | ⟨y, h, e⟩)
      · exact .inl h
      · exact .inr ⟨b, List.Mem.head _, h⟩
      · exact .inr ⟨y, List.Mem.tail _ h, e⟩
    · rintro (h | ⟨y, h, e⟩)
      · exact .inl (.inl h)
      · rcases List.mem_cons.mp h with rfl | h
        · exact .inl (.inr e)
        · exact .inr ⟨y, h, e⟩
theorem has_putF {s : Str} {fs : List (Str × Sp)} : hasT (putF [] fs) (.inr s) = decide (s ∈ fs.map Prod.fst) := by
  rw [Bool.eq_iff_iff, decide_eq_true_iff, hasT_mem]
  refine mem_putF.trans ⟨fun h => ?_, fun h => ?_⟩
  · rcases h with h | ⟨y, h, e⟩
    · exact nomatch h
    · injection e with e
      exact List.mem_map.mpr ⟨y, h, e.symm⟩
  · obtain ⟨y, h, e⟩ := List.mem_map.mp h
    exact .inr ⟨y, h, by rw [e]⟩
def ps_twi (m : Nat) : PSp := fun sl P => ∃ (x : Sp) (n : Nat), sl = [.val x.t] ∧ SpO Leaf6 n x ∧ n ≤ 3 ∧ n + 1 ≤ m ∧ P (.lst (x.ns.map T.str)) [.val x.t]
theorem no_twi {sl : List Slot} {P : T → List Slot → Prop} (h : ps_twi 0 sl P) : False := by obtain ⟨_, _, _, _, _, h, _⟩ := h; omega
theorem u_twi {x : Sp} {n m : Nat} {P : T → List Slot → Prop} (hx : SpO Leaf6 n x) (hn : n ≤ 3) (hm : n + 1 ≤ m) (h : P (.lst (x.ns.map T.str)) [.val x.t]) : ps_twi m [.val x.t] P := ⟨x, n, rfl, hx, hn, hm, h⟩
theorem leaf_ns {x : Sp} (h : Leaf6 x) : x.ns = [] := (leaf6_len x h).2
local macro_rules | `(tactic| wtm_at "u") => `(tactic| first
  | ((with_reducible refine' u_twi ?s1 ?s2 ?s3 ?_); (case s1 => assumption); (case s2 => omega); (case s3 => omega)))
theorem pure_twi : ∀ sl P, ps_twi (m + 1) sl P → p__law_twice (ps_twi m) (pdOf false sl P) (sl ++ nones 3) := by
  rintro sl P ⟨x, n, rfl, hx, hn, hm, q⟩
  show p__law_twice _ _ [_, .none, .none, .none]
  have leaf : Leaf6 x → p__law_twice (ps_twi m) (pdOf false [.val x.t] P) [.val x.t, .none, .none, .none] := by
    intro h
    unfold p__law_twice
    rw [leaf_ns h] at q
    rw [wri_leaf h] at q ⊢
    repeat (first | wtm_at "w" | wtm_at "u")
    exact ⟨trivial, q⟩
  cases n with
  | zero => exact leaf hx
  | succ n =>
  rcases hx with h | ⟨x, r, hl, hr, rfl⟩ | ⟨nm, x, r, hl, hr, rfl⟩
  · exact leaf h
  · clear leaf
    unfold p__law_twice
    have hw := wB_le (n := n) (by omega)
    unfold rowS tagR at q ⊢
    dsimp only at q ⊢
    repeat (first | wtm_at "w" | wtm_at "u")
    rename_i p5
    refine for_inv (fun i env => ∃ s3 : Slot, env = [.val (.lst [.str "row", .lst ((x :: r).map Sp.t)]), .val (.lst ((nss ((x :: r).take i)).map T.str)), .own p5 (.lst []), s3] ∧ noRef [s3] 0) ⟨_, rfl, trivial⟩ ?_ ?_
    · rintro env ⟨s3, rfl, n3⟩
      rw [List.length_map, List.take_length]
      repeat (first | wtm_at "w" | wtm_at "u")
      exact ⟨trivial, q⟩
    · rintro i y0 env N hy0 ⟨s3, rfl, n3⟩ hN
      rw [List.getElem?_map] at hy0
      obtain ⟨y, hy, e0⟩ := Option.map_eq_some_iff.mp hy0
      subst e0
      clear hy0
      have hm2 := List.mem_of_getElem? hy
      have hy2 := hr y hm2
      have l1 : (nss ((x :: r).take i)).length ≤ 6 * wB n := by
        have h1 := nss_len (r := (x :: r).take i) (B := wB n) fun z hz => (spo_len leaf6_len n z (hr z (List.mem_of_mem_take hz))).2
        have h2 : ((x :: r).take i).length * wB n ≤ 6 * wB n := Nat.mul_le_mul_right _ (by rw [List.length_take, List.length_cons]; omega)
        omega
      have l2 := (spo_len leaf6_len n y hy2).2
      refine w_name n3 rfl ?_
      repeat (first | wtm_at "w" | wtm_at "u")
      refine v_addL (by rw [List.length_map, List.length_map]; omega) ?_
      repeat (first | wtm_at "w" | wtm_at "u")
      refine hN _ ⟨.val y.t, ?_, trivial⟩
      rw [← List.map_append, ← nss_app, List.take_succ, hy]
      rfl
  · clear leaf
    unfold p__law_twice
    have hw := wB_le (n := n) (by omega)
    unfold fldS tagF at q ⊢
    dsimp only at q ⊢
    repeat (first | wtm_at "w" | wtm_at "u")
    rename_i p5
    refine for_inv (fun i env => ∃ s3 : Slot, env = [.val (.lst [.str "fields", .lst (((nm, x) :: r).map fun y => .tup [.str y.1, y.2.t])]), .val (.lst ((nsF [] (((nm, x) :: r).take i)).map T.str)), .own p5 (.lst (((((nm, x) :: r).take i).map Prod.fst).map T.str)), s3] ∧ noRef [s3] 0) ⟨_, rfl, trivial⟩ ?_ ?_
    · rintro env ⟨s3, rfl, n3⟩
      rw [List.length_map, List.take_length]
      repeat (first | wtm_at "w" | wtm_at "u")
      exact ⟨trivial, q⟩
    · rintro i y0 env N hy0 ⟨s3, rfl, n3⟩ hN
      rw [List.getElem?_map] at hy0
      obtain ⟨y, hy, e0⟩ := Option.map_eq_some_iff.mp hy0
      subst e0
      clear hy0
      have hm2 := List.mem_of_getElem? hy
      obtain ⟨hy1, hy2⟩ := hr y hm2
      have l1 : (nsF [] (((nm, x) :: r).take i)).length ≤ 8 * (wB n + 1) := by
        have h1 := nsF_len (r := ((nm, x) :: r).take i) (kvs := []) (B := wB n) fun z hz => (spo_len leaf6_len n z.2 (hr z (List.mem_of_mem_take hz)).2).2
        have h2 : (((nm, x) :: r).take i).length * (wB n + 1) ≤ 8 * (wB n + 1) := Nat.mul_le_mul_right _ (by rw [List.length_take, List.length_cons]; omega)
        omega
      have l2 := (spo_len leaf6_len n y.2 hy2).2
      have l3 : (((nm, x) :: r).take i).length ≤ 8 := by rw [List.length_take, List.length_cons]; omega
      refine w_name n3 rfl ?_
      repeat (first | wtm_at "w" | wtm_at "u")
      refine v_inL rfl (List.all_eq_true.mpr fun t ht => by obtain ⟨z, _, rfl⟩ := List.mem_map.mp ht; rfl) ?_
      rw [inT_strs, ← has_putF]
      obtain ⟨ds, d1, d2, d3⟩ : ∃ ds : List Str, ds.length ≤ 1 ∧ (if hasT (putF [] (((nm, x) :: r).take i)) (.inr y.1) = true then [y.1] else []) = ds ∧ (List.replicate (if hasT (putF [] (((nm, x) :: r).take i)) (.inr y.1) = true then (1 : Int) else 0).toNat [T.str y.1]).flatten = ds.map T.str := by
        cases hasT (putF [] (((nm, x) :: r).take i)) (.inr y.1) with
        | true => exact ⟨[y.1], Nat.le_refl _, rfl, rfl⟩
        | false => exact ⟨[], by decide, rfl, rfl⟩
      have eN := nsF_app (y := y) (a := ((nm, x) :: r).take i) (kvs := [])
      have eT : ((nm, x) :: r).take (i + 1) = ((nm, x) :: r).take i ++ [y] := by rw [List.take_succ, hy]; rfl
      rw [← eT, d2] at eN
      repeat (first | wtm_at "w" | wtm_at "u")
      refine v_mulL ⟨by split <;> decide, by split <;> decide, by show 1 ≤ 1000; decide⟩ ?_
      rw [d3]
      repeat (first | wtm_at "w" | wtm_at "u")
      refine v_addL (by rw [List.length_map, List.length_map]; omega) ?_
      repeat (first | wtm_at "w" | wtm_at "u")
      refine v_addL (by rw [List.length_append, List.length_map, List.length_map, List.length_map]; omega) ?_
      repeat (first | wtm_at "w" | wtm_at "u")
      refine w_kApp rfl (by rw [List.length_map, List.length_map]; omega) rfl ?_
      refine hN _ ⟨.val (.tup [.str y.1, y.2.t]), ?_, trivial⟩
      rw [eN, eT, List.map_append, List.map_append, List.map_append, List.map_append, List.append_assoc]
      rfl
end
end Pu

namespace Pu
open PySem PySem.Spec PyProof.Rows L2 He Hk
section
variable {K : PySem.W.Frag} {w : World} {m : Nat}
def kvF (y : Str × Sp) : Key × T := (.inr y.1, y.2.v)
theorem putF_new : ∀ {fs : List (Str × Sp)} {kvs : List (Key × T)}, nsF kvs fs = [] → putF kvs fs = kvs ++ fs.map kvF ∧ ∀ y, y ∈ fs → y.2.ns = []
  | [], kvs, _ => ⟨(List.append_nil _).symm, fun y h => nomatch h⟩
  | b :: fs, kvs, h => by
    obtain ⟨h1, h2⟩ := List.append_eq_nil_iff.mp (show (if hasT kvs (.inr b.1) = true then [b.1] else []) ++ (b.2.ns ++ nsF (putT kvs (.inr b.1) b.2.v) fs) = [] from h)
    obtain ⟨h3, h4⟩ := List.append_eq_nil_iff.mp h2
    have h0 : hasT kvs (.inr b.1) = false := by
      cases e : hasT kvs (.inr b.1) with
      | false => rfl
      | true => rw [e, if_pos rfl] at h1; exact nomatch h1
    obtain ⟨g1, g2⟩ := putF_new h4
    refine ⟨?_, fun y hy => ?_⟩
    · show putF (putT kvs (.inr b.1) b.2.v) fs = _
      rw [g1, put_new h0, List.map_cons, List.append_assoc]
      rfl
    · rcases List.mem_cons.mp hy with rfl | hy
      · exact h3
      · exact g2 y hy
theorem nss_nil : ∀ {r : List Sp}, nss r = [] → ∀ y, y ∈ r → y.ns = []
  | [], _ => fun y h => nomatch h
  | b :: r, h => by
    obtain ⟨h1, h2⟩ := List.append_eq_nil_iff.mp (show b.ns ++ nss r = [] from h)
    intro y hy
    rcases List.mem_cons.mp hy with rfl | hy
    · exact h1
    · exact nss_nil h2 y hy
def ps_loo (m : Nat) : PSp := fun sl P => ∃ (x : Sp) (n : Nat), sl = [.val x.v] ∧ SpO Leaf6 n x ∧ x.ns = [] ∧ n ≤ 3 ∧ n + 1 ≤ m ∧ P (.str (wS x)) [.val x.v]
theorem no_loo {sl : List Slot} {P : T → List Slot → Prop} (h : ps_loo 0 sl P) : False := by obtain ⟨_, _, _, _, _, _, h, _⟩ := h; omega
theorem u_loo {x : Sp} {n m : Nat} {P : T → List Slot → Prop} (hx : SpO Leaf6 n x) (hs : x.ns = []) (hn : n ≤ 3) (hm : n + 1 ≤ m) (h : P (.str (wS x)) [.val x.v]) : ps_loo m [.val x.v] P := ⟨x, n, rfl, hx, hs, hn, hm, h⟩
theorem q_split : Txt.join "\"\"" (Txt.split ⟨qB.toArray⟩ "\"") = ⟨qB.toArray⟩ ∧ ((Txt.split (⟨qB.toArray⟩ : Str) "\"").map (·.length)).sum + (Txt.split (⟨qB.toArray⟩ : Str) "\"").length * ("\"\"" : Str).length ≤ 16777216 := by decide +kernel
local macro_rules | `(tactic| wtm_at "u") => `(tactic| first
  | ((with_reducible refine' u_loo ?s1 ?s2 ?s3 ?s4 ?_); (case s1 => assumption); (case s2 => assumption); (case s3 => omega); (case s4 => omega)))
theorem pure_loo : ∀ sl P, ps_loo (m + 1) sl P → p__law_loose (ps_loo m) (pdOf false sl P) (sl ++ nones 2) := by
  rintro sl P ⟨x, n, rfl, hx, hs, hn, hm, q⟩
  show p__law_loose _ _ [_, .none, .none]
  have leaf : Leaf6 x → p__law_loose (ps_loo m) (pdOf false [.val x.v] P) [.val x.v, .none, .none] := by
    intro h
    obtain ⟨e1, e2, e3, e4, e5, e6⟩ := six_eq
    unfold p__law_loose
    rcases h with rfl | rfl | rfl | rfl | rfl | rfl
    · have q : P (.str ⟨[110, 111].toArray⟩) [.val (.bl false)] := q
      show pSeq _ _ _ [.val (.bl false), .none, .none]
      repeat (first | wtm_at "w" | wtm_at "u")
      rw [e1]
      exact ⟨trivial, q⟩
    · have q : P (.str ⟨[45, 55].toArray⟩) [.val (.int (-7))] := q
      show pSeq _ _ _ [.val (.int (-7)), .none, .none]
      repeat (first | wtm_at "w" | wtm_at "u")
      refine v_strI (by decide) ?_
      rw [show ((toString (-7 : Int) : String) : Str) = ⟨[45, 55].toArray⟩ by decide +kernel]
      exact ⟨trivial, q⟩
    · have q : P (.str ⟨(34 :: (qB ++ [34])).toArray⟩) [.val (.str ⟨qB.toArray⟩)] := q
      show pSeq _ _ _ [.val (.str ⟨qB.toArray⟩), .none, .none]
      repeat (first | wtm_at "w" | wtm_at "u")
      refine v_split (by decide +kernel) (by decide +kernel) ?_
      repeat (first | wtm_at "w" | wtm_at "u")
      refine v_join q_split.2 ?_
      rw [q_split.1]
      repeat (first | wtm_at "w" | wtm_at "u")
      rw [show (("\"" : Str) ++ ⟨qB.toArray⟩) ++ "\"" = ⟨(34 :: (qB ++ [34])).toArray⟩ by decide +kernel]
      exact ⟨trivial, q⟩
    · have q : P (.str ⟨[91, 93].toArray⟩) [.val (.lst [])] := q
      show pSeq _ _ _ [.val (.lst []), .none, .none]
      repeat (first | wtm_at "w" | wtm_at "u")
      refine lc_mapG (as := ([] : List Sp)) (g := Sp.t) (f := Sp.t) (env0 := [.val (.lst []), .none, .none]) rfl (by decide) (fun y hy => nomatch hy) ?_
      show pNil _ _
      repeat (first | wtm_at "w" | wtm_at "u")
      refine v_join (ss := []) (by decide) ?_
      repeat (first | wtm_at "w" | wtm_at "u")
      rw [show (("[" : Str) ++ Txt.join ", " []) ++ "]" = ⟨[91, 93].toArray⟩ by decide +kernel]
      exact ⟨trivial, q⟩
    · have q : P (.str ⟨[123, 125].toArray⟩) [.val (.dct [])] := q
      show pSeq _ _ _ [.val (.dct []), .none, .none]
      repeat (first | wtm_at "w" | wtm_at "u")
      refine lc_mapG (as := ([] : List Sp)) (g := Sp.t) (f := Sp.t) (env0 := [.val (.dct []), .none, .none]) rfl (by decide) (fun y hy => nomatch hy) ?_
      show pNil _ _
      repeat (first | wtm_at "w" | wtm_at "u")
      refine v_join (ss := []) (by decide) ?_
      repeat (first | wtm_at "w" | wtm_at "u")
      rw [show (("{" : Str) ++ Txt.join ", " []) ++ "}" = ⟨[123, 125].toArray⟩ by decide +kernel]
      exact ⟨trivial, q⟩
    · have q : P (.str ⟨thingW.toArray⟩) [.val .non] := q
      show pSeq _ _ _ [.val .non, .none, .none]
      repeat (first | wtm_at "w" | wtm_at "u")
      rw [e6]
      exact ⟨trivial, q⟩
  cases n with
  | zero => exact leaf hx
  | succ n =>
  rcases hx with h | ⟨x, r, hl, hr, rfl⟩ | ⟨nm, x, r, hl, hr, rfl⟩
  · exact leaf h
  · clear leaf
    unfold p__law_loose
    have hw := wB_le (n := n) (by omega)
    have hlen : ∀ y, y ∈ x :: r → (wS y).length ≤ wB n := fun y hy => by rw [wS_len]; exact (spo_len leaf6_len n y (hr y hy)).1
    obtain ⟨g1, g2⟩ := wri_sum (f := wS) (l := x :: r) (by rw [List.length_cons]; omega) (by omega) hlen
    have hs2 := nss_nil hs
    unfold rowS at q ⊢
    dsimp only at q ⊢
    repeat (first | wtm_at "w" | wtm_at "u")
    refine lc_mapG (as := x :: r) (g := Sp.v) (f := fun y => .str (wS y)) (env0 := [.val _, .none, .none]) rfl (by rw [List.length_cons]; omega) (fun y hy N hN => ?_) ?_
    · have hy2 := hr y hy
      have hy3 := hs2 y hy
      repeat (first | wtm_at "w" | wtm_at "u")
      exact hN _ rfl
    · rw [show (x :: r).map (fun y => T.str (wS y)) = ((x :: r).map wS).map T.str from by rw [List.map_map]; rfl]
      generalize hJ : Txt.join ", " ((x :: r).map wS) = J at g2
      repeat (first | wtm_at "w" | wtm_at "u")
      refine v_join g1 ?_
      rw [hJ]
      repeat (first | wtm_at "w" | wtm_at "u")
      rw [← hJ, row_text]
      exact ⟨trivial, q⟩
  · clear leaf
    unfold p__law_loose
    have hw := wB_le (n := n) (by omega)
    have hlen : ∀ y, y ∈ (nm, x) :: r → (fS y).length ≤ wB n + 10 := fun y hy => by
      have h1 := (spo_len leaf6_len n y.2 (hr y hy).2).1
      have h2 := nmk_len (hr y hy).1
      rw [fS_len]; omega
    obtain ⟨g1, g2⟩ := wri_sum (f := fS) (l := (nm, x) :: r) (by rw [List.length_cons]; omega) (by omega) hlen
    obtain ⟨hv, hs2⟩ := putF_new hs
    rw [List.nil_append] at hv
    unfold fldS at q ⊢
    dsimp only at q ⊢
    rw [hv] at q ⊢
    repeat (first | wtm_at "w" | wtm_at "u")
    rw [show DW.items.of (((nm, x) :: r).map kvF) = ((nm, x) :: r).map (fun y => T.tup [.str y.1, y.2.v]) from by
      show List.map _ _ = _
      rw [List.map_map]; rfl]
    refine lc_mapG (as := (nm, x) :: r) (g := fun y => .tup [.str y.1, y.2.v]) (f := fun y => .str (fS y)) (env0 := [.val _, .none, .none]) rfl (by rw [List.length_cons]; omega) (fun y hy N hN => ?_) ?_
    · obtain ⟨hy1, hy2⟩ := hr y hy
      have hy3 := hs2 y hy
      have h1 := (spo_len leaf6_len n y.2 hy2).1
      have h2 := nmk_len hy1
      have h3 : y.1.length = y.1.cps.toList.length := by rw [Array.length_toList]; rfl
      refine w_gTup2 trivial trivial rfl ?_
      repeat (first | wtm_at "w" | wtm_at "u")
      refine v_addS (by rw [str_app_len, wS_len, show (": " : Str).length = 2 by decide +kernel]; omega) ?_
      rw [f_text]
      exact hN _ rfl
    · rw [show ((nm, x) :: r).map (fun y => T.str (fS y)) = (((nm, x) :: r).map fS).map T.str from by rw [List.map_map]; rfl]
      generalize hJ : Txt.join ", " (((nm, x) :: r).map fS) = J at g2
      repeat (first | wtm_at "w" | wtm_at "u")
      refine v_join g1 ?_
      rw [hJ]
      repeat (first | wtm_at "w" | wtm_at "u")
      rw [← hJ, fld_text]
      exact ⟨trivial, q⟩
end
end Pu

namespace Pu
open PySem PySem.Spec PyProof.Rows L2 He Hk
theorem eqS_refl : ∀ {t : T} {b : Bool}, eqS t t = some b → b = true
  | .non, b, h => by cases h; rfl
  | .bl _, b, h => by have : some (decide _) = some b := h; cases this; exact decide_eq_true rfl
  | .int _, b, h => by have : some (decide _) = some b := h; cases this; exact decide_eq_true rfl
  | .str _, b, h => by have : some (decide _) = some b := h; cases this; exact decide_eq_true rfl
  | .lst [], b, h => by cases h; rfl
  | .lst (_ :: _), b, h => by cases h
  | .tup [], b, h => by cases h; rfl
  | .tup (_ :: _), b, h => by cases h
  | .dct [], b, h => by cases h; rfl
  | .dct (_ :: _), b, h => by cases h
  | .ty _, b, h => by cases h
  | .glo _, b, h => by cases h
  | .ins _ _, b, h => by cases h
  | .scr _, b, h => by cases h
mutual
theorem T.dat_plain : ∀ t : T, t.dat false = true → t.toD.plain = true
  | .non, _ => rfl
  | .bl _, _ => rfl
  | .int _, _ => rfl
  | .str _, _ => rfl
  | .lst xs, h => T.dat_plainL xs h
  | .tup xs, h => T.dat_plainL xs h
  | .dct _, h => by cases h
  | .ty _, h => by cases h
  | .glo _, h => by cases h
  | .ins _ _, h => by cases h
  | .scr _, h => by cases h
theorem T.dat_plainL : ∀ ts : List T, T.datL false ts = true → PyData.plainAll (T.toDs ts) = true
  | [], _ => rfl
  | t :: r, h => by
    obtain ⟨h1, h2⟩ := Bool.and_eq_true_iff.mp h
    show (t.toD.plain && PyData.plainAll (T.toDs r)) = true
    rw [T.dat_plain t h1, T.dat_plainL r h2]; rfl
end
theorem v_eq_self {t : T} {R : T → Prop} (d : t.dat false = true) (h1 : t.deep ≤ 60) (h : R (.bl true)) : oEq [t, t] R := by
  unfold oEq
  dsimp only
  cases e : eqS t t with
  | some b => rw [eqS_refl e]; exact h
  | none =>
    refine ⟨⟨d, d, Nat.le_trans (T.depth_le t) (by omega)⟩, ?_⟩
    rw [PySem.SeqAt.eqv_refl_plain _ (T.dat_plain t d)]; exact h
theorem v_ne_self {t : T} {R : T → Prop} (d : t.dat false = true) (h1 : t.deep ≤ 60) (h : R (.bl false)) : oNe [t, t] R := by
  unfold oNe
  dsimp only
  cases e : eqS t t with
  | some b => rw [eqS_refl e]; exact h
  | none =>
    refine ⟨⟨d, d, Nat.le_trans (T.depth_le t) (by omega)⟩, ?_⟩
    rw [PySem.SeqAt.eqv_refl_plain _ (T.dat_plain t d)]; exact h
end Pu

namespace Pu
open PySem PySem.Spec PyProof.Rows L2 He Hk
section
variable {K : PySem.W.Frag} {w : World} {m : Nat}
def ps_rig : PSp := fun sl P => ∃ x : Sp, sl = [.val (.str (wS x)), .val (.lst (x.ns.map T.str))] ∧ SpO Leaf6 3 x ∧ P (.bl true) sl
theorem wS_le {x : Sp} (hx : SpO Leaf6 3 x) : (wS x).length ≤ 20000 ∧ x.ns.length ≤ 20000 := by
  obtain ⟨h1, h2⟩ := spo_len leaf6_len 3 x hx
  have := wB_le (n := 3) (by decide)
  rw [wS_len]; omega
theorem ask_full {x : Sp} (hx : SpO Leaf6 3 x) : askT (wS x) = match x.ns with
  | [] => .tup [.str "read", x.v]
  | a :: _ => .tup [.str "twice", .str a] := by
  unfold askT wS
  rw [rw_full (by decide) (spo_good leaf_good 3 x hx)]
  unfold outR
  cases x.ns <;> rfl
theorem u_rask {z : Str} {P : T → List Slot → Prop} (hz : z.length ≤ 16000000) (h : P (askT z) [.val (.str z)]) : ps_rask [.val (.str z)] P := ⟨_, rfl, .inr ⟨z, rfl, hz, h⟩⟩
local macro_rules | `(tactic| wtm_at "u") => `(tactic| first
  | ((with_reducible refine' u_rask ?s1 ?_); (case s1 => omega)))
theorem pure_rig : ∀ sl P, ps_rig sl P → p__law_right ps_rask (ps_loo 5) (pdOf false sl P) (sl ++ nones 2) := by
  rintro sl P ⟨x, rfl, hx, q⟩
  show p__law_right _ _ _ [_, _, .none, .none]
  unfold p__law_right
  obtain ⟨l1, l2⟩ := wS_le hx
  have ea := ask_full hx
  repeat (first | wtm_at "w" | wtm_at "u")
  refine for_inv (fun i env => ∃ (s2 s3 : Slot), env = [.val (.str (wS x)), .val (.lst (x.ns.map T.str)), s2, s3] ∧ noRef [s2] 0 ∧ noRef [s3] 0) ⟨_, _, rfl, trivial, trivial⟩ ?_ ?_
  · rintro env ⟨s2, s3, rfl, n2, n3⟩
    repeat (first | wtm_at "w" | wtm_at "u")
    exact ⟨trivial, q⟩
  · rintro i y env N hy ⟨s2, s3, rfl, n2, n3⟩ hN
    obtain ⟨hi, rfl⟩ := rng_get hy
    refine w_name n2 rfl ?_
    repeat (first | wtm_at "w" | wtm_at "u")
    refine w_name n3 rfl ?_
    rw [ea]
    cases e : x.ns with
    | nil =>
      repeat (first | wtm_at "w" | wtm_at "u")
      refine u_loo hx e (by decide) (by decide) ?_
      repeat (first | wtm_at "w" | wtm_at "u")
      rw [decide_eq_true rfl]
      repeat (first | wtm_at "w" | wtm_at "u")
      refine hN _ ⟨.val (.int (0 + (i : Int))), .val (.tup [.str "read", x.v]), ?_, trivial, trivial⟩
      rw [e]
    | cons a r =>
      rw [List.map_cons]
      dsimp only
      repeat (first | wtm_at "w" | wtm_at "u")
      refine v_ixLo (by decide) (by rw [List.length_cons]; omega) fun y _ hy => ?_
      replace hy : some (T.str a) = some y := hy
      obtain rfl := Option.some.inj hy
      repeat (first | wtm_at "w" | wtm_at "u")
      refine v_ne_self rfl (by show 1 + _ ≤ 60; exact (by decide : 1 + max 0 (max 0 0) ≤ 60)) ?_
      repeat (first | wtm_at "w" | wtm_at "u")
      refine hN _ ⟨.val (.int (0 + (i : Int))), .val (.tup [.str "twice", .str a]), ?_, trivial, trivial⟩
      rw [e]; rfl
abbrev LtC (l : List Nat) : Prop := ∀ c, c ∈ l → c < 0x110000
theorem isL_lt {c : Nat} (h : isL c = true) : c < 0x110000 := by
  have key : ∀ c, c ∈ letters.cps.toList → c < 0x110000 := by decide +kernel
  exact key c (of_decide_eq_true h)
theorem LtC.cons {a : Nat} {l : List Nat} (h1 : a < 0x110000) (h : LtC l) : LtC (a :: l) := fun c hc => by
  rcases List.mem_cons.mp hc with rfl | hc
  · exact h1
  · exact h c hc
theorem LtC.app {a l : List Nat} (h1 : LtC a) (h : LtC l) : LtC (a ++ l) := fun c hc => by
  rcases List.mem_append.mp hc with hc | hc
  · exact h1 c hc
  · exact h c hc
theorem LtC.nil : LtC [] := fun c h => nomatch h
theorem nmk_lt {s : Str} (h : NmK s) : LtC s.cps.toList := by
  obtain ⟨c, cs, e, c1, c2, _⟩ := h
  rw [e]
  exact .cons (isL_lt c1) fun d hd => isL_lt (c2 d hd)
theorem tailC_lt : ∀ {r : List Sp}, (∀ y, y ∈ r → LtC y.w) → LtC (tailC r)
  | [], _ => .nil
  | y :: r, h => .cons (by decide) (.cons (by decide) (.app (h y (List.Mem.head _)) (tailC_lt fun z hz => h z (List.Mem.tail _ hz))))
theorem tailF_lt : ∀ {r : List (Str × Sp)}, (∀ y, y ∈ r → NmK y.1 ∧ LtC y.2.w) → LtC (tailF r)
  | [], _ => .nil
  | y :: r, h => .cons (by decide) (.cons (by decide) (.app (nmk_lt (h y (List.Mem.head _)).1) (.cons (by decide) (.cons (by decide) (.app (h y (List.Mem.head _)).2 (tailF_lt fun z hz => h z (List.Mem.tail _ hz)))))))
theorem spo_lt {L : Sp → Prop} (hL : ∀ x, L x → LtC x.w) : ∀ (n : Nat) (x : Sp), SpO L n x → LtC x.w
  | 0, x, h => hL x h
  | n + 1, s, h => by
    rcases h with h | ⟨x, r, hl, hr, rfl⟩ | ⟨nm, x, r, hl, hr, rfl⟩
    · exact hL s h
    · have ih : ∀ y, y ∈ x :: r → LtC y.w := fun y hy => spo_lt hL n y (hr y hy)
      exact .cons (by decide) (.app (ih x (List.Mem.head _)) (.app (tailC_lt fun y hy => ih y (List.Mem.tail _ hy)) (.cons (by decide) .nil)))
    · have ih : ∀ y, y ∈ (nm, x) :: r → NmK y.1 ∧ LtC y.2.w := fun y hy => ⟨(hr y hy).1, spo_lt hL n y.2 (hr y hy).2⟩
      exact .cons (by decide) (.app (nmk_lt (ih (nm, x) (List.Mem.head _)).1) (.cons (by decide) (.cons (by decide) (.app (ih (nm, x) (List.Mem.head _)).2 (.app (tailF_lt fun y hy => ih y (List.Mem.tail _ hy)) (.cons (by decide) .nil))))))
theorem leaf6_lt : ∀ x, Leaf6 x → LtC x.w := by
  rintro x (rfl | rfl | rfl | rfl | rfl | rfl) <;> (unfold LtC; decide +kernel)
theorem wS_fine {x : Sp} (hx : SpO Leaf6 3 x) : (T.str (wS x)).Fine := by
  refine ⟨by have := (wS_le hx).1; omega, fun c hc => ?_⟩
  refine spo_lt leaf6_lt 3 x hx c ?_
  have e : (wS x).cps.toList = x.w := by unfold wS; simp
  rw [← e]; exact hc
def ps_law : PSp := fun sl P => ∃ ns : List Int, sl = [.val (.scr ns)] ∧ P (.bl true) sl
theorem more_at {j : Nat} {y : T} (h : ([T.str "]", .str "}", .str "a", .str ",", .str " "] : List T)[j]? = some y) : ∃ c, y = .str ⟨#[c]⟩ ∧ Fol [c] := by
  have e : ("]" : Str) = ⟨#[93]⟩ ∧ ("}" : Str) = ⟨#[125]⟩ ∧ ("a" : Str) = ⟨#[97]⟩ ∧ ("," : Str) = ⟨#[44]⟩ ∧ (" " : Str) = ⟨#[32]⟩ := by decide +kernel
  obtain ⟨e1, e2, e3, e4, e5⟩ := e
  rw [e1, e2, e3, e4, e5] at h
  rcases j with _ | _ | _ | _ | _ | j
  · injection h with h; exact ⟨93, h.symm, fol_cons (by decide)⟩
  · injection h with h; exact ⟨125, h.symm, fol_cons (by decide)⟩
  · injection h with h; exact ⟨97, h.symm, fol_cons (by decide)⟩
  · injection h with h; exact ⟨44, h.symm, fol_cons (by decide)⟩
  · injection h with h; exact ⟨32, h.symm, fol_cons (by decide)⟩
  · cases h
theorem ask_more {x : Sp} {c : Nat} (hx : SpO Leaf6 3 x) (hc : Fol [c]) : askT (wS x ++ ⟨#[c]⟩) = .tup [.str "bad", .int ((wS x).length : Nat)] := by
  have e : wS x ++ ⟨#[c]⟩ = ⟨(x.w ++ [c]).toArray⟩ := by
    rw [← str_eta (s := wS x ++ ⟨#[c]⟩) (cs := x.w ++ [c])]
    rw [app_cps]; unfold wS; simp
  unfold askT
  rw [e, rw_more (by decide) (spo_good leaf_good 3 x hx) hc, wS_len]
theorem ask_cut {x : Sp} {xs : List Sp} {n : Nat} (hl : xs.length ≤ 5) (hr : ∀ y, y ∈ x :: xs → SpO Leaf6 2 y) (hn : n < (rowW x xs).length) : askT (cutS (wS (rowS x xs)) none (some (n : Int))) = .tup [.str "bad", .int (n : Nat)] := by
  have e0 : (wS (rowS x xs)).length = (rowW x xs).length := wS_len
  have e : cutS (wS (rowS x xs)) none (some (n : Int)) = ⟨((rowW x xs).take n).toArray⟩ := by
    rw [← str_eta (s := cutS (wS (rowS x xs)) none (some (n : Int))) (cs := (rowW x xs).take n)]
    rw [cut_to_cps (by omega) (by rw [e0]; omega), Int.toNat_natCast]
    unfold wS; simp; rfl
  have e3 : ((rowW x xs).take n).length = n := by rw [List.length_take]; omega
  unfold askT
  rw [e, rw_cut (n := 2) (by decide) hl (fun y hy => spo_good leaf_good 2 y (hr y hy)) (List.take_append_drop n (rowW x xs)).symm (fun h => by
    have := congrArg List.length h
    rw [List.length_drop, List.length_nil] at this
    omega)]
  dsimp only
  rw [e3]
theorem none_lt : Cs (· < 0x110000) ("none" : Str) := cs_ofString _
theorem things_ok {z : Str} {y : T} (hl : z.length ≤ 20000) (hF : (T.str z).Fine) (hy : y ∈ ([.non, .int 5, .bl true, .lst [], .dct [], .tup [.str "no"], .lst [.str z], .dct (mergeT [] [(.inr "a", .str z)])] : List T)) : NoStr y ∧ y.Fine ∧ y.deep ≤ 2 ∧ y.cost ≤ 300000 := by
  simp only [List.mem_cons, List.mem_nil_iff, or_false] at hy
  rcases hy with rfl | rfl | rfl | rfl | rfl | rfl | rfl | rfl
  · exact ⟨⟨_, rfl, by decide +kernel⟩, trivial, by decide, by decide⟩
  · exact ⟨⟨_, rfl, by decide +kernel⟩, by show (5 : Nat) < 10 ^ 120; decide +kernel, by decide, by decide⟩
  · exact ⟨⟨_, rfl, by decide +kernel⟩, trivial, by decide, by decide⟩
  · exact ⟨⟨_, rfl, by decide +kernel⟩, trivial, by decide, by decide⟩
  · exact ⟨⟨_, rfl, by decide +kernel⟩, trivial, by decide, by decide⟩
  · exact ⟨⟨_, rfl, by decide +kernel⟩, ⟨⟨by decide +kernel, cs_ofString _⟩, trivial⟩, by decide, by decide +kernel⟩
  · exact ⟨⟨_, rfl, by decide +kernel⟩, ⟨hF, trivial⟩, by show 1 + max 0 0 ≤ 2; decide, by show 4 + (10 * z.length + 2 + 2 + 0) ≤ _; omega⟩
  · have e : ("a" : Str).length = 1 := by decide +kernel
    exact ⟨⟨_, rfl, by decide +kernel⟩, ⟨⟨by decide +kernel, cs_ofString _⟩, hF, trivial⟩, by show 1 + max 0 0 ≤ 2; decide, by show 4 + (10 * ("a" : Str).length + 2 + (10 * z.length + 2) + 4 + 0) ≤ _; omega⟩
local macro_rules | `(tactic| wtm_at "u") => `(tactic| first
  | ((with_reducible refine' u_take ?s1 ?s2 ?s3 ?s4 ?_); (case s1 => assumption); (case s2 => omega); (case s3 => omega); (case s4 => omega); intro r' t' hr0 hr1 bx))
theorem pure_law : ∀ sl P, ps_law sl P → p_law ps_box ps_cell ps_take (ps_tree 3) (ps_wri 5) (ps_twi 5) ps_rig ps_rask (pdOf false sl P) (sl ++ nones 9) := by
  rintro sl P ⟨ns, rfl, q⟩
  show p_law _ _ _ _ _ _ _ _ _ [_, .none, .none, .none, .none, .none, .none, .none, .none, .none]
  unfold p_law
  repeat (first | wtm_at "w" | wtm_at "u")
  refine for_inv (fun i env => ∃ (s1 s2 s3 s4 s5 s6 s7 s8 s9 : Slot), env = [.val (.scr ns), s1, s2, s3, s4, s5, s6, s7, s8, s9] ∧ noRef [s1] 0 ∧ noRef [s2] 0 ∧ noRef [s3] 0 ∧ noRef [s4] 0 ∧ noRef [s5] 0 ∧ noRef [s6] 0 ∧ noRef [s7] 0 ∧ noRef [s8] 0 ∧ noRef [s9] 0) ⟨_, _, _, _, _, _, _, _, _, rfl, trivial, trivial, trivial, trivial, trivial, trivial, trivial, trivial, trivial⟩ ?_ ?_
  · rintro env ⟨s1, s2, s3, s4, s5, s6, s7, s8, s9, rfl, n1, n2, n3, n4, n5, n6, n7, n8, n9⟩
    repeat (first | wtm_at "w" | wtm_at "u")
    refine u_rask (by decide +kernel) ?_
    rw [show askT ("{a: {b: 1, b: 2}, a: 1, a: 3}" : Str) = .tup [.str "twice", .str "b"] by unfold askT; rw [end1]]
    repeat (first | wtm_at "w" | wtm_at "u")
    refine v_eq_self rfl (by show 1 + _ ≤ 60; exact (by decide : 1 + max 0 (max 0 0) ≤ 60)) ?_
    repeat (first | wtm_at "w" | wtm_at "u")
    refine u_rask (by decide +kernel) ?_
    rw [show askT ("{a: 1, a: 2" : Str) = .tup [.str "bad", .int 11] by unfold askT; rw [end2]; rfl]
    repeat (first | wtm_at "w" | wtm_at "u")
    refine v_eq_self rfl (by show 1 + _ ≤ 60; exact (by decide : 1 + max 0 (max 0 0) ≤ 60)) ?_
    exact ⟨trivial, q⟩
  · rintro i x env N hx ⟨s1, s2, s3, s4, s5, s6, s7, s8, s9, rfl, n1, n2, n3, n4, n5, n6, n7, n8, n9⟩ hN
    obtain ⟨hi, rfl⟩ := rng_get hx
    have hi2 : (i : Int) < 6 := by
      have : i < (if (if (ns.length : Int) < (6 : Int) then (ns.length : Int) else (6 : Int)) > 1 then (if (ns.length : Int) < (6 : Int) then (ns.length : Int) else (6 : Int)) else 1).toNat := hi
      split at this <;> (try split at this) <;> omega
    refine w_name n1 rfl ?_
    repeat (first | wtm_at "w" | wtm_at "u")
    refine u_cell (by omega) (by omega) fun c => ?_
    repeat (first | wtm_at "w" | wtm_at "u")
    refine u_box fun bt bx => ?_
    repeat (first | wtm_at "w" | wtm_at "u")
    refine w_kOwn n2 ?_
    intro p env' ee
    simp only [List.set_cons_zero, List.set_cons_succ] at ee
    subst ee
    repeat (first | wtm_at "w" | wtm_at "u")
    rename_i r1 t1 hr10 hr11 bx1
    refine w_name n3 rfl ?_
    repeat (first | wtm_at "w" | wtm_at "u")
    rename_i r2 t2 hr20 hr21 bx2
    refine v_ixLo hr20 (by show _ < (5 : Int); omega) fun y _ hy => ?_
    obtain ⟨c5, rfl, hc5⟩ := more_at hy
    refine w_name n4 rfl ?_
    repeat (first | wtm_at "w" | wtm_at "u")
    refine u_tree (l := 2) bx2 (by decide) (by decide) (by decide) fun x1 t3 hx1 bx3 => ?_
    repeat (first | wtm_at "w" | wtm_at "u")
    refine u_tree (l := 2) bx3 (by decide) (by decide) (by decide) fun x2 t4 hx2 bx4 => ?_
    have bx5 : BoxT t4 2000 := bx4.mono (by decide)
    repeat (first | wtm_at "w" | wtm_at "u")
    refine w_name n5 rfl ?_
    have hr : ∀ y, y ∈ x1 :: [x2] → SpO Leaf6 2 y := fun y hy => by
      rcases List.mem_cons.mp hy with rfl | hy
      · exact hx1
      · rw [List.mem_singleton.mp hy]; exact hx2
    have hT : SpO Leaf6 3 (rowS x1 [x2]) := .inr (.inl ⟨x1, [x2], by show 1 ≤ 5; decide, hr, rfl⟩)
    obtain ⟨l1, l2⟩ := wS_le hT
    have hF := wS_fine hT
    have l0 : 2 ≤ (wS (rowS x1 [x2])).length := by
      rw [wS_len]
      show 2 ≤ (91 :: (x1.w ++ (tailC [x2] ++ [93]))).length
      simp only [List.length_cons, List.length_append, List.length_nil]; omega
    repeat (first | wtm_at "w" | wtm_at "u")
    refine u_wri (x := rowS x1 [x2]) hT (by decide) (by decide) ?_
    repeat (first | wtm_at "w" | wtm_at "u")
    refine w_name n6 rfl ?_
    repeat (first | wtm_at "w" | wtm_at "u")
    refine u_twi (x := rowS x1 [x2]) hT (by decide) (by decide) ?_
    repeat (first | wtm_at "w" | wtm_at "u")
    refine w_name n7 rfl ?_
    repeat (first | wtm_at "w" | wtm_at "u")
    rename_i r3 t5 hr30 hr31 bx6
    obtain ⟨cut, hcut⟩ : ∃ k : Nat, 1 + r3 = (k : Int) := ⟨(1 + r3).toNat, by omega⟩
    rw [hcut]
    refine w_name n8 rfl ?_
    have hlen : (wS (rowS x1 [x2])).length = (rowW x1 [x2]).length := wS_len
    have hc2 : cut < (rowW x1 [x2]).length := by omega
    generalize hz : wS (rowS x1 [x2]) = z at *
    repeat (first | wtm_at "w" | wtm_at "u")
    refine ⟨rowS x1 [x2], by rw [hz], hT, ?_⟩
    repeat (first | wtm_at "w" | wtm_at "u")
    refine u_rask (by rw [str_app_len]; show _ + 1 ≤ _; omega) ?_
    rw [← hz, ask_more hT hc5, hz]
    repeat (first | wtm_at "w" | wtm_at "u")
    refine v_ne_self rfl (by show 1 + _ ≤ 60; exact (by decide : 1 + max 0 (max 0 0) ≤ 60)) ?_
    repeat (first | wtm_at "w" | wtm_at "u")
    refine u_rask (by have := cutS_to (z := z) (i := (cut : Int)) (by omega) (by omega); omega) ?_
    rw [← hz, ask_cut (by show 1 ≤ 5; decide) hr hc2, hz]
    repeat (first | wtm_at "w" | wtm_at "u")
    refine v_ne_self rfl (by show 1 + _ ≤ 60; exact (by decide : 1 + max 0 (max 0 0) ≤ 60)) ?_
    repeat (first | wtm_at "w" | wtm_at "u")
    refine v_ixLo hr10 (by show _ < (8 : Int); omega) fun y hy2 _ => ?_
    obtain ⟨g1, g2, g3, g4⟩ := things_ok l1 hF hy2
    have sh : Shows (.tup [.str "none", y]) := shows_of ⟨⟨by decide +kernel, none_lt⟩, g2, trivial⟩ (by show 1 + max 0 (max y.deep 0) ≤ 30; omega) (by
      have e : ("none" : Str).length = 4 := by decide +kernel
      show 4 + (10 * ("none" : Str).length + 2 + 2 + (y.cost + 2 + 0)) ≤ _
      omega)
    refine w_name n9 rfl ?_
    repeat (first | wtm_at "w" | wtm_at "u")
    refine ⟨y, rfl, .inl ⟨g1, ?_⟩⟩
    repeat (first | wtm_at "w" | wtm_at "u")
    refine v_repr sh ?_
    repeat (first | wtm_at "w" | wtm_at "u")
    refine v_repr sh ?_
    repeat (first | wtm_at "w" | wtm_at "u")
    rw [decide_eq_true rfl]
    repeat (first | wtm_at "w" | wtm_at "u")
    refine ⟨rowS x1 [x2], by rw [hz], hT, ?_⟩
    repeat (first | wtm_at "w" | wtm_at "u")
    exact hN _ ⟨.val (.int (0 + (i : Int))), .own p t5, .val (.int r1), _, _, _, _, _, .val y, rfl, trivial, trivial, trivial, trivial, trivial, trivial, trivial, trivial, trivial⟩
end
end Pu

namespace Pu
open PySem PySem.Spec PyProof.Rows L2 He Hk
theorem rf_law [h0 : Hist] {K : PySem.W.Frag} {ps__law_box : PSp} {ps__law_cell : PSp} {ps__law_take : PSp} {ps__law_tree : PSp} {ps__law_written : PSp} {ps__law_twice : PSp} {ps__law_right : PSp} {ps__law_asked : PSp} : RefS K false (t_law K (spP K true ps__law_box) (spP K false ps__law_cell) (spP K false ps__law_take) (spP K false ps__law_tree) (spP K false ps__law_written) (spP K false ps__law_twice) (spP K false ps__law_right) (spP K false ps__law_asked)) (p_law ps__law_box ps__law_cell ps__law_take ps__law_tree ps__law_written ps__law_twice ps__law_right ps__law_asked) := by
  unfold t_law p_law
  exact (rf_seq (rf_for (rfi_rng1 (rf_cb ok_max2 (rfa_cons rf_int (rfa_cons (rf_cb ok_min2 (rfa_cons rf_int (rfa_cons (rf_cb ok_len (rfa_var rfa_nil)) rfa_nil))) rfa_nil)))) rfg_name (rf_seq (rf_own (rf_callF (rfa_cons (rf_call (rfa_cons rf_var (rfa_cons rf_var rfa_nil))) rfa_nil)))
    (rf_seq (rf_asg (rf_call (rfa_var (rfa_cons rf_int rfa_nil))) rfg_name)
    (rf_seq (rf_asg (rf_op2 ok_ix (rfa_cons (RefF.e (rf_lst (rfa_cons rf_str (rfa_cons rf_str (rfa_cons rf_str (rfa_cons rf_str (rfa_cons rf_str rfa_nil))))))) (rfa_cons (rf_call (rfa_var (rfa_cons rf_int rfa_nil))) rfa_nil))) rfg_name)
    (rf_seq (rf_asg (RefF.e (rf_lst (rfa_cons rf_str (rfa_cons (RefF.e (rf_lst (rfa_cons (rf_call (rfa_var (rfa_cons rf_int rfa_nil))) (rfa_cons (rf_call (rfa_var (rfa_cons rf_int rfa_nil))) rfa_nil)))) rfa_nil)))) rfg_name)
    (rf_seq (rf_asg (rf_call (rfa_cons rf_var rfa_nil)) rfg_name)
    (rf_seq (rf_asg (rf_call (rfa_cons rf_var rfa_nil)) rfg_name)
    (rf_seq (rf_asg (rf_op2 ok_add (rfa_cons rf_int (rfa_cons (rf_call (rfa_var (rfa_cons (rf_op2 ok_sub (rfa_cons (rf_cb ok_len (rfa_var rfa_nil)) (rfa_cons rf_int rfa_nil))) rfa_nil))) rfa_nil))) rfg_name)
    (rf_seq (rf_if (rf_not (rf_tB (rf_call (rfa_cons rf_var (rfa_cons rf_var rfa_nil))))) (rf_ret rf_bl) rf_next)
    (rf_seq (rf_if (rf_or (rf_test (rf_op2 ok_ne (rfa_cons (rf_call (rfa_cons (rf_op2 ok_add (rfa_var (rfa_var rfa_nil))) rfa_nil)) (rfa_cons (rf_tup (rfa_cons rf_str (rfa_cons (rf_cb ok_len (rfa_var rfa_nil)) rfa_nil))) rfa_nil)))) (rf_test (rf_op2 ok_ne (rfa_cons (rf_call (rfa_cons (rf_slV rf_noPart (rf_part rf_var)) rfa_nil)) (rfa_cons (rf_tup (rfa_cons rf_str (rfa_cons rf_var rfa_nil))) rfa_nil))))) (rf_ret rf_bl) rf_next)
    (rf_seq (rf_asg (rf_op2 ok_ix (rfa_cons (RefF.e (rf_lst (rfa_cons rf_non (rfa_cons rf_int (rfa_cons rf_bl (rfa_cons (RefF.e (rf_lst rfa_nil)) (rfa_cons (RefF.e rf_dnew) (rfa_cons (rf_tup (rfa_cons rf_str rfa_nil)) (rfa_cons (RefF.e (rf_lst (rfa_cons rf_var rfa_nil))) (rfa_cons (RefF.e (rf_disp (RefP.cons rf_str rf_var RefP.nil))) rfa_nil)))))))))) (rfa_var rfa_nil))) rfg_name)
    (rf_if (rf_or (rf_test (rf_op2 ok_ne (rfa_cons (rf_cb ok_repr (rfa_cons (rf_call (rfa_cons rf_var rfa_nil)) rfa_nil)) (rfa_cons (rf_cb ok_repr (rfa_cons (rf_tup (rfa_cons rf_str (rfa_cons rf_var rfa_nil))) rfa_nil)) rfa_nil)))) (rf_not (rf_tB (rf_call (rfa_cons rf_var (rfa_cons rf_var rfa_nil)))))) (rf_ret rf_bl) rf_next))))))))))))
    (rf_ret (rf_andV (rf_op2 ok_eq (rfa_cons (rf_call (rfa_cons rf_str rfa_nil)) (rfa_cons (rf_tup (rfa_cons rf_str (rfa_cons rf_str rfa_nil))) rfa_nil))) (rf_op2 ok_eq (rfa_cons (rf_call (rfa_cons rf_str rfa_nil)) (rfa_cons (rf_tup (rfa_cons rf_str (rfa_cons rf_int rfa_nil))) rfa_nil))))))

theorem rf__law_asked [h0 : Hist] {K : PySem.W.Frag} {ps_read_worth : PSpX} : RefS K false (t__law_asked K (spX K false ps_read_worth)) (p__law_asked K ps_read_worth) := by
  unfold t__law_asked p__law_asked
  exact (rf_seq (rf_asg (rf_tup (rfa_cons rf_str (rfa_cons rf_non rfa_nil))) rfg_name)
    (rf_seq (rf_tryG xok_no (fun W X hx => (rf_asg (rf_tup (rfa_cons rf_str (rfa_cons (rf_callX hx (rfa_cons rf_var rfa_nil)) rfa_nil))) rfg_name)) (RefH.cons (fun a x cls d hE => (rf_asg (rf_tup (rfa_cons rf_str (rfa_cons (rf_xf hE) rfa_nil))) rfg_name)) (RefH.cons (fun a x cls d hE => (rf_asg (rf_tup (rfa_cons rf_str (rfa_cons (rf_xf hE) rfa_nil))) rfg_name)) (RefH.cons (fun a x cls d hE => (rf_asg (rf_tup (rfa_cons rf_str (rfa_cons (rf_xf hE) rfa_nil))) rfg_name)) (RefH.cons (fun a x cls d hE => (rf_asg (rf_tup (rfa_cons rf_str (rfa_cons rf_non rfa_nil))) rfg_name)) RefH.nil)))))
    (rf_ret rf_var)))

theorem rf_read_worth [h0 : Hist] {K : PySem.W.Frag} {ps_Reader____init__ : PSp} {ps_Reader__read_any : PSpX} (W : WX) (X : PX) (hx : XOk K W X) : RefS K false (t_read_worth K W (spP K false ps_Reader____init__) (spX K false ps_Reader__read_any)) (p_read_worth K X ps_Reader____init__ ps_Reader__read_any) := by
  unfold t_read_worth p_read_worth
  exact (rf_seq (rf_if (rf_not (rf_tB (rf_cb ok_isi (rfa_var (rfa_cons rf_ty rfa_nil))))) (rf_raise hx rf_var) rf_next)
    (rf_seq (rf_own (rf_make (rfa_cons rf_var rfa_nil)))
    (rf_seq (rf_asg (rf_methOX (fr := false) (tab := [(ga K "Reader", ps_Reader__read_any)]) hx (rfa_cons rf_int rfa_nil)) rfg_name)
    (rf_seq (rf_if (rf_test (rf_op2 ok_lt (rfa_cons rf_fldO (rfa_cons (rf_cb ok_len (rfa_var rfa_nil)) rfa_nil)))) (rf_raise hx rf_fldO) rf_next)
    (rf_seq (rf_if (rf_test (rf_op2 ok_notN (rfa_cons rf_fldO (rfa_cons rf_non rfa_nil)))) (rf_raise hx rf_fldO) rf_next)
    (rf_ret rf_var))))))

theorem rf_Reader__read_any [h0 : Hist] {K : PySem.W.Frag} {ps_Reader__ahead : PSp} {ps_Reader__read_quoted : PSpX} {ps_Reader__read_row : PSpX} {ps_Reader__read_fields : PSpX} {ps_Reader__take_all : PSpX} {ps_Reader__read_number : PSpX} (W : WX) (X : PX) (hx : XOk K W X) : RefS K false (t_Reader__read_any K W (spP K false ps_Reader__ahead) (spX K false ps_Reader__read_quoted) (spX K false ps_Reader__read_row) (spX K false ps_Reader__read_fields) (spX K false ps_Reader__take_all) (spX K false ps_Reader__read_number)) (p_Reader__read_any K X ps_Reader__ahead ps_Reader__read_quoted ps_Reader__read_row ps_Reader__read_fields ps_Reader__take_all ps_Reader__read_number) := by
  unfold t_Reader__read_any p_Reader__read_any
  exact (rf_seq (rf_asg (rf_methO (fr := false) (tab := [(ga K "Reader", ps_Reader__ahead)]) rfa_nil) rfg_name)
    (rf_seq (rf_if (rf_test (rf_op2 ok_eq (rfa_var (rfa_cons rf_str rfa_nil)))) (rf_ret (rf_methOX (fr := false) (tab := [(ga K "Reader", ps_Reader__read_quoted)]) hx rfa_nil)) rf_next)
    (rf_seq (rf_if (rf_test (rf_op2 ok_eq (rfa_var (rfa_cons rf_str rfa_nil)))) (rf_ret (rf_methOX (fr := false) (tab := [(ga K "Reader", ps_Reader__read_row)]) hx (rfa_cons rf_var rfa_nil))) rf_next)
    (rf_seq (rf_if (rf_test (rf_op2 ok_eq (rfa_var (rfa_cons rf_str rfa_nil)))) (rf_ret (rf_methOX (fr := false) (tab := [(ga K "Reader", ps_Reader__read_fields)]) hx (rfa_cons rf_var rfa_nil))) rf_next)
    (rf_seq (rf_if (rf_test (rf_op2 ok_eq (rfa_var (rfa_cons rf_str rfa_nil)))) (rf_seq (rf_drop (rf_methOX (fr := false) (tab := [(ga K "Reader", ps_Reader__take_all)]) hx (rfa_cons rf_str rfa_nil)))
    (rf_ret rf_bl)) rf_next)
    (rf_seq (rf_if (rf_test (rf_op2 ok_eq (rfa_var (rfa_cons rf_str rfa_nil)))) (rf_seq (rf_drop (rf_methOX (fr := false) (tab := [(ga K "Reader", ps_Reader__take_all)]) hx (rfa_cons rf_str rfa_nil)))
    (rf_seq (rf_if (rf_test (rf_op2 ok_ne (rfa_cons (rf_methO (fr := false) (tab := [(ga K "Reader", ps_Reader__ahead)]) rfa_nil) (rfa_cons rf_str rfa_nil)))) (rf_ret rf_bl) rf_next)
    (rf_seq (rf_drop (rf_methOX (fr := false) (tab := [(ga K "Reader", ps_Reader__take_all)]) hx (rfa_cons rf_str rfa_nil)))
    (rf_ret rf_non)))) rf_next)
    (rf_ret (rf_methOX (fr := false) (tab := [(ga K "Reader", ps_Reader__read_number)]) hx rfa_nil))))))))

theorem rf_Reader__read_number [h0 : Hist] {K : PySem.W.Frag} {ps_Reader__ahead : PSp} {ps_Reader__take : PSpX} (W : WX) (X : PX) (hx : XOk K W X) : RefS K false (t_Reader__read_number K W (spP K false ps_Reader__ahead) (spX K false ps_Reader__take)) (p_Reader__read_number K X ps_Reader__ahead ps_Reader__take) := by
  unfold t_Reader__read_number p_Reader__read_number
  exact (rf_seq (rf_asg (rf_op2 ok_eq (rfa_cons (rf_methO (fr := false) (tab := [(ga K "Reader", ps_Reader__ahead)]) rfa_nil) (rfa_cons rf_str rfa_nil))) rfg_name)
    (rf_seq (rf_if (rf_tB rf_var) (rf_drop (rf_methOX (fr := false) (tab := [(ga K "Reader", ps_Reader__take)]) hx (rfa_cons rf_str rfa_nil))) rf_next)
    (rf_seq (rf_if (rf_and (rf_test (rf_op2 ok_eq (rfa_cons (rf_methO (fr := false) (tab := [(ga K "Reader", ps_Reader__ahead)]) rfa_nil) (rfa_cons rf_str rfa_nil)))) (rf_not (rf_tB rf_var))) (rf_seq (rf_drop (rf_methOX (fr := false) (tab := [(ga K "Reader", ps_Reader__take)]) hx (rfa_cons rf_str rfa_nil)))
    (rf_ret rf_int)) rf_next)
    (rf_seq (rf_asg (rf_methOX (fr := false) (tab := [(ga K "Reader", ps_Reader__take)]) hx (rfa_cons (rf_sl rf_str (rf_part rf_int) rf_noPart) rfa_nil)) rfg_name)
    (rf_seq (rf_while (rf_and (rf_test (rf_op2 ok_ne (rfa_cons (rf_methO (fr := false) (tab := [(ga K "Reader", ps_Reader__ahead)]) rfa_nil) (rfa_cons rf_str rfa_nil)))) (rf_and (rf_test (rf_op2 ok_in (rfa_cons (rf_methO (fr := false) (tab := [(ga K "Reader", ps_Reader__ahead)]) rfa_nil) (rfa_cons rf_str rfa_nil)))) (rf_test (rf_op2 ok_lt (rfa_cons (rf_cb ok_len (rfa_var rfa_nil)) (rfa_cons rf_int rfa_nil)))))) (rf_asg (rf_op2 ok_add (rfa_var (rfa_cons (rf_methOX (fr := false) (tab := [(ga K "Reader", ps_Reader__take)]) hx (rfa_cons rf_str rfa_nil)) rfa_nil))) rfg_name))
    (rf_ret (rf_ifE (rf_tB rf_var) (rf_op2 ok_sub (rfa_cons rf_int (rfa_cons (rf_cb ok_intT (rfa_var rfa_nil)) rfa_nil))) (rf_cb ok_intT (rfa_var rfa_nil)))))))))

theorem rf_Reader__take [h0 : Hist] {K : PySem.W.Frag} {ps_Reader__ahead : PSp} (W : WX) (X : PX) (hx : XOk K W X) : RefS K false (t_Reader__take K W (spP K false ps_Reader__ahead)) (p_Reader__take K X ps_Reader__ahead) := by
  unfold t_Reader__take p_Reader__take
  exact (rf_seq (rf_asg (rf_methO (fr := false) (tab := [(ga K "Reader", ps_Reader__ahead)]) rfa_nil) rfg_name)
    (rf_seq (rf_if (rf_or (rf_test (rf_op2 ok_eq (rfa_var (rfa_cons rf_str rfa_nil)))) (rf_test (rf_op2 ok_notIn (rfa_var (rfa_var rfa_nil))))) (rf_raise hx rf_fldO) rf_next)
    (rf_seq (rf_setF (rf_op2 ok_add (rfa_cons rf_fldO (rfa_cons rf_int rfa_nil))))
    (rf_ret rf_var))))

theorem rf_Reader__ahead [h0 : Hist] {K : PySem.W.Frag}  : RefS K false (t_Reader__ahead K) (p_Reader__ahead K) := by
  unfold t_Reader__ahead p_Reader__ahead
  exact (rf_ret (rf_sl rf_fldO (rf_part rf_fldO) (rf_part (rf_op2 ok_add (rfa_cons rf_fldO (rfa_cons rf_int rfa_nil))))))

theorem rf_Reader__take_all [h0 : Hist] {K : PySem.W.Frag} {ps_Reader__take : PSpX} (W : WX) (X : PX) (hx : XOk K W X) : RefS K false (t_Reader__take_all K W (spX K false ps_Reader__take)) (p_Reader__take_all K X ps_Reader__take) := by
  unfold t_Reader__take_all p_Reader__take_all
  exact (rf_for (rfi_str rf_var) rfg_name (rf_drop (rf_methOX (fr := false) (tab := [(ga K "Reader", ps_Reader__take)]) hx (rfa_cons rf_var rfa_nil))))

theorem rf_Reader__read_fields [h0 : Hist] {K : PySem.W.Frag} {ps_Reader__take : PSpX} {ps_Reader__ahead : PSp} {ps_Reader__read_field : PSpX} {ps_Reader__take_all : PSpX} (W : WX) (X : PX) (hx : XOk K W X) : RefS K false (t_Reader__read_fields K W (spX K false ps_Reader__take) (spP K false ps_Reader__ahead) (spX K false ps_Reader__read_field) (spX K false ps_Reader__take_all)) (p_Reader__read_fields K X ps_Reader__take ps_Reader__ahead ps_Reader__read_field ps_Reader__take_all) := by
  unfold t_Reader__read_fields p_Reader__read_fields
  exact (rf_seq (rf_drop (rf_methOX (fr := false) (tab := [(ga K "Reader", ps_Reader__take)]) hx (rfa_cons rf_str rfa_nil)))
    (rf_seq (rf_own rf_dnew)
    (rf_seq (rf_if (rf_and (rf_test (rf_op2 ok_lt (rfa_var (rfa_cons rf_int rfa_nil)))) (rf_test (rf_op2 ok_ne (rfa_cons (rf_methO (fr := false) (tab := [(ga K "Reader", ps_Reader__ahead)]) rfa_nil) (rfa_cons rf_str rfa_nil))))) (rf_seq (rf_drop (rf_methOX (fr := false) (tab := [(ga K "Reader", ps_Reader__read_field)]) hx (rfa_var (rfa_cons rf_var rfa_nil))))
    (rf_for (rfi_rng1 (rf_op2 ok_sub (rfa_cons rf_int (rfa_cons rf_int rfa_nil)))) rfg_name (rf_if (rf_test (rf_op2 ok_eq (rfa_cons (rf_methO (fr := false) (tab := [(ga K "Reader", ps_Reader__ahead)]) rfa_nil) (rfa_cons rf_str rfa_nil)))) (rf_seq (rf_drop (rf_methOX (fr := false) (tab := [(ga K "Reader", ps_Reader__take_all)]) hx (rfa_cons rf_str rfa_nil)))
    (rf_drop (rf_methOX (fr := false) (tab := [(ga K "Reader", ps_Reader__read_field)]) hx (rfa_var (rfa_cons rf_var rfa_nil))))) rf_next))) rf_next)
    (rf_seq (rf_drop (rf_methOX (fr := false) (tab := [(ga K "Reader", ps_Reader__take)]) hx (rfa_cons rf_str rfa_nil)))
    (rf_ret rf_var)))))

theorem rf_Reader__read_field [h0 : Hist] {K : PySem.W.Frag} {ps_Reader__take : PSpX} {ps_Reader__ahead : PSp} {ps_Reader__take_all : PSpX} {ps_Reader__read_any : PSpX} (W : WX) (X : PX) (hx : XOk K W X) : RefS K false (t_Reader__read_field K W (spX K false ps_Reader__take) (spP K false ps_Reader__ahead) (spX K false ps_Reader__take_all) (spX K false ps_Reader__read_any)) (p_Reader__read_field K X ps_Reader__take ps_Reader__ahead ps_Reader__take_all ps_Reader__read_any) := by
  unfold t_Reader__read_field p_Reader__read_field
  exact (rf_seq (rf_asg (rf_methOX (fr := false) (tab := [(ga K "Reader", ps_Reader__take)]) hx (rfa_cons rf_str rfa_nil)) rfg_name)
    (rf_seq (rf_while (rf_and (rf_test (rf_op2 ok_lt (rfa_cons (rf_cb ok_len (rfa_var rfa_nil)) (rfa_cons rf_int rfa_nil)))) (rf_test (rf_op2 ok_ne (rfa_cons (rf_methO (fr := false) (tab := [(ga K "Reader", ps_Reader__ahead)]) rfa_nil) (rfa_cons rf_str rfa_nil))))) (rf_asg (rf_op2 ok_add (rfa_var (rfa_cons (rf_methOX (fr := false) (tab := [(ga K "Reader", ps_Reader__take)]) hx (rfa_cons rf_str rfa_nil)) rfa_nil))) rfg_name))
    (rf_seq (rf_drop (rf_methOX (fr := false) (tab := [(ga K "Reader", ps_Reader__take_all)]) hx (rfa_cons rf_str rfa_nil)))
    (rf_seq (rf_if (rf_and (rf_test (rf_op2 ok_inA (rfa_var (rfa_var rfa_nil)))) (rf_test (rf_op2 ok_isN (rfa_cons rf_fldO (rfa_cons rf_non rfa_nil))))) (rf_setF rf_var) rf_next)
    (rf_asg (rf_methOX (fr := false) (tab := [(ga K "Reader", ps_Reader__read_any)]) hx (rfa_cons (rf_op2 ok_add (rfa_var (rfa_cons rf_int rfa_nil))) rfa_nil)) (rfg_setD rf_var))))))

theorem rf_Reader__read_row [h0 : Hist] {K : PySem.W.Frag} {ps_Reader__take : PSpX} {ps_Reader__ahead : PSp} {ps_Reader__read_any : PSpX} {ps_Reader__take_all : PSpX} (W : WX) (X : PX) (hx : XOk K W X) : RefS K false (t_Reader__read_row K W (spX K false ps_Reader__take) (spP K false ps_Reader__ahead) (spX K false ps_Reader__read_any) (spX K false ps_Reader__take_all)) (p_Reader__read_row K X ps_Reader__take ps_Reader__ahead ps_Reader__read_any ps_Reader__take_all) := by
  unfold t_Reader__read_row p_Reader__read_row
  exact (rf_seq (rf_drop (rf_methOX (fr := false) (tab := [(ga K "Reader", ps_Reader__take)]) hx (rfa_cons rf_str rfa_nil)))
    (rf_seq (rf_own (rf_lst rfa_nil))
    (rf_seq (rf_if (rf_and (rf_test (rf_op2 ok_lt (rfa_var (rfa_cons rf_int rfa_nil)))) (rf_test (rf_op2 ok_ne (rfa_cons (rf_methO (fr := false) (tab := [(ga K "Reader", ps_Reader__ahead)]) rfa_nil) (rfa_cons rf_str rfa_nil))))) (rf_seq (rf_append (rf_methOX (fr := false) (tab := [(ga K "Reader", ps_Reader__read_any)]) hx (rfa_cons (rf_op2 ok_add (rfa_var (rfa_cons rf_int rfa_nil))) rfa_nil)))
    (rf_while (rf_and (rf_test (rf_op2 ok_lt (rfa_cons (rf_cb ok_len (rfa_var rfa_nil)) (rfa_cons rf_int rfa_nil)))) (rf_test (rf_op2 ok_eq (rfa_cons (rf_methO (fr := false) (tab := [(ga K "Reader", ps_Reader__ahead)]) rfa_nil) (rfa_cons rf_str rfa_nil))))) (rf_seq (rf_drop (rf_methOX (fr := false) (tab := [(ga K "Reader", ps_Reader__take_all)]) hx (rfa_cons rf_str rfa_nil)))
    (rf_append (rf_methOX (fr := false) (tab := [(ga K "Reader", ps_Reader__read_any)]) hx (rfa_cons (rf_op2 ok_add (rfa_var (rfa_cons rf_int rfa_nil))) rfa_nil)))))) rf_next)
    (rf_seq (rf_drop (rf_methOX (fr := false) (tab := [(ga K "Reader", ps_Reader__take)]) hx (rfa_cons rf_str rfa_nil)))
    (rf_ret rf_var)))))

theorem rf_Reader__read_quoted [h0 : Hist] {K : PySem.W.Frag} {ps_Reader__take : PSpX} {ps_Reader__ends : PSp} {ps_Reader__ahead : PSp} {ps_is_sign : PSp} (W : WX) (X : PX) (hx : XOk K W X) : RefS K false (t_Reader__read_quoted K W (spX K false ps_Reader__take) (spP K false ps_Reader__ends) (spP K false ps_Reader__ahead) (spP K false ps_is_sign)) (p_Reader__read_quoted K X ps_Reader__take ps_Reader__ends ps_Reader__ahead ps_is_sign) := by
  unfold t_Reader__read_quoted p_Reader__read_quoted
  exact (rf_seq (rf_drop (rf_methOX (fr := false) (tab := [(ga K "Reader", ps_Reader__take)]) hx (rfa_cons rf_str rfa_nil)))
    (rf_seq (rf_asg rf_str rfg_name)
    (rf_seq (rf_while (rf_not (rf_tB (rf_methO (fr := false) (tab := [(ga K "Reader", ps_Reader__ends)]) (rfa_cons rf_var rfa_nil)))) (rf_seq (rf_asg (rf_methO (fr := false) (tab := [(ga K "Reader", ps_Reader__ahead)]) rfa_nil) rfg_name)
    (rf_seq (rf_if (rf_or (rf_test (rf_op2 ok_eq (rfa_var (rfa_cons rf_str rfa_nil)))) (rf_or (rf_test (rf_op2 ok_eq (rfa_cons (rf_cb ok_len (rfa_var rfa_nil)) (rfa_cons rf_int rfa_nil)))) (rf_not (rf_tB (rf_call (rfa_cons rf_var rfa_nil)))))) (rf_raise hx rf_fldO) rf_next)
    (rf_seq (rf_setF (rf_op2 ok_add (rfa_cons (rf_op2 ok_add (rfa_cons rf_fldO (rfa_cons rf_int rfa_nil))) (rfa_cons (rf_cb ok_int1 (rfa_cons (rf_op2 ok_eq (rfa_var (rfa_cons rf_str rfa_nil))) rfa_nil)) rfa_nil))))
    (rf_asg (rf_op2 ok_add (rfa_var (rfa_var rfa_nil))) rfg_name)))))
    (rf_seq (rf_drop (rf_methOX (fr := false) (tab := [(ga K "Reader", ps_Reader__take)]) hx (rfa_cons rf_str rfa_nil)))
    (rf_ret rf_var)))))

theorem rf_is_sign [h0 : Hist] {K : PySem.W.Frag}  : RefS K false (t_is_sign K) (p_is_sign) := by
  unfold t_is_sign p_is_sign
  exact (rf_ret (rf_andV (rf_chain ok_leS ok_leS rf_str rf_var rf_str) (rf_op2 ok_ne (rfa_cons (rf_cb ok_ord (rfa_var rfa_nil)) (rfa_cons rf_int rfa_nil)))))

theorem rf_Reader__ends [h0 : Hist] {K : PySem.W.Frag} {ps_Reader__ahead : PSp} : RefS K false (t_Reader__ends K (spP K false ps_Reader__ahead)) (p_Reader__ends K ps_Reader__ahead) := by
  unfold t_Reader__ends p_Reader__ends
  exact (rf_seq (rf_asg (rf_sl rf_fldO (rf_part (rf_op2 ok_add (rfa_cons rf_fldO (rfa_cons rf_int rfa_nil)))) (rf_part (rf_op2 ok_add (rfa_cons rf_fldO (rfa_cons rf_int rfa_nil))))) rfg_name)
    (rf_ret (rf_andV (rf_op2 ok_eq (rfa_cons (rf_methO (fr := false) (tab := [(ga K "Reader", ps_Reader__ahead)]) rfa_nil) (rfa_cons rf_str rfa_nil))) (rf_orV (rf_op2 ok_ne (rfa_var (rfa_cons rf_str rfa_nil))) (rf_op2 ok_eq (rfa_cons (rf_cb ok_len (rfa_var rfa_nil)) (rfa_cons rf_int rfa_nil)))))))

theorem rf_Reader____init__ [h0 : Hist] {K : PySem.W.Frag}  : RefS K false (t_Reader____init__ K) (p_Reader____init__ K) := by
  unfold t_Reader____init__ p_Reader____init__
  exact (rf_seq (rf_setF rf_var)
    (rf_seq (rf_setF rf_int)
    (rf_setF rf_non)))

theorem rf__law_right [h0 : Hist] {K : PySem.W.Frag} {ps__law_asked : PSp} {ps__law_loose : PSp} : RefS K false (t__law_right K (spP K false ps__law_asked) (spP K false ps__law_loose)) (p__law_right ps__law_asked ps__law_loose) := by
  unfold t__law_right p__law_right
  exact (rf_seq (rf_for (rfi_rng1 rf_int) rfg_name (rf_seq (rf_asg (rf_call (rfa_cons rf_var rfa_nil)) rfg_name)
    (rf_seq (rf_if (rf_and (rf_test (rf_op2 ok_ne (rfa_var (rfa_cons (RefF.e (rf_lst rfa_nil)) rfa_nil)))) (rf_test (rf_op2 ok_ne (rfa_var (rfa_cons (rf_tup (rfa_cons rf_str (rfa_cons (rf_op2 ok_ix (rfa_var (rfa_cons rf_int rfa_nil))) rfa_nil))) rfa_nil))))) (rf_ret rf_bl) rf_next)
    (rf_if (rf_and (rf_test (rf_op2 ok_eq (rfa_var (rfa_cons (RefF.e (rf_lst rfa_nil)) rfa_nil)))) (rf_or (rf_test (rf_op2 ok_ne (rfa_cons (rf_op2 ok_ix (rfa_var (rfa_cons rf_int rfa_nil))) (rfa_cons rf_str rfa_nil)))) (rf_test (rf_op2 ok_ne (rfa_cons (rf_call (rfa_cons (rf_op2 ok_ix (rfa_var (rfa_cons rf_int rfa_nil))) rfa_nil)) (rfa_var rfa_nil)))))) (rf_ret rf_bl) rf_next))))
    (rf_ret rf_bl))

theorem rf__law_loose [h0 : Hist] {K : PySem.W.Frag} {ps__law_loose : PSp} : RefS K false (t__law_loose K (spP K false ps__law_loose)) (p__law_loose ps__law_loose) := by
  unfold t__law_loose p__law_loose
  exact (rf_seq (rf_if (rf_test (rf_op2 ok_isN (rfa_var (rfa_cons rf_non rfa_nil)))) (rf_ret rf_str) rf_next)
    (rf_seq (rf_if (rf_tB (rf_cb ok_isi (rfa_var (rfa_cons rf_ty rfa_nil)))) (rf_ret (rf_op2 ok_ix (rfa_cons (RefF.e (rf_lst (rfa_cons rf_str (rfa_cons rf_str rfa_nil)))) (rfa_cons (rf_cb ok_int1 (rfa_var rfa_nil)) rfa_nil)))) rf_next)
    (rf_seq (rf_if (rf_tB (rf_cb ok_isi (rfa_var (rfa_cons rf_ty rfa_nil)))) (rf_ret (rf_cb ok_str (rfa_var rfa_nil))) rf_next)
    (rf_seq (rf_if (rf_tB (rf_cb ok_isi (rfa_var (rfa_cons rf_ty rfa_nil)))) (rf_ret (rf_op2 ok_add (rfa_cons (rf_op2 ok_add (rfa_cons rf_str (rfa_cons (rf_m1 ok_join rf_str (rfa_cons (rf_m1 ok_split rf_var (rfa_cons rf_str rfa_nil)) rfa_nil)) rfa_nil))) (rfa_cons rf_str rfa_nil)))) rf_next)
    (rf_seq (rf_if (rf_tB (rf_cb ok_isi (rfa_var (rfa_cons rf_ty rfa_nil)))) (rf_ret (rf_op2 ok_add (rfa_cons (rf_op2 ok_add (rfa_cons rf_str (rfa_cons (rf_m1 ok_join rf_str (rfa_cons (RefF.e (rf_lc (rfi_list rf_var) (rfgw_name (by decide)) rf_yes (rf_call (rfa_cons rf_var rfa_nil)))) rfa_nil)) rfa_nil))) (rfa_cons rf_str rfa_nil)))) rf_next)
    (rf_seq (rf_if (rf_tB (rf_cb ok_isi (rfa_var (rfa_cons rf_ty rfa_nil)))) (rf_ret (rf_op2 ok_add (rfa_cons (rf_op2 ok_add (rfa_cons rf_str (rfa_cons (rf_m1 ok_join rf_str (rfa_cons (RefF.e (rf_lcD (rfgw_tup (rfgw_cons (rfgw_name (by decide)) (rfgw_cons (rfgw_name (by decide)) rfgw_nil))) rf_yes (rf_op2 ok_add (rfa_cons (rf_op2 ok_add (rfa_var (rfa_cons rf_str rfa_nil))) (rfa_cons (rf_call (rfa_cons rf_var rfa_nil)) rfa_nil))))) rfa_nil)) rfa_nil))) (rfa_cons rf_str rfa_nil)))) rf_next)
    (rf_ret rf_str)))))))

theorem rf__law_twice [h0 : Hist] {K : PySem.W.Frag} {ps__law_twice : PSp} : RefS K false (t__law_twice K (spP K false ps__law_twice)) (p__law_twice ps__law_twice) := by
  unfold t__law_twice p__law_twice
  exact (rf_seq (rf_if (rf_tB (rf_cb ok_isi (rfa_var (rfa_cons rf_ty rfa_nil)))) (rf_ret (RefF.e (rf_lst rfa_nil))) rf_next)
    (rf_seq (rf_asg (RefF.e (rf_lst rfa_nil)) rfg_name)
    (rf_seq (rf_own (rf_lst rfa_nil))
    (rf_seq (rf_for (rfi_list (rf_op2 ok_ix (rfa_var (rfa_cons rf_int rfa_nil)))) rfg_name (rf_if (rf_test (rf_op2 ok_eq (rfa_cons (rf_op2 ok_ix (rfa_var (rfa_cons rf_int rfa_nil))) (rfa_cons rf_str rfa_nil)))) (rf_asg (rf_op2 ok_add (rfa_var (rfa_cons (rf_call (rfa_cons rf_var rfa_nil)) rfa_nil))) rfg_name) (rf_seq (rf_asg (rf_op2 ok_add (rfa_cons (rf_op2 ok_add (rfa_var (rfa_cons (rf_op2 ok_mul (rfa_cons (RefF.e (rf_lst (rfa_cons (rf_op2 ok_ix (rfa_var (rfa_cons rf_int rfa_nil))) rfa_nil))) (rfa_cons (rf_cb ok_int1 (rfa_cons (rf_op2 ok_in (rfa_cons (rf_op2 ok_ix (rfa_var (rfa_cons rf_int rfa_nil))) (rfa_var rfa_nil))) rfa_nil)) rfa_nil))) rfa_nil))) (rfa_cons (rf_call (rfa_cons (rf_op2 ok_ix (rfa_var (rfa_cons rf_int rfa_nil))) rfa_nil)) rfa_nil))) rfg_name)
    (rf_append (rf_op2 ok_ix (rfa_var (rfa_cons rf_int rfa_nil)))))))
    (rf_ret rf_var)))))

theorem rf__law_written [h0 : Hist] {K : PySem.W.Frag} {ps__law_written : PSp} : RefS K false (t__law_written K (spP K false ps__law_written)) (p__law_written ps__law_written) := by
  unfold t__law_written p__law_written
  exact (rf_seq (rf_if (rf_tB (rf_cb ok_isi (rfa_var (rfa_cons rf_ty rfa_nil)))) (rf_ret rf_var) rf_next)
    (rf_seq (rf_if (rf_test (rf_op2 ok_eq (rfa_cons (rf_op2 ok_ix (rfa_var (rfa_cons rf_int rfa_nil))) (rfa_cons rf_str rfa_nil)))) (rf_ret (rf_op2 ok_add (rfa_cons (rf_op2 ok_add (rfa_cons rf_str (rfa_cons (rf_m1 ok_join rf_str (rfa_cons (RefF.e (rf_lc (rfi_list (rf_op2 ok_ix (rfa_var (rfa_cons rf_int rfa_nil)))) (rfgw_name (by decide)) rf_yes (rf_call (rfa_cons rf_var rfa_nil)))) rfa_nil)) rfa_nil))) (rfa_cons rf_str rfa_nil)))) rf_next)
    (rf_ret (rf_op2 ok_add (rfa_cons (rf_op2 ok_add (rfa_cons rf_str (rfa_cons (rf_m1 ok_join rf_str (rfa_cons (RefF.e (rf_lc (rfi_list (rf_op2 ok_ix (rfa_var (rfa_cons rf_int rfa_nil)))) (rfgw_tup (rfgw_cons (rfgw_name (by decide)) (rfgw_cons (rfgw_name (by decide)) rfgw_nil))) rf_yes (rf_op2 ok_add (rfa_cons (rf_op2 ok_add (rfa_var (rfa_cons rf_str rfa_nil))) (rfa_cons (rf_call (rfa_cons rf_var rfa_nil)) rfa_nil))))) rfa_nil)) rfa_nil))) (rfa_cons rf_str rfa_nil))))))

theorem rf__law_tree [h0 : Hist] {K : PySem.W.Frag} {ps__law_take : PSp} {ps__law_tree : PSp} {ps__law_names : PSp} : RefS K false (t__law_tree K (spP K false ps__law_take) (spP K false ps__law_tree) (spP K true ps__law_names)) (p__law_tree ps__law_take ps__law_tree ps__law_names) := by
  unfold t__law_tree p__law_tree
  exact (rf_seq (rf_asg (rf_call (rfa_var (rfa_cons rf_int rfa_nil))) rfg_name)
    (rf_seq (rf_if (rf_or (rf_test (rf_op2 ok_eq (rfa_var (rfa_cons rf_int rfa_nil)))) (rf_test (rf_op2 ok_eq (rfa_var (rfa_cons rf_int rfa_nil))))) (rf_ret (rf_op2 ok_ix (rfa_cons (RefF.e (rf_lst (rfa_cons rf_str (rfa_cons rf_str (rfa_cons rf_str (rfa_cons rf_str (rfa_cons rf_str (rfa_cons rf_str rfa_nil)))))))) (rfa_cons (rf_call (rfa_var (rfa_cons rf_int rfa_nil))) rfa_nil)))) rf_next)
    (rf_seq (rf_asg (rf_op2 ok_add (rfa_cons rf_int (rfa_cons (rf_call (rfa_var (rfa_cons rf_int rfa_nil))) rfa_nil))) rfg_name)
    (rf_seq (rf_if (rf_test (rf_op2 ok_eq (rfa_var (rfa_cons rf_int rfa_nil)))) (rf_ret (RefF.e (rf_lst (rfa_cons rf_str (rfa_cons (RefF.e (rf_lc (rfi_rng1 rf_var) (rfgw_name (by decide)) rf_yes (rf_call (rfa_var (rfa_cons (rf_op2 ok_sub (rfa_var (rfa_cons rf_int rfa_nil))) rfa_nil))))) rfa_nil))))) rf_next)
    (rf_seq (rf_asg (rf_op2 ok_ix (rfa_cons (RefF.e (rf_lst (rfa_cons rf_var (rfa_cons rf_int rfa_nil)))) (rfa_cons (rf_cb ok_int1 (rfa_cons (rf_op2 ok_eq (rfa_cons (rf_call (rfa_var (rfa_cons rf_int rfa_nil))) (rfa_cons rf_int rfa_nil))) rfa_nil)) rfa_nil))) rfg_name)
    (rf_seq (rf_own (rf_callF (rfa_var (rfa_cons rf_var rfa_nil))))
    (rf_seq (rf_for (rfi_rng1 (rf_call (rfa_var (rfa_cons rf_int rfa_nil)))) rfg_name (rf_asg (rf_op2 ok_ix (rfa_var (rfa_cons (rf_call (rfa_var (rfa_cons rf_var rfa_nil))) rfa_nil))) (rfg_setL (rf_call (rfa_var (rfa_cons rf_var rfa_nil))))))
    (rf_ret (RefF.e (rf_lst (rfa_cons rf_str (rfa_cons (RefF.e (rf_lc (rfi_list rf_var) (rfgw_name (by decide)) rf_yes (rf_tup (rfa_cons rf_var (rfa_cons (rf_call (rfa_var (rfa_cons (rf_op2 ok_sub (rfa_var (rfa_cons rf_int rfa_nil))) rfa_nil))) rfa_nil))))) rfa_nil))))))))))))

theorem rf__law_names [h0 : Hist] {K : PySem.W.Frag} {ps__law_take : PSp} : RefS K true (t__law_names K (spP K false ps__law_take)) (p__law_names ps__law_take) := by
  unfold t__law_names p__law_names
  exact (rf_seq (rf_asg rf_str rfg_name)
    (rf_seq (rf_asg (rf_call (rfa_var (rfa_cons rf_int rfa_nil))) rfg_name)
    (rf_seq (rf_asg (rf_call (rfa_var (rfa_cons rf_int rfa_nil))) rfg_name)
    (rf_seq (rf_asg (rf_m1 ok_join rf_str (rfa_cons (RefF.e (rf_lc (rfi_rng1 rf_int) (rfgw_name (by decide)) rf_yes (rf_op2 ok_ix (rfa_var (rfa_cons (rf_call (rfa_var (rfa_cons rf_int rfa_nil))) rfa_nil))))) rfa_nil)) rfg_name)
    (rf_seq (rf_if (rf_test (rf_op2 ok_eq (rfa_var (rfa_cons rf_int rfa_nil)))) (rf_seq (rf_asg (RefF.e (rf_lst (rfa_cons rf_str (rfa_cons rf_str (rfa_cons rf_str (rfa_cons rf_str (rfa_cons rf_str (rfa_cons rf_str (rfa_cons rf_str (rfa_cons rf_str rfa_nil)))))))))) rfg_name)
    (rf_retF (rf_lc (rfi_rng1 rf_var) (rfgw_name (by decide)) rf_yes (rf_op2 ok_ix (rfa_var (rfa_cons (rf_op2 ok_mod (rfa_cons (rf_op2 ok_add (rfa_var (rfa_cons (rf_op2 ok_mul (rfa_cons rf_int (rfa_var rfa_nil))) rfa_nil))) (rfa_cons rf_int rfa_nil))) rfa_nil)))))) rf_next)
    (rf_seq (rf_if (rf_test (rf_op2 ok_eq (rfa_var (rfa_cons rf_int rfa_nil)))) (rf_retF (rf_lc (rfi_rng1 rf_var) (rfgw_name (by decide)) rf_yes (rf_sl (rf_op2 ok_add (rfa_cons (rf_op2 ok_ix (rfa_var (rfa_var rfa_nil))) (rfa_var rfa_nil))) rf_noPart (rf_part (rf_op2 ok_add (rfa_cons rf_int (rfa_cons (rf_op2 ok_mod (rfa_cons (rf_op2 ok_add (rfa_var (rfa_cons (rf_op2 ok_mul (rfa_cons rf_int (rfa_var rfa_nil))) rfa_nil))) (rfa_cons rf_int rfa_nil))) rfa_nil))))))) rf_next)
    (rf_retF (rf_lc (rfi_rng1 rf_var) (rfgw_name (by decide)) rf_yes (rf_op2 ok_add (rfa_cons (rf_op2 ok_ix (rfa_var (rfa_cons (rf_op2 ok_mod (rfa_cons (rf_op2 ok_add (rfa_var (rfa_cons (rf_op2 ok_mul (rfa_cons rf_int (rfa_var rfa_nil))) rfa_nil))) (rfa_cons rf_int rfa_nil))) rfa_nil))) (rfa_cons (rf_slV rf_noPart (rf_part (rf_call (rfa_var (rfa_cons rf_int rfa_nil))))) rfa_nil)))))))))))

theorem rf__law_take [h0 : Hist] {K : PySem.W.Frag}  : RefS K false (t__law_take K) (p__law_take) := by
  unfold t__law_take p__law_take
  exact (rf_seq (rf_asg (rf_op2 ok_add (rfa_cons (rf_op2 ok_ix (rfa_var (rfa_cons rf_int rfa_nil))) (rfa_cons rf_int rfa_nil))) (rfg_setL rf_int))
    (rf_seq (rf_if (rf_test (rf_op2 ok_gt (rfa_cons (rf_op2 ok_ix (rfa_var (rfa_cons rf_int rfa_nil))) (rfa_cons rf_int rfa_nil)))) (rf_seq (rf_asg (rf_op2 ok_mod (rfa_cons (rf_op2 ok_ix (rfa_var (rfa_cons rf_int rfa_nil))) (rfa_var rfa_nil))) rfg_name)
    (rf_seq (rf_asg (rf_op2 ok_div (rfa_cons (rf_op2 ok_ix (rfa_var (rfa_cons rf_int rfa_nil))) (rfa_var rfa_nil))) (rfg_setL rf_int))
    (rf_ret rf_var))) rf_next)
    (rf_seq (rf_asg (rf_op2 ok_mod (rfa_cons (rf_op2 ok_pow (rfa_cons (rf_op2 ok_add (rfa_cons (rf_op2 ok_add (rfa_cons (rf_op2 ok_ix (rfa_var (rfa_cons rf_int rfa_nil))) (rfa_cons (rf_op2 ok_mul (rfa_cons rf_int (rfa_cons (rf_op2 ok_ix (rfa_var (rfa_cons rf_int rfa_nil))) rfa_nil))) rfa_nil))) (rfa_cons rf_int rfa_nil))) (rfa_cons rf_int rfa_nil))) (rfa_cons rf_int rfa_nil))) rfg_name)
    (rf_seq (rf_asg (rf_op2 ok_mod (rfa_cons (rf_op2 ok_pow (rfa_cons (rf_op2 ok_add (rfa_cons (rf_op2 ok_add (rfa_cons (rf_op2 ok_mul (rfa_cons (rf_op2 ok_ix (rfa_var (rfa_cons rf_int rfa_nil))) (rfa_cons (rf_op2 ok_ix (rfa_var (rfa_cons rf_int rfa_nil))) rfa_nil))) (rfa_cons (rf_op2 ok_mul (rfa_cons rf_int (rfa_cons (rf_op2 ok_ix (rfa_var (rfa_cons rf_int rfa_nil))) rfa_nil))) rfa_nil))) (rfa_cons rf_int rfa_nil))) (rfa_cons rf_int rfa_nil))) (rfa_cons rf_int rfa_nil))) rfg_name)
    (rf_ret (rf_op2 ok_mod (rfa_cons (rf_op2 ok_div (rfa_cons (rf_op2 ok_add (rfa_cons (rf_op2 ok_mul (rfa_var (rfa_cons rf_int rfa_nil))) (rfa_var rfa_nil))) (rfa_cons rf_int rfa_nil))) (rfa_var rfa_nil))))))))

theorem rf__law_cell [h0 : Hist] {K : PySem.W.Frag}  : RefS K false (t__law_cell K) (p__law_cell) := by
  unfold t__law_cell p__law_cell
  exact (rf_seq (rf_if (rf_test (rf_op2 ok_lt (rfa_var (rfa_cons (rf_cb ok_len (rfa_var rfa_nil)) rfa_nil)))) (rf_ret (rf_op2 ok_ix (rfa_var (rfa_var rfa_nil)))) rf_next)
    (rf_ret (rf_op2 ok_add (rfa_cons (rf_op2 ok_mul (rfa_cons rf_int (rfa_var rfa_nil))) (rfa_cons rf_int rfa_nil)))))

theorem rf__law_box [h0 : Hist] {K : PySem.W.Frag}  : RefS K true (t__law_box K) (p__law_box) := by
  unfold t__law_box p__law_box
  exact (rf_retF (rf_lst (rfa_cons (rf_cb ok_max2 (rfa_cons rf_int (rfa_cons (rf_op2 ok_sub (rfa_var (rfa_cons (rf_op2 ok_pow (rfa_cons rf_int (rfa_cons rf_int rfa_nil))) rfa_nil))) rfa_nil))) (rfa_cons (rf_op2 ok_mod (rfa_var (rfa_cons rf_int rfa_nil))) (rfa_cons rf_int rfa_nil)))))
end Pu

namespace Pu
open PySem PySem.Spec PyProof.Rows L2 He Hk
structure Txt (K : PySem.W.Frag) (mg : Str → Option Value) : Prop where
  sm : ∃ o, K.lookup sysModules = some o
  b_range : mg "range" = none
  b_max : mg "max" = none
  b_min : mg "min" = none
  b_len : mg "len" = none
  b_repr : mg "repr" = none
  b_isinstance : mg "isinstance" = none
  b_str : mg "str" = none
  b_int : mg "int" = none
  b_ord : mg "ord" = none
  b_bool : mg "bool" = none
  b_list : mg "list" = none
  b_dict : mg "dict" = none
  g_FIGURES : ∃ t, mg "FIGURES" = some (.str "0123456789" t)
  g_MOST_FIGURES : ∃ t, mg "MOST_FIGURES" = some (.int 18 t)
  g_MOST_DEEP : ∃ t, mg "MOST_DEEP" = some (.int 4 t)
  g_MOST_NAMES : ∃ t, mg "MOST_NAMES" = some (.int 8 t)
  g_LETTERS : ∃ t, mg "LETTERS" = some (.str "abcdefghijklmnopqrstuvwxyz" t)
  g_MOST_LETTERS : ∃ t, mg "MOST_LETTERS" = some (.int 8 t)
  g_MOST_IN_ROW : ∃ t, mg "MOST_IN_ROW" = some (.int 6 t)
  g_MOST_SIGNS : ∃ t, mg "MOST_SIGNS" = some (.int 40 t)
  g_NoText : mg "NoText" = some (.ref (ga K "NoText"))
  g_BadText : mg "BadText" = some (.ref (ga K "BadText"))
  g_Doubled : mg "Doubled" = some (.ref (ga K "Doubled"))
  g_HeapError : mg "HeapError" = some (.ref (ga K "HeapError"))
  g_Reader : mg "Reader" = some (.ref (ga K "Reader"))
  x_NoText : ErrC K (ga K "NoText") (fAd K ("NoText", some "__init__")) "found"
  x_BadText : ErrC K (ga K "BadText") (fAd K ("BadText", some "__init__")) "place"
  x_Doubled : ErrC K (ga K "Doubled") (fAd K ("Doubled", some "__init__")) "name"
  bas : BasC K (ga K "HeapError")
section
variable {P : Program} {w : World} {K : PySem.W.Frag} {mg : Str → Option Value} {base : Heap}
theorem sc_law : FnScope ["_law_script", "_law_k", "_law_box_here", "_law_way", "_law_more", "_law_tree_here", "_law_text", "_law_twice_here", "_law_cut", "_law_thing"] ["_law_script"] (defScope s_law) := ⟨rfl, rfl, rfl, by decide +kernel, rfl, by decide +kernel, by decide +kernel⟩
theorem dv_law {lv : Nat} (T : Txt K mg) {sp__law_box : L2.Sp} {sp__law_cell : L2.Sp} {sp__law_take : L2.Sp} {sp__law_tree : L2.Sp} {sp__law_written : L2.Sp} {sp__law_twice : L2.Sp} {sp__law_right : L2.Sp} {sp__law_asked : L2.Sp} (F__law_box : FOG P w K mg base CX0 lv "_law_box" ["_law_cell_here"] sp__law_box) (F__law_cell : FOG P w K mg base CX0 lv "_law_cell" ["_law_script", "_law_k"] sp__law_cell) (F__law_take : FOG P w K mg base CX0 lv "_law_take" ["_law_box_here", "_law_many"] sp__law_take) (F__law_tree : FOG P w K mg base CX0 lv "_law_tree" ["_law_box_here", "_law_left"] sp__law_tree) (F__law_written : FOG P w K mg base CX0 lv "_law_written" ["_law_tree_here"] sp__law_written) (F__law_twice : FOG P w K mg base CX0 lv "_law_twice" ["_law_tree_here"] sp__law_twice) (F__law_right : FOG P w K mg base CX0 lv "_law_right" ["_law_text", "_law_twice_here"] sp__law_right) (F__law_asked : FOG P w K mg base CX0 lv "_law_asked" ["_law_text"] sp__law_asked) {cdv : Value} {A : Around} {outer : List PySem.Env} {s : Shared} {H : Hp} {E : XK} {f : Addr} (hr : RoomG lv (A.deeper (envOfC "law" (defScope s_law) s.heap.objs.size f cdv))) :
    PSs (cxOf CX0 P w K mg base ["_law_script", "_law_k", "_law_box_here", "_law_way", "_law_more", "_law_tree_here", "_law_text", "_law_twice_here", "_law_cut", "_law_thing"] "law" (defScope s_law) f cdv A outer s H E).nox (defBody s_law) (t_law K sp__law_box sp__law_cell sp__law_take sp__law_tree sp__law_written sp__law_twice sp__law_right sp__law_asked) := by
  have hu := hr.units
  have nd := sc_law.nd
  exact (pss_cons (ps_for PassesOwn.never rfl (pi_range1 rfl T.b_range (pa_cons (pe_callB (call_max2 rfl) (by rfl) T.b_max (by decide +kernel) (pa_cons pe_int (pa_cons (pe_callB (call_min2 rfl) (by rfl) T.b_min (by decide +kernel) (pa_cons pe_int (pa_cons (pe_callB call_lenX (by rfl) T.b_len (by decide +kernel) (pa_cons (pv 0) pa_nil)) pa_nil))) pa_nil))) pa_nil)) (pg_name (i := 1) nd rfl (by first | exact Or.inl rfl | exact Or.inr rfl)) (pss_cons (ps_set (i := 2) nd rfl (by first | exact Or.inl rfl | exact Or.inr rfl) (pe_callG F__law_box hr (by rfl) pass0 (pa_cons (pe_callG F__law_cell hr (by rfl) pass0 (pa_cons (pv 0) (pa_cons (pv 1) pa_nil))) pa_nil)))
      (pss_cons (ps_set (i := 3) nd rfl (by first | exact Or.inl rfl | exact Or.inr rfl) (pe_callG F__law_take hr (by rfl) pass0 (pa_cons (pv 2) (pa_cons pe_int pa_nil))))
      (pss_cons (ps_set (i := 4) nd rfl (by first | exact Or.inl rfl | exact Or.inr rfl) (pe_ix (ixAny hu) (pe_lst (pa_cons pe_str (pa_cons pe_str (pa_cons pe_str (pa_cons pe_str (pa_cons pe_str pa_nil)))))) (pe_callG F__law_take hr (by rfl) pass0 (pa_cons (pv 2) (pa_cons pe_int pa_nil))) (fun _ _ => rfl)))
      (pss_cons (ps_set (i := 5) nd rfl (by first | exact Or.inl rfl | exact Or.inr rfl) (pe_lst (pa_cons pe_str (pa_cons (pe_lst (pa_cons (pe_callG F__law_tree hr (by rfl) pass0 (pa_cons (pv 2) (pa_cons pe_int pa_nil))) (pa_cons (pe_callG F__law_tree hr (by rfl) pass0 (pa_cons (pv 2) (pa_cons pe_int pa_nil))) pa_nil))) pa_nil))))
      (pss_cons (ps_set (i := 6) nd rfl (by first | exact Or.inl rfl | exact Or.inr rfl) (pe_callG F__law_written hr (by rfl) pass0 (pa_cons (pv 5) pa_nil)))
      (pss_cons (ps_set (i := 7) nd rfl (by first | exact Or.inl rfl | exact Or.inr rfl) (pe_callG F__law_twice hr (by rfl) pass0 (pa_cons (pv 5) pa_nil)))
      (pss_cons (ps_set (i := 8) nd rfl (by first | exact Or.inl rfl | exact Or.inr rfl) (pe_op Hk.oAdd pe_int (pe_callG F__law_take hr (by rfl) pass0 (pa_cons (pv 2) (pa_cons (pe_op op_sub (pe_callB call_lenX (by rfl) T.b_len (by decide +kernel) (pa_cons (pv 6) pa_nil)) pe_int) pa_nil)))))
      (pss_cons (ps_if (pt_not (pt_val (pe_callG F__law_right hr (by rfl) pass0 (pa_cons (pv 6) (pa_cons (pv 7) pa_nil))))) (pss_one (ps_ret pe_bl)) pss_nil)
      (pss_cons (ps_if (PW.pt (pw_or (pt_cmpR (oNeY hu) (pe_callG F__law_asked hr (by rfl) pass0 (pa_cons (pe_op Hk.oAdd (pv 6) (pv 4)) pa_nil)) (pe_tup (pa_cons pe_str (pa_cons (pe_callB call_lenX (by rfl) T.b_len (by decide +kernel) (pa_cons (pv 6) pa_nil)) pa_nil))) (nomark _)) (pw_or1 (pt_cmpR (oNeY hu) (pe_callG F__law_asked hr (by rfl) pass0 (pa_cons (pe_slice slAny (pv 6) po_none (po_some (pv 8))) pa_nil)) (pe_tup (pa_cons pe_str (pa_cons (pv 8) pa_nil))) (nomark _))))) (pss_one (ps_ret pe_bl)) pss_nil)
      (pss_cons (ps_set (i := 9) nd rfl (by first | exact Or.inl rfl | exact Or.inr rfl) (pe_ix (ixAny hu) (pe_lst (pa_cons pe_non (pa_cons pe_int (pa_cons pe_bl (pa_cons (pe_lst pa_nil) (pa_cons pe_dnewK (pa_cons (pe_tup (pa_cons pe_str pa_nil)) (pa_cons (pe_lst (pa_cons (pv 6) pa_nil)) (pa_cons (pe_disp (pps_cons pe_str (pv 6) pps_nil) (by rfl) (by rfl) (fun z => by cases z) (by decide)) pa_nil))))))))) (pv 3) (fun _ _ => rfl)))
      (pss_one (ps_if (PW.pt (pw_or (pt_cmpR (oNeY hu) (pe_callB (call_reprP hr T.sm.choose_spec) (by rfl) T.b_repr (by decide +kernel) (pa_cons (pe_callG F__law_asked hr (by rfl) pass0 (pa_cons (pv 9) pa_nil)) pa_nil)) (pe_callB (call_reprP hr T.sm.choose_spec) (by rfl) T.b_repr (by decide +kernel) (pa_cons (pe_tup (pa_cons pe_str (pa_cons (pv 9) pa_nil))) pa_nil)) (nomark _)) (pw_or1 (pt_not (pt_val (pe_callG F__law_right hr (by rfl) pass0 (pa_cons (pv 6) (pa_cons (pv 7) pa_nil)))))))) (pss_one (ps_ret pe_bl)) pss_nil)))))))))))))
      (pss_one (ps_ret (pe_and (pe_cmpR (oEqY hu) (pe_callG F__law_asked hr (by rfl) pass0 (pa_cons pe_str pa_nil)) (pe_tup (pa_cons pe_str (pa_cons pe_str pa_nil))) (nomark _)) (pe_one (pe_cmpR (oEqY hu) (pe_callG F__law_asked hr (by rfl) pass0 (pa_cons pe_str pa_nil)) (pe_tup (pa_cons pe_str (pa_cons pe_int pa_nil))) (nomark _)))))))

theorem sc__law_asked : FnScope ["_law_text", "_law_told", "e"] ["_law_text"] (defScope s__law_asked) := ⟨rfl, rfl, rfl, by decide +kernel, rfl, by decide +kernel, by decide +kernel⟩
theorem dv__law_asked {lv : Nat} (T : Txt K mg) {sp_read_worth : L2.Sp} (F_read_worth : FOG P w K mg base (L2.CX P w) lv "read_worth" ["text"] sp_read_worth) {cdv : Value} {A : Around} {outer : List PySem.Env} {s : Shared} {H : Hp} {E : XK} {f : Addr} (hr : RoomG lv (A.deeper (envOfC "_law_asked" (defScope s__law_asked) s.heap.objs.size f cdv))) :
    PSs (cxOf CX0 P w K mg base ["_law_text", "_law_told", "e"] "_law_asked" (defScope s__law_asked) f cdv A outer s H E).nox (defBody s__law_asked) (t__law_asked K sp_read_worth) := by
  have hu := hr.units
  have nd := sc__law_asked.nd
  exact (pss_cons (ps_set (i := 1) nd rfl (by first | exact Or.inl rfl | exact Or.inr rfl) (pe_tup (pa_cons pe_str (pa_cons pe_non pa_nil))))
      (pss_cons (ps_tryG rfl rfl nd takes0 (fun W pn xe tk po => (pss_one (ps_set (i := 1) nd rfl (by first | exact Or.inl rfl | exact Or.inr rfl) (pe_tup (pa_cons pe_str (pa_cons (pe_callGS F_read_worth hr (by rfl) (passAt tk) (pa_cons (pv 0) pa_nil)) pa_nil)))))) (HdsG.named (i := 2) rfl rfl ⟨by rfl, rfl, .inl T.g_NoText⟩ (fun a oe cls d pn hz hf => (pss_one (ps_set (i := 1) nd rfl (by first | exact Or.inl rfl | exact Or.inr rfl) (pe_tup (pa_cons pe_str (pa_cons (pe_xf T.x_NoText.xf T.x_NoText.no hz hf (pv 2)) pa_nil)))))) (HdsG.named (i := 2) rfl rfl ⟨by rfl, rfl, .inl T.g_BadText⟩ (fun a oe cls d pn hz hf => (pss_one (ps_set (i := 1) nd rfl (by first | exact Or.inl rfl | exact Or.inr rfl) (pe_tup (pa_cons pe_str (pa_cons (pe_xf T.x_BadText.xf T.x_BadText.no hz hf (pv 2)) pa_nil)))))) (HdsG.named (i := 2) rfl rfl ⟨by rfl, rfl, .inl T.g_Doubled⟩ (fun a oe cls d pn hz hf => (pss_one (ps_set (i := 1) nd rfl (by first | exact Or.inl rfl | exact Or.inr rfl) (pe_tup (pa_cons pe_str (pa_cons (pe_xf T.x_Doubled.xf T.x_Doubled.no hz hf (pv 2)) pa_nil)))))) (HdsG.only ⟨by rfl, rfl, .inl T.g_HeapError⟩ (fun a oe cls d pn hz hf => (pss_one (ps_set (i := 1) nd rfl (by first | exact Or.inl rfl | exact Or.inr rfl) (pe_tup (pa_cons pe_str (pa_cons pe_non pa_nil)))))) HdsG.nil)))))
      (pss_one (ps_ret (pv 1)))))

theorem sc_read_worth : FnScope ["text", "reader", "found"] ["text"] (defScope s_read_worth) := ⟨rfl, rfl, rfl, by decide +kernel, rfl, by decide +kernel, by decide +kernel⟩
theorem dv_read_worth {lv : Nat} (T : Txt K mg) {sp_Reader____init__ : L2.Sp} {sp_Reader__read_any : L2.Sp} {lc_Reader : Nat} (C_Reader : COG P w K mg base CX0 lc_Reader "Reader" sp_Reader____init__) (hc_Reader : lc_Reader + 1 ≤ lv) (M_read_any_Reader : MOG P w K mg base (L2.CX P w) lv "read_any" [(ga K "Reader", sp_Reader__read_any)]) (E_NoText : ErrG P w K mg base 1 "NoText" "found") (E_BadText : ErrG P w K mg base 1 "BadText" "place") (E_Doubled : ErrG P w K mg base 1 "Doubled" "name") {cdv : Value} {A : Around} {outer : List PySem.Env} {s : Shared} {H : Hp} {E : XK} {f : Addr} (hr : RoomG lv (A.deeper (envOfC "read_worth" (defScope s_read_worth) s.heap.objs.size f cdv))) (hlv : 2 ≤ lv) :
    PSs (cxOf (L2.CX P w) P w K mg base ["text", "reader", "found"] "read_worth" (defScope s_read_worth) f cdv A outer s H E) (defBody s_read_worth) (t_read_worth K (fun cls d _ H' => E cls d H') sp_Reader____init__ sp_Reader__read_any) := by
  have hu := hr.units
  have nd := sc_read_worth.nd
  have tk : Takes (cxOf (L2.CX P w) P w K mg base ["text", "reader", "found"] "read_worth" (defScope s_read_worth) f cdv A outer s H E) (fun cls d _ H' => E cls d H') := takes_of rfl rfl rfl rfl
  exact (pss_cons (ps_if (pt_not (pt_val (pe_callB call_isi (by rfl) T.b_isinstance (by decide +kernel) (pa_cons (pv 0) (pa_cons (pe_bltn (v := .ty "str") rfl T.b_str (by decide +kernel) rfl) pa_nil))))) (pss_one (ps_raise rfl tk (pmk1 E_NoText (hr.mono hlv) (by rfl) (pa_cons (pv 0) pa_nil)))) pss_nil)
      (pss_cons (ps_set (i := 1) nd rfl (by first | exact Or.inl rfl | exact Or.inr rfl) (pe_makeS C_Reader (hr.mono hc_Reader) (by rfl) (fun _ => pass0At) (pa_cons (pv 0) pa_nil)))
      (pss_cons (ps_set (i := 2) nd rfl (by first | exact Or.inl rfl | exact Or.inr rfl) (pe_methS (pv 1) M_read_any_Reader hr (passAt tk) (pa_cons pe_int pa_nil)))
      (pss_cons (ps_if (pt_cmpR Hk.oLt (pe_fld (pv 1) rfl) (pe_callB call_lenX (by rfl) T.b_len (by decide +kernel) (pa_cons (pv 0) pa_nil)) (nomark _)) (pss_one (ps_raise rfl tk (pmk1 E_BadText (hr.mono hlv) (by rfl) (pa_cons (pe_fld (pv 1) rfl) pa_nil)))) pss_nil)
      (pss_cons (ps_if (pt_cmpR op_notN (pe_fld (pv 1) rfl) pe_non (nomark _)) (pss_one (ps_raise rfl tk (pmk1 E_Doubled (hr.mono hlv) (by rfl) (pa_cons (pe_fld (pv 1) rfl) pa_nil)))) pss_nil)
      (pss_one (ps_ret (pv 2))))))))

theorem sc_Reader__read_any : FnScope ["self", "level", "sign"] ["self", "level"] (defScope s_Reader__read_any) := ⟨rfl, rfl, rfl, by decide +kernel, rfl, by decide +kernel, by decide +kernel⟩
theorem dv_Reader__read_any {lv : Nat} (T : Txt K mg) {sp_Reader__ahead : L2.Sp} {sp_Reader__read_quoted : L2.Sp} {sp_Reader__read_row : L2.Sp} {sp_Reader__read_fields : L2.Sp} {sp_Reader__take_all : L2.Sp} {sp_Reader__read_number : L2.Sp} (M_ahead_Reader : MOG P w K mg base CX0 lv "ahead" [(ga K "Reader", sp_Reader__ahead)]) (M_read_quoted_Reader : MOG P w K mg base (L2.CX P w) lv "read_quoted" [(ga K "Reader", sp_Reader__read_quoted)]) (M_read_row_Reader : MOG P w K mg base (L2.CX P w) lv "read_row" [(ga K "Reader", sp_Reader__read_row)]) (M_read_fields_Reader : MOG P w K mg base (L2.CX P w) lv "read_fields" [(ga K "Reader", sp_Reader__read_fields)]) (M_take_all_Reader : MOG P w K mg base (L2.CX P w) lv "take_all" [(ga K "Reader", sp_Reader__take_all)]) (M_read_number_Reader : MOG P w K mg base (L2.CX P w) lv "read_number" [(ga K "Reader", sp_Reader__read_number)]) {cdv : Value} {A : Around} {outer : List PySem.Env} {s : Shared} {H : Hp} {E : XK} {f : Addr} (hr : RoomG lv (A.deeper (envOfC "Reader.read_any" (defScope s_Reader__read_any) s.heap.objs.size f cdv))) :
    PSs (cxOf (L2.CX P w) P w K mg base ["self", "level", "sign"] "Reader.read_any" (defScope s_Reader__read_any) f cdv A outer s H E) (defBody s_Reader__read_any) (t_Reader__read_any K (fun cls d _ H' => E cls d H') sp_Reader__ahead sp_Reader__read_quoted sp_Reader__read_row sp_Reader__read_fields sp_Reader__take_all sp_Reader__read_number) := by
  have hu := hr.units
  have nd := sc_Reader__read_any.nd
  have tk : Takes (cxOf (L2.CX P w) P w K mg base ["self", "level", "sign"] "Reader.read_any" (defScope s_Reader__read_any) f cdv A outer s H E) (fun cls d _ H' => E cls d H') := takes_of rfl rfl rfl rfl
  exact (pss_cons (ps_set (i := 2) nd rfl (by first | exact Or.inl rfl | exact Or.inr rfl) (pe_methS0 (pv 0) M_ahead_Reader hr (fun _ => pass0At)))
      (pss_cons (ps_if (pt_cmpR (oEqY hu) (pv 2) pe_str (nomark _)) (pss_one (ps_ret (pe_methS0 (pv 0) M_read_quoted_Reader hr (passAt tk)))) pss_nil)
      (pss_cons (ps_if (pt_cmpR (oEqY hu) (pv 2) pe_str (nomark _)) (pss_one (ps_ret (pe_methS (pv 0) M_read_row_Reader hr (passAt tk) (pa_cons (pv 1) pa_nil)))) pss_nil)
      (pss_cons (ps_if (pt_cmpR (oEqY hu) (pv 2) pe_str (nomark _)) (pss_one (ps_ret (pe_methS (pv 0) M_read_fields_Reader hr (passAt tk) (pa_cons (pv 1) pa_nil)))) pss_nil)
      (pss_cons (ps_if (pt_cmpR (oEqY hu) (pv 2) pe_str (nomark _)) (pss_cons (ps_expr (pe_methS (pv 0) M_take_all_Reader hr (passAt tk) (pa_cons pe_str pa_nil)))
      (pss_one (ps_ret pe_bl))) pss_nil)
      (pss_cons (ps_if (pt_cmpR (oEqY hu) (pv 2) pe_str (nomark _)) (pss_cons (ps_expr (pe_methS (pv 0) M_take_all_Reader hr (passAt tk) (pa_cons pe_str pa_nil)))
      (pss_cons (ps_if (pt_cmpR (oNeY hu) (pe_methS0 (pv 0) M_ahead_Reader hr (fun _ => pass0At)) pe_str (nomark _)) (pss_one (ps_ret pe_bl)) pss_nil)
      (pss_cons (ps_expr (pe_methS (pv 0) M_take_all_Reader hr (passAt tk) (pa_cons pe_str pa_nil)))
      (pss_one (ps_ret pe_non))))) pss_nil)
      (pss_one (ps_ret (pe_methS0 (pv 0) M_read_number_Reader hr (passAt tk))))))))))

theorem sc_Reader__read_number : FnScope ["self", "below", "figures"] ["self"] (defScope s_Reader__read_number) := ⟨rfl, rfl, rfl, by decide +kernel, rfl, by decide +kernel, by decide +kernel⟩
theorem dv_Reader__read_number {lv : Nat} (T : Txt K mg) {sp_Reader__ahead : L2.Sp} {sp_Reader__take : L2.Sp} (M_ahead_Reader : MOG P w K mg base CX0 lv "ahead" [(ga K "Reader", sp_Reader__ahead)]) (M_take_Reader : MOG P w K mg base (L2.CX P w) lv "take" [(ga K "Reader", sp_Reader__take)]) {cdv : Value} {A : Around} {outer : List PySem.Env} {s : Shared} {H : Hp} {E : XK} {f : Addr} (hr : RoomG lv (A.deeper (envOfC "Reader.read_number" (defScope s_Reader__read_number) s.heap.objs.size f cdv))) :
    PSs (cxOf (L2.CX P w) P w K mg base ["self", "below", "figures"] "Reader.read_number" (defScope s_Reader__read_number) f cdv A outer s H E) (defBody s_Reader__read_number) (t_Reader__read_number K (fun cls d _ H' => E cls d H') sp_Reader__ahead sp_Reader__take) := by
  have hu := hr.units
  have nd := sc_Reader__read_number.nd
  have tk : Takes (cxOf (L2.CX P w) P w K mg base ["self", "below", "figures"] "Reader.read_number" (defScope s_Reader__read_number) f cdv A outer s H E) (fun cls d _ H' => E cls d H') := takes_of rfl rfl rfl rfl
  exact (pss_cons (ps_set (i := 1) nd rfl (by first | exact Or.inl rfl | exact Or.inr rfl) (pe_cmpR (oEqY hu) (pe_methS0 (pv 0) M_ahead_Reader hr (fun _ => pass0At)) pe_str (nomark _)))
      (pss_cons (ps_if (pt_val (pv 1)) (pss_one (ps_expr (pe_methS (pv 0) M_take_Reader hr (passAt tk) (pa_cons pe_str pa_nil)))) pss_nil)
      (pss_cons (ps_if (PW.pt (pw_and (pt_cmpR (oEqY hu) (pe_methS0 (pv 0) M_ahead_Reader hr (fun _ => pass0At)) pe_str (nomark _)) (pw_and1 (pt_not (pt_val (pv 1)))))) (pss_cons (ps_expr (pe_methS (pv 0) M_take_Reader hr (passAt tk) (pa_cons pe_str pa_nil)))
      (pss_one (ps_ret pe_int))) pss_nil)
      (pss_cons (ps_set (i := 2) nd rfl (by first | exact Or.inl rfl | exact Or.inr rfl) (pe_methS (pv 0) M_take_Reader hr (passAt tk) (pa_cons (pe_slice slAny (pe_glob rfl T.g_FIGURES.choose_spec ⟨_, rfl⟩) (po_some pe_int) po_none) pa_nil)))
      (pss_cons (ps_while (passes_of rfl) (PW.pt (pw_and (pt_cmpR (oNeY hu) (pe_methS0 (pv 0) M_ahead_Reader hr (fun _ => pass0At)) pe_str (nomark _)) (pw_and (pt_cmpR (Hk.oIn hu) (pe_methS0 (pv 0) M_ahead_Reader hr (fun _ => pass0At)) (pe_glob rfl T.g_FIGURES.choose_spec ⟨_, rfl⟩) (by rfl)) (pw_and1 (pt_cmpR Hk.oLt (pe_callB call_lenX (by rfl) T.b_len (by decide +kernel) (pa_cons (pv 2) pa_nil)) (pe_glob rfl T.g_MOST_FIGURES.choose_spec ⟨_, rfl⟩) (nomark _)))))) (pss_one (ps_set (i := 2) nd rfl (by first | exact Or.inl rfl | exact Or.inr rfl) (pe_op Hk.oAdd (pv 2) (pe_methS (pv 0) M_take_Reader hr (passAt tk) (pa_cons (pe_glob rfl T.g_FIGURES.choose_spec ⟨_, rfl⟩) pa_nil))))))
      (pss_one (ps_ret (pe_ifExp (pt_val (pv 1)) (pe_op op_sub pe_int (pe_callTy cr_intT (by rfl) T.b_int (by decide +kernel) (pa_cons (pv 2) pa_nil))) (pe_callTy cr_intT (by rfl) T.b_int (by decide +kernel) (pa_cons (pv 2) pa_nil))))))))))

theorem sc_Reader__take : FnScope ["self", "some", "sign"] ["self", "some"] (defScope s_Reader__take) := ⟨rfl, rfl, rfl, by decide +kernel, rfl, by decide +kernel, by decide +kernel⟩
theorem dv_Reader__take {lv : Nat} (T : Txt K mg) {sp_Reader__ahead : L2.Sp} (M_ahead_Reader : MOG P w K mg base CX0 lv "ahead" [(ga K "Reader", sp_Reader__ahead)]) (E_BadText : ErrG P w K mg base 1 "BadText" "place") {cdv : Value} {A : Around} {outer : List PySem.Env} {s : Shared} {H : Hp} {E : XK} {f : Addr} (hr : RoomG lv (A.deeper (envOfC "Reader.take" (defScope s_Reader__take) s.heap.objs.size f cdv))) (hlv : 2 ≤ lv) :
    PSs (cxOf (L2.CX P w) P w K mg base ["self", "some", "sign"] "Reader.take" (defScope s_Reader__take) f cdv A outer s H E) (defBody s_Reader__take) (t_Reader__take K (fun cls d _ H' => E cls d H') sp_Reader__ahead) := by
  have hu := hr.units
  have nd := sc_Reader__take.nd
  have tk : Takes (cxOf (L2.CX P w) P w K mg base ["self", "some", "sign"] "Reader.take" (defScope s_Reader__take) f cdv A outer s H E) (fun cls d _ H' => E cls d H') := takes_of rfl rfl rfl rfl
  exact (pss_cons (ps_set (i := 2) nd rfl (by first | exact Or.inl rfl | exact Or.inr rfl) (pe_methS0 (pv 0) M_ahead_Reader hr (fun _ => pass0At)))
      (pss_cons (ps_if (PW.pt (pw_or (pt_cmpR (oEqY hu) (pv 2) pe_str (nomark _)) (pw_or1 (pt_cmpR (Hk.oNotIn hu) (pv 2) (pv 1) (by rfl))))) (pss_one (ps_raise rfl tk (pmk1 E_BadText (hr.mono hlv) (by rfl) (pa_cons (pe_fld (pv 0) rfl) pa_nil)))) pss_nil)
      (pss_cons (ps_fld (pv 0) (pe_op Hk.oAdd (pe_fld (pv 0) rfl) pe_int) rfl)
      (pss_one (ps_ret (pv 2))))))

theorem sc_Reader__ahead : FnScope ["self"] ["self"] (defScope s_Reader__ahead) := ⟨rfl, rfl, rfl, by decide +kernel, rfl, by decide +kernel, by decide +kernel⟩
theorem dv_Reader__ahead {lv : Nat} (T : Txt K mg) {cdv : Value} {A : Around} {outer : List PySem.Env} {s : Shared} {H : Hp} {E : XK} {f : Addr} (hr : RoomG lv (A.deeper (envOfC "Reader.ahead" (defScope s_Reader__ahead) s.heap.objs.size f cdv))) :
    PSs (cxOf CX0 P w K mg base ["self"] "Reader.ahead" (defScope s_Reader__ahead) f cdv A outer s H E).nox (defBody s_Reader__ahead) (t_Reader__ahead K) := by
  have hu := hr.units
  have nd := sc_Reader__ahead.nd
  exact (pss_one (ps_ret (pe_slice slAny (pe_fld (pv 0) rfl) (po_some (pe_fld (pv 0) rfl)) (po_some (pe_op Hk.oAdd (pe_fld (pv 0) rfl) pe_int)))))

theorem sc_Reader__take_all : FnScope ["self", "text", "sign"] ["self", "text"] (defScope s_Reader__take_all) := ⟨rfl, rfl, rfl, by decide +kernel, rfl, by decide +kernel, by decide +kernel⟩
theorem dv_Reader__take_all {lv : Nat} (T : Txt K mg) {sp_Reader__take : L2.Sp} (M_take_Reader : MOG P w K mg base (L2.CX P w) lv "take" [(ga K "Reader", sp_Reader__take)]) {cdv : Value} {A : Around} {outer : List PySem.Env} {s : Shared} {H : Hp} {E : XK} {f : Addr} (hr : RoomG lv (A.deeper (envOfC "Reader.take_all" (defScope s_Reader__take_all) s.heap.objs.size f cdv))) :
    PSs (cxOf (L2.CX P w) P w K mg base ["self", "text", "sign"] "Reader.take_all" (defScope s_Reader__take_all) f cdv A outer s H E) (defBody s_Reader__take_all) (t_Reader__take_all K (fun cls d _ H' => E cls d H') sp_Reader__take) := by
  have hu := hr.units
  have nd := sc_Reader__take_all.nd
  have tk : Takes (cxOf (L2.CX P w) P w K mg base ["self", "text", "sign"] "Reader.take_all" (defScope s_Reader__take_all) f cdv A outer s H E) (fun cls d _ H' => E cls d H') := takes_of rfl rfl rfl rfl
  exact (pss_one (ps_for (passes_of rfl) rfl (pi_str (pv 1)) (pg_name (i := 2) nd rfl (by first | exact Or.inl rfl | exact Or.inr rfl)) (pss_one (ps_expr (pe_methS (pv 0) M_take_Reader hr (passAt tk) (pa_cons (pv 2) pa_nil))))))

theorem sc_Reader__read_fields : FnScope ["self", "level", "found", "turn"] ["self", "level"] (defScope s_Reader__read_fields) := ⟨rfl, rfl, rfl, by decide +kernel, rfl, by decide +kernel, by decide +kernel⟩
theorem dv_Reader__read_fields {lv : Nat} (T : Txt K mg) {sp_Reader__take : L2.Sp} {sp_Reader__ahead : L2.Sp} {sp_Reader__read_field : L2.Sp} {sp_Reader__take_all : L2.Sp} (M_take_Reader : MOG P w K mg base (L2.CX P w) lv "take" [(ga K "Reader", sp_Reader__take)]) (M_ahead_Reader : MOG P w K mg base CX0 lv "ahead" [(ga K "Reader", sp_Reader__ahead)]) (M_read_field_Reader : MOG P w K mg base (L2.CX P w) lv "read_field" [(ga K "Reader", sp_Reader__read_field)]) (M_take_all_Reader : MOG P w K mg base (L2.CX P w) lv "take_all" [(ga K "Reader", sp_Reader__take_all)]) {cdv : Value} {A : Around} {outer : List PySem.Env} {s : Shared} {H : Hp} {E : XK} {f : Addr} (hr : RoomG lv (A.deeper (envOfC "Reader.read_fields" (defScope s_Reader__read_fields) s.heap.objs.size f cdv))) :
    PSs (cxOf (L2.CX P w) P w K mg base ["self", "level", "found", "turn"] "Reader.read_fields" (defScope s_Reader__read_fields) f cdv A outer s H E) (defBody s_Reader__read_fields) (t_Reader__read_fields K (fun cls d _ H' => E cls d H') sp_Reader__take sp_Reader__ahead sp_Reader__read_field sp_Reader__take_all) := by
  have hu := hr.units
  have nd := sc_Reader__read_fields.nd
  have tk : Takes (cxOf (L2.CX P w) P w K mg base ["self", "level", "found", "turn"] "Reader.read_fields" (defScope s_Reader__read_fields) f cdv A outer s H E) (fun cls d _ H' => E cls d H') := takes_of rfl rfl rfl rfl
  exact (pss_cons (ps_expr (pe_methS (pv 0) M_take_Reader hr (passAt tk) (pa_cons pe_str pa_nil)))
      (pss_cons (ps_set (i := 2) nd rfl (by first | exact Or.inl rfl | exact Or.inr rfl) pe_dnewK)
      (pss_cons (ps_if (PW.pt (pw_and (pt_cmpR Hk.oLt (pv 1) (pe_glob rfl T.g_MOST_DEEP.choose_spec ⟨_, rfl⟩) (nomark _)) (pw_and1 (pt_cmpR (oNeY hu) (pe_methS0 (pv 0) M_ahead_Reader hr (fun _ => pass0At)) pe_str (nomark _))))) (pss_cons (ps_expr (pe_methS (pv 0) M_read_field_Reader hr (passAt tk) (pa_cons (pv 2) (pa_cons (pv 1) pa_nil))))
      (pss_one (ps_for (passes_of rfl) rfl (pi_range1 rfl T.b_range (pa_cons (pe_op op_sub (pe_glob rfl T.g_MOST_NAMES.choose_spec ⟨_, rfl⟩) pe_int) pa_nil)) (pg_name (i := 3) nd rfl (by first | exact Or.inl rfl | exact Or.inr rfl)) (pss_one (ps_if (pt_cmpR (oEqY hu) (pe_methS0 (pv 0) M_ahead_Reader hr (fun _ => pass0At)) pe_str (nomark _)) (pss_cons (ps_expr (pe_methS (pv 0) M_take_all_Reader hr (passAt tk) (pa_cons pe_str pa_nil)))
      (pss_one (ps_expr (pe_methS (pv 0) M_read_field_Reader hr (passAt tk) (pa_cons (pv 2) (pa_cons (pv 1) pa_nil)))))) pss_nil))))) pss_nil)
      (pss_cons (ps_expr (pe_methS (pv 0) M_take_Reader hr (passAt tk) (pa_cons pe_str pa_nil)))
      (pss_one (ps_ret (pv 2)))))))

theorem sc_Reader__read_field : FnScope ["self", "found", "level", "name"] ["self", "found", "level"] (defScope s_Reader__read_field) := ⟨rfl, rfl, rfl, by decide +kernel, rfl, by decide +kernel, by decide +kernel⟩
theorem dv_Reader__read_field {lv : Nat} (T : Txt K mg) {sp_Reader__take : L2.Sp} {sp_Reader__ahead : L2.Sp} {sp_Reader__take_all : L2.Sp} {sp_Reader__read_any : L2.Sp} (M_take_Reader : MOG P w K mg base (L2.CX P w) lv "take" [(ga K "Reader", sp_Reader__take)]) (M_ahead_Reader : MOG P w K mg base CX0 lv "ahead" [(ga K "Reader", sp_Reader__ahead)]) (M_take_all_Reader : MOG P w K mg base (L2.CX P w) lv "take_all" [(ga K "Reader", sp_Reader__take_all)]) (M_read_any_Reader : MOG P w K mg base (L2.CX P w) lv "read_any" [(ga K "Reader", sp_Reader__read_any)]) {cdv : Value} {A : Around} {outer : List PySem.Env} {s : Shared} {H : Hp} {E : XK} {f : Addr} (hr : RoomG lv (A.deeper (envOfC "Reader.read_field" (defScope s_Reader__read_field) s.heap.objs.size f cdv))) :
    PSs (cxOf (L2.CX P w) P w K mg base ["self", "found", "level", "name"] "Reader.read_field" (defScope s_Reader__read_field) f cdv A outer s H E) (defBody s_Reader__read_field) (t_Reader__read_field K (fun cls d _ H' => E cls d H') sp_Reader__take sp_Reader__ahead sp_Reader__take_all sp_Reader__read_any) := by
  have hu := hr.units
  have nd := sc_Reader__read_field.nd
  have tk : Takes (cxOf (L2.CX P w) P w K mg base ["self", "found", "level", "name"] "Reader.read_field" (defScope s_Reader__read_field) f cdv A outer s H E) (fun cls d _ H' => E cls d H') := takes_of rfl rfl rfl rfl
  exact (pss_cons (ps_set (i := 3) nd rfl (by first | exact Or.inl rfl | exact Or.inr rfl) (pe_methS (pv 0) M_take_Reader hr (passAt tk) (pa_cons (pe_glob rfl T.g_LETTERS.choose_spec ⟨_, rfl⟩) pa_nil)))
      (pss_cons (ps_while (passes_of rfl) (PW.pt (pw_and (pt_cmpR Hk.oLt (pe_callB call_lenX (by rfl) T.b_len (by decide +kernel) (pa_cons (pv 3) pa_nil)) (pe_glob rfl T.g_MOST_LETTERS.choose_spec ⟨_, rfl⟩) (nomark _)) (pw_and1 (pt_cmpR (oNeY hu) (pe_methS0 (pv 0) M_ahead_Reader hr (fun _ => pass0At)) pe_str (nomark _))))) (pss_one (ps_set (i := 3) nd rfl (by first | exact Or.inl rfl | exact Or.inr rfl) (pe_op Hk.oAdd (pv 3) (pe_methS (pv 0) M_take_Reader hr (passAt tk) (pa_cons (pe_glob rfl T.g_LETTERS.choose_spec ⟨_, rfl⟩) pa_nil))))))
      (pss_cons (ps_expr (pe_methS (pv 0) M_take_all_Reader hr (passAt tk) (pa_cons pe_str pa_nil)))
      (pss_cons (ps_if (PW.pt (pw_and (pt_cmpR (Hk.oInA hu) (pv 3) (pv 1) (by rfl)) (pw_and1 (pt_cmpR op_isN (pe_fld (pv 0) rfl) pe_non (nomark _))))) (pss_one (ps_fld (pv 0) (pv 3) rfl)) pss_nil)
      (pss_one (ps_asg (pe_methS (pv 0) M_read_any_Reader hr (passAt tk) (pa_cons (pe_op Hk.oAdd (pv 2) pe_int) pa_nil)) (pg_sub (pv 1) (pv 3) (set_dict (lt1 hu)))))))))

theorem sc_Reader__read_row : FnScope ["self", "level", "found"] ["self", "level"] (defScope s_Reader__read_row) := ⟨rfl, rfl, rfl, by decide +kernel, rfl, by decide +kernel, by decide +kernel⟩
theorem dv_Reader__read_row {lv : Nat} (T : Txt K mg) {sp_Reader__take : L2.Sp} {sp_Reader__ahead : L2.Sp} {sp_Reader__read_any : L2.Sp} {sp_Reader__take_all : L2.Sp} (M_take_Reader : MOG P w K mg base (L2.CX P w) lv "take" [(ga K "Reader", sp_Reader__take)]) (M_ahead_Reader : MOG P w K mg base CX0 lv "ahead" [(ga K "Reader", sp_Reader__ahead)]) (M_read_any_Reader : MOG P w K mg base (L2.CX P w) lv "read_any" [(ga K "Reader", sp_Reader__read_any)]) (M_take_all_Reader : MOG P w K mg base (L2.CX P w) lv "take_all" [(ga K "Reader", sp_Reader__take_all)]) {cdv : Value} {A : Around} {outer : List PySem.Env} {s : Shared} {H : Hp} {E : XK} {f : Addr} (hr : RoomG lv (A.deeper (envOfC "Reader.read_row" (defScope s_Reader__read_row) s.heap.objs.size f cdv))) :
    PSs (cxOf (L2.CX P w) P w K mg base ["self", "level", "found"] "Reader.read_row" (defScope s_Reader__read_row) f cdv A outer s H E) (defBody s_Reader__read_row) (t_Reader__read_row K (fun cls d _ H' => E cls d H') sp_Reader__take sp_Reader__ahead sp_Reader__read_any sp_Reader__take_all) := by
  have hu := hr.units
  have nd := sc_Reader__read_row.nd
  have tk : Takes (cxOf (L2.CX P w) P w K mg base ["self", "level", "found"] "Reader.read_row" (defScope s_Reader__read_row) f cdv A outer s H E) (fun cls d _ H' => E cls d H') := takes_of rfl rfl rfl rfl
  exact (pss_cons (ps_expr (pe_methS (pv 0) M_take_Reader hr (passAt tk) (pa_cons pe_str pa_nil)))
      (pss_cons (ps_set (i := 2) nd rfl (by first | exact Or.inl rfl | exact Or.inr rfl) (pe_lst pa_nil))
      (pss_cons (ps_if (PW.pt (pw_and (pt_cmpR Hk.oLt (pv 1) (pe_glob rfl T.g_MOST_DEEP.choose_spec ⟨_, rfl⟩) (nomark _)) (pw_and1 (pt_cmpR (oNeY hu) (pe_methS0 (pv 0) M_ahead_Reader hr (fun _ => pass0At)) pe_str (nomark _))))) (pss_cons (ps_expr (pe_bm PySem.F.plainAttrs_list PySem.F.slot_list_append PySem.F.type_list_append mt_append (pv 2) (pa_cons (pe_methS (pv 0) M_read_any_Reader hr (passAt tk) (pa_cons (pe_op Hk.oAdd (pv 1) pe_int) pa_nil)) pa_nil)))
      (pss_one (ps_while (passes_of rfl) (PW.pt (pw_and (pt_cmpR Hk.oLt (pe_callB call_lenX (by rfl) T.b_len (by decide +kernel) (pa_cons (pv 2) pa_nil)) (pe_glob rfl T.g_MOST_IN_ROW.choose_spec ⟨_, rfl⟩) (nomark _)) (pw_and1 (pt_cmpR (oEqY hu) (pe_methS0 (pv 0) M_ahead_Reader hr (fun _ => pass0At)) pe_str (nomark _))))) (pss_cons (ps_expr (pe_methS (pv 0) M_take_all_Reader hr (passAt tk) (pa_cons pe_str pa_nil)))
      (pss_one (ps_expr (pe_bm PySem.F.plainAttrs_list PySem.F.slot_list_append PySem.F.type_list_append mt_append (pv 2) (pa_cons (pe_methS (pv 0) M_read_any_Reader hr (passAt tk) (pa_cons (pe_op Hk.oAdd (pv 1) pe_int) pa_nil)) pa_nil)))))))) pss_nil)
      (pss_cons (ps_expr (pe_methS (pv 0) M_take_Reader hr (passAt tk) (pa_cons pe_str pa_nil)))
      (pss_one (ps_ret (pv 2)))))))

theorem sc_Reader__read_quoted : FnScope ["self", "text", "sign"] ["self"] (defScope s_Reader__read_quoted) := ⟨rfl, rfl, rfl, by decide +kernel, rfl, by decide +kernel, by decide +kernel⟩
theorem dv_Reader__read_quoted {lv : Nat} (T : Txt K mg) {sp_Reader__take : L2.Sp} {sp_Reader__ends : L2.Sp} {sp_Reader__ahead : L2.Sp} {sp_is_sign : L2.Sp} (F_is_sign : FOG P w K mg base CX0 lv "is_sign" ["sign"] sp_is_sign) (M_take_Reader : MOG P w K mg base (L2.CX P w) lv "take" [(ga K "Reader", sp_Reader__take)]) (M_ends_Reader : MOG P w K mg base CX0 lv "ends" [(ga K "Reader", sp_Reader__ends)]) (M_ahead_Reader : MOG P w K mg base CX0 lv "ahead" [(ga K "Reader", sp_Reader__ahead)]) (E_BadText : ErrG P w K mg base 1 "BadText" "place") {cdv : Value} {A : Around} {outer : List PySem.Env} {s : Shared} {H : Hp} {E : XK} {f : Addr} (hr : RoomG lv (A.deeper (envOfC "Reader.read_quoted" (defScope s_Reader__read_quoted) s.heap.objs.size f cdv))) (hlv : 2 ≤ lv) :
    PSs (cxOf (L2.CX P w) P w K mg base ["self", "text", "sign"] "Reader.read_quoted" (defScope s_Reader__read_quoted) f cdv A outer s H E) (defBody s_Reader__read_quoted) (t_Reader__read_quoted K (fun cls d _ H' => E cls d H') sp_Reader__take sp_Reader__ends sp_Reader__ahead sp_is_sign) := by
  have hu := hr.units
  have nd := sc_Reader__read_quoted.nd
  have tk : Takes (cxOf (L2.CX P w) P w K mg base ["self", "text", "sign"] "Reader.read_quoted" (defScope s_Reader__read_quoted) f cdv A outer s H E) (fun cls d _ H' => E cls d H') := takes_of rfl rfl rfl rfl
  exact (pss_cons (ps_expr (pe_methS (pv 0) M_take_Reader hr (passAt tk) (pa_cons pe_str pa_nil)))
      (pss_cons (ps_set (i := 1) nd rfl (by first | exact Or.inl rfl | exact Or.inr rfl) pe_str)
      (pss_cons (ps_while (passes_of rfl) (pt_not (pt_val (pe_methS (pv 0) M_ends_Reader hr (fun _ => pass0At) (pa_cons (pv 1) pa_nil)))) (pss_cons (ps_set (i := 2) nd rfl (by first | exact Or.inl rfl | exact Or.inr rfl) (pe_methS0 (pv 0) M_ahead_Reader hr (fun _ => pass0At)))
      (pss_cons (ps_if (PW.pt (pw_or (pt_cmpR (oEqY hu) (pv 2) pe_str (nomark _)) (pw_or (pt_cmpR (oEqY hu) (pe_callB call_lenX (by rfl) T.b_len (by decide +kernel) (pa_cons (pv 1) pa_nil)) (pe_glob rfl T.g_MOST_SIGNS.choose_spec ⟨_, rfl⟩) (nomark _)) (pw_or1 (pt_not (pt_val (pe_callG F_is_sign hr (by rfl) pass0 (pa_cons (pv 2) pa_nil)))))))) (pss_one (ps_raise rfl tk (pmk1 E_BadText (hr.mono hlv) (by rfl) (pa_cons (pe_fld (pv 0) rfl) pa_nil)))) pss_nil)
      (pss_cons (ps_fld (pv 0) (pe_op Hk.oAdd (pe_op Hk.oAdd (pe_fld (pv 0) rfl) pe_int) (pe_callTy call_int1 (by rfl) T.b_int (by decide +kernel) (pa_cons (pe_cmpR (oEqY hu) (pv 2) pe_str (nomark _)) pa_nil))) rfl)
      (pss_one (ps_set (i := 1) nd rfl (by first | exact Or.inl rfl | exact Or.inr rfl) (pe_op Hk.oAdd (pv 1) (pv 2))))))))
      (pss_cons (ps_expr (pe_methS (pv 0) M_take_Reader hr (passAt tk) (pa_cons pe_str pa_nil)))
      (pss_one (ps_ret (pv 1)))))))

theorem sc_is_sign : FnScope ["sign"] ["sign"] (defScope s_is_sign) := ⟨rfl, rfl, rfl, by decide +kernel, rfl, by decide +kernel, by decide +kernel⟩
theorem dv_is_sign {lv : Nat} (T : Txt K mg) {cdv : Value} {A : Around} {outer : List PySem.Env} {s : Shared} {H : Hp} {E : XK} {f : Addr} (hr : RoomG lv (A.deeper (envOfC "is_sign" (defScope s_is_sign) s.heap.objs.size f cdv))) :
    PSs (cxOf CX0 P w K mg base ["sign"] "is_sign" (defScope s_is_sign) f cdv A outer s H E).nox (defBody s_is_sign) (t_is_sign K) := by
  have hu := hr.units
  have nd := sc_is_sign.nd
  exact (pss_one (ps_ret (pe_and (pe_chain op_le_str op_le_str pe_str (pv 0) pe_str) (pe_one (pe_cmpR (oNeY hu) (pe_callB cr_ord (by rfl) T.b_ord (by decide +kernel) (pa_cons (pv 0) pa_nil)) pe_int (nomark _))))))

theorem sc_Reader__ends : FnScope ["self", "text", "after"] ["self", "text"] (defScope s_Reader__ends) := ⟨rfl, rfl, rfl, by decide +kernel, rfl, by decide +kernel, by decide +kernel⟩
theorem dv_Reader__ends {lv : Nat} (T : Txt K mg) {sp_Reader__ahead : L2.Sp} (M_ahead_Reader : MOG P w K mg base CX0 lv "ahead" [(ga K "Reader", sp_Reader__ahead)]) {cdv : Value} {A : Around} {outer : List PySem.Env} {s : Shared} {H : Hp} {E : XK} {f : Addr} (hr : RoomG lv (A.deeper (envOfC "Reader.ends" (defScope s_Reader__ends) s.heap.objs.size f cdv))) :
    PSs (cxOf CX0 P w K mg base ["self", "text", "after"] "Reader.ends" (defScope s_Reader__ends) f cdv A outer s H E).nox (defBody s_Reader__ends) (t_Reader__ends K sp_Reader__ahead) := by
  have hu := hr.units
  have nd := sc_Reader__ends.nd
  exact (pss_cons (ps_set (i := 2) nd rfl (by first | exact Or.inl rfl | exact Or.inr rfl) (pe_slice slAny (pe_fld (pv 0) rfl) (po_some (pe_op Hk.oAdd (pe_fld (pv 0) rfl) pe_int)) (po_some (pe_op Hk.oAdd (pe_fld (pv 0) rfl) pe_int))))
      (pss_one (ps_ret (pe_and (pe_cmpR (oEqY hu) (pe_methS0 (pv 0) M_ahead_Reader hr (fun _ => pass0At)) pe_str (nomark _)) (pe_one (pe_or (pe_cmpR (oNeY hu) (pv 2) pe_str (nomark _)) (pe_one (pe_cmpR (oEqY hu) (pe_callB call_lenX (by rfl) T.b_len (by decide +kernel) (pa_cons (pv 1) pa_nil)) (pe_glob rfl T.g_MOST_SIGNS.choose_spec ⟨_, rfl⟩) (nomark _)))))))))

theorem sc_Reader____init__ : FnScope ["self", "text"] ["self", "text"] (defScope s_Reader____init__) := ⟨rfl, rfl, rfl, by decide +kernel, rfl, by decide +kernel, by decide +kernel⟩
theorem dv_Reader____init__ {lv : Nat} (T : Txt K mg) {cdv : Value} {A : Around} {outer : List PySem.Env} {s : Shared} {H : Hp} {E : XK} {f : Addr} (hr : RoomG lv (A.deeper (envOfC "Reader.__init__" (defScope s_Reader____init__) s.heap.objs.size f cdv))) :
    PSs (cxOf CX0 P w K mg base ["self", "text"] "Reader.__init__" (defScope s_Reader____init__) f cdv A outer s H E).nox (defBody s_Reader____init__) (t_Reader____init__ K) := by
  have hu := hr.units
  have nd := sc_Reader____init__.nd
  exact (pss_cons (ps_fld (pv 0) (pv 1) rfl)
      (pss_cons (ps_fld (pv 0) pe_int rfl)
      (pss_one (ps_fld (pv 0) pe_non rfl))))

theorem sc__law_right : FnScope ["_law_text", "_law_twice_here", "_law_turn", "_law_told"] ["_law_text", "_law_twice_here"] (defScope s__law_right) := ⟨rfl, rfl, rfl, by decide +kernel, rfl, by decide +kernel, by decide +kernel⟩
theorem dv__law_right {lv : Nat} (T : Txt K mg) {sp__law_asked : L2.Sp} {sp__law_loose : L2.Sp} (F__law_asked : FOG P w K mg base CX0 lv "_law_asked" ["_law_text"] sp__law_asked) (F__law_loose : FOG P w K mg base CX0 lv "_law_loose" ["_law_worth"] sp__law_loose) {cdv : Value} {A : Around} {outer : List PySem.Env} {s : Shared} {H : Hp} {E : XK} {f : Addr} (hr : RoomG lv (A.deeper (envOfC "_law_right" (defScope s__law_right) s.heap.objs.size f cdv))) :
    PSs (cxOf CX0 P w K mg base ["_law_text", "_law_twice_here", "_law_turn", "_law_told"] "_law_right" (defScope s__law_right) f cdv A outer s H E).nox (defBody s__law_right) (t__law_right K sp__law_asked sp__law_loose) := by
  have hu := hr.units
  have nd := sc__law_right.nd
  exact (pss_cons (ps_for PassesOwn.never rfl (pi_range1 rfl T.b_range (pa_cons pe_int pa_nil)) (pg_name (i := 2) nd rfl (by first | exact Or.inl rfl | exact Or.inr rfl)) (pss_cons (ps_set (i := 3) nd rfl (by first | exact Or.inl rfl | exact Or.inr rfl) (pe_callG F__law_asked hr (by rfl) pass0 (pa_cons (pv 0) pa_nil)))
      (pss_cons (ps_if (PW.pt (pw_and (pt_cmpR (oNeY hu) (pv 1) (pe_lst pa_nil) (nomark _)) (pw_and1 (pt_cmpR (oNeY hu) (pv 3) (pe_tup (pa_cons pe_str (pa_cons (pe_ix (ixAny hu) (pv 1) pe_int (fun _ _ => rfl)) pa_nil))) (nomark _))))) (pss_one (ps_ret pe_bl)) pss_nil)
      (pss_one (ps_if (PW.pt (pw_and (pt_cmpR (oEqY hu) (pv 1) (pe_lst pa_nil) (nomark _)) (pw_and1 (PW.pt (pw_or (pt_cmpR (oNeY hu) (pe_ix (ixAny hu) (pv 3) pe_int (fun _ _ => rfl)) pe_str (nomark _)) (pw_or1 (pt_cmpR (oNeY hu) (pe_callG F__law_loose hr (by rfl) pass0 (pa_cons (pe_ix (ixAny hu) (pv 3) pe_int (fun _ _ => rfl)) pa_nil)) (pv 0) (nomark _)))))))) (pss_one (ps_ret pe_bl)) pss_nil)))))
      (pss_one (ps_ret pe_bl)))

theorem sc__law_loose : FnScope ["_law_worth", "_law_one", "_law_name"] ["_law_worth"] (defScope s__law_loose) := ⟨rfl, rfl, rfl, by decide +kernel, rfl, by decide +kernel, by decide +kernel⟩
theorem dv__law_loose {lv : Nat} (T : Txt K mg) {sp__law_loose : L2.Sp} (F__law_loose : FOG P w K mg base CX0 lv "_law_loose" ["_law_worth"] sp__law_loose) {cdv : Value} {A : Around} {outer : List PySem.Env} {s : Shared} {H : Hp} {E : XK} {f : Addr} (hr : RoomG lv (A.deeper (envOfC "_law_loose" (defScope s__law_loose) s.heap.objs.size f cdv))) :
    PSs (cxOf CX0 P w K mg base ["_law_worth", "_law_one", "_law_name"] "_law_loose" (defScope s__law_loose) f cdv A outer s H E).nox (defBody s__law_loose) (t__law_loose K sp__law_loose) := by
  have hu := hr.units
  have nd := sc__law_loose.nd
  exact (pss_cons (ps_if (pt_cmpR op_isN (pv 0) pe_non (nomark _)) (pss_one (ps_ret pe_str)) pss_nil)
      (pss_cons (ps_if (pt_val (pe_callB call_isi (by rfl) T.b_isinstance (by decide +kernel) (pa_cons (pv 0) (pa_cons (pe_bltn (v := .ty "bool") rfl T.b_bool (by decide +kernel) rfl) pa_nil)))) (pss_one (ps_ret (pe_ix (ixAny hu) (pe_lst (pa_cons pe_str (pa_cons pe_str pa_nil))) (pe_callTy call_int1 (by rfl) T.b_int (by decide +kernel) (pa_cons (pv 0) pa_nil)) (fun _ _ => rfl)))) pss_nil)
      (pss_cons (ps_if (pt_val (pe_callB call_isi (by rfl) T.b_isinstance (by decide +kernel) (pa_cons (pv 0) (pa_cons (pe_bltn (v := .ty "int") rfl T.b_int (by decide +kernel) rfl) pa_nil)))) (pss_one (ps_ret (pe_callTy call_strV (by rfl) T.b_str (by decide +kernel) (pa_cons (pv 0) pa_nil)))) pss_nil)
      (pss_cons (ps_if (pt_val (pe_callB call_isi (by rfl) T.b_isinstance (by decide +kernel) (pa_cons (pv 0) (pa_cons (pe_bltn (v := .ty "str") rfl T.b_str (by decide +kernel) rfl) pa_nil)))) (pss_one (ps_ret (pe_op Hk.oAdd (pe_op Hk.oAdd pe_str (pe_join pe_str (pe_split (pv 0) pe_str))) pe_str))) pss_nil)
      (pss_cons (ps_if (pt_val (pe_callB call_isi (by rfl) T.b_isinstance (by decide +kernel) (pa_cons (pv 0) (pa_cons (pe_bltn (v := .ty "list") rfl T.b_list (by decide +kernel) rfl) pa_nil)))) (pss_one (ps_ret (pe_op Hk.oAdd (pe_op Hk.oAdd pe_str (pe_join pe_str (pe_lc (own := [("_law_one", 1)]) (g := (gName 1)) (tt := tYes) rfl nd (pi_list (pv 0)) (blkOk_by (own := [("_law_one", 1)]) (N := ["_law_worth", "_law_one", "_law_name"]) (sc := defScope s__law_loose) (by decide +kernel)) (fun _ _ _ _ _ => (pg_name (i := 1) nd rfl (by first | exact Or.inl rfl | exact Or.inr rfl))) (fun _ _ _ _ _ => pts_nil) (fun _ _ _ _ _ => (pe_callG F__law_loose hr (by rfl) pass0 (pa_cons (pv 1) pa_nil)))))) pe_str))) pss_nil)
      (pss_cons (ps_if (pt_val (pe_callB call_isi (by rfl) T.b_isinstance (by decide +kernel) (pa_cons (pv 0) (pa_cons (pe_bltn (v := .ty "dict") rfl T.b_dict (by decide +kernel) rfl) pa_nil)))) (pss_one (ps_ret (pe_op Hk.oAdd (pe_op Hk.oAdd pe_str (pe_join pe_str (pe_lockU (pe_lc (own := [("_law_name", 2), ("_law_one", 1)]) (g := (gTup K 2 (gCons (gName 2) (gCons (gName 1) gNil)))) (tt := tYes) rfl nd (pi_items (pv 0)) (blkOk_by (own := [("_law_name", 2), ("_law_one", 1)]) (N := ["_law_worth", "_law_one", "_law_name"]) (sc := defScope s__law_loose) (by decide +kernel)) (fun _ _ _ _ _ => (pg_tup rfl (pgs_cons (pg_name (i := 2) nd rfl (by first | exact Or.inl rfl | exact Or.inr rfl)) (pgs_cons (pg_name (i := 1) nd rfl (by first | exact Or.inl rfl | exact Or.inr rfl)) pgs_nil)))) (fun _ _ _ _ _ => pts_nil) (fun _ _ _ _ _ => (pe_op Hk.oAdd (pe_op Hk.oAdd (pv 2) pe_str) (pe_callG F__law_loose hr (by rfl) pass0 (pa_cons (pv 1) pa_nil)))))))) pe_str))) pss_nil)
      (pss_one (ps_ret pe_str))))))))

theorem sc__law_twice : FnScope ["_law_tree_here", "_law_found", "_law_seen", "_law_one"] ["_law_tree_here"] (defScope s__law_twice) := ⟨rfl, rfl, rfl, by decide +kernel, rfl, by decide +kernel, by decide +kernel⟩
theorem dv__law_twice {lv : Nat} (T : Txt K mg) {sp__law_twice : L2.Sp} (F__law_twice : FOG P w K mg base CX0 lv "_law_twice" ["_law_tree_here"] sp__law_twice) {cdv : Value} {A : Around} {outer : List PySem.Env} {s : Shared} {H : Hp} {E : XK} {f : Addr} (hr : RoomG lv (A.deeper (envOfC "_law_twice" (defScope s__law_twice) s.heap.objs.size f cdv))) :
    PSs (cxOf CX0 P w K mg base ["_law_tree_here", "_law_found", "_law_seen", "_law_one"] "_law_twice" (defScope s__law_twice) f cdv A outer s H E).nox (defBody s__law_twice) (t__law_twice K sp__law_twice) := by
  have hu := hr.units
  have nd := sc__law_twice.nd
  exact (pss_cons (ps_if (pt_val (pe_callB call_isi (by rfl) T.b_isinstance (by decide +kernel) (pa_cons (pv 0) (pa_cons (pe_bltn (v := .ty "str") rfl T.b_str (by decide +kernel) rfl) pa_nil)))) (pss_one (ps_ret (pe_lst pa_nil))) pss_nil)
      (pss_cons (ps_set (i := 1) nd rfl (by first | exact Or.inl rfl | exact Or.inr rfl) (pe_lst pa_nil))
      (pss_cons (ps_set (i := 2) nd rfl (by first | exact Or.inl rfl | exact Or.inr rfl) (pe_lst pa_nil))
      (pss_cons (ps_for PassesOwn.never rfl (pi_list (pe_ix (ixAny hu) (pv 0) pe_int (fun _ _ => rfl))) (pg_name (i := 3) nd rfl (by first | exact Or.inl rfl | exact Or.inr rfl)) (pss_one (ps_if (pt_cmpR (oEqY hu) (pe_ix (ixAny hu) (pv 0) pe_int (fun _ _ => rfl)) pe_str (nomark _)) (pss_one (ps_set (i := 1) nd rfl (by first | exact Or.inl rfl | exact Or.inr rfl) (pe_op Hk.oAdd (pv 1) (pe_callG F__law_twice hr (by rfl) pass0 (pa_cons (pv 3) pa_nil))))) (pss_cons (ps_set (i := 1) nd rfl (by first | exact Or.inl rfl | exact Or.inr rfl) (pe_op Hk.oAdd (pe_op Hk.oAdd (pv 1) (pe_op Hk.oMulX (pe_lst (pa_cons (pe_ix (ixAny hu) (pv 3) pe_int (fun _ _ => rfl)) pa_nil)) (pe_callTy call_int1 (by rfl) T.b_int (by decide +kernel) (pa_cons (pe_cmpR (Hk.oIn hu) (pe_ix (ixAny hu) (pv 3) pe_int (fun _ _ => rfl)) (pv 2) (by rfl)) pa_nil)))) (pe_callG F__law_twice hr (by rfl) pass0 (pa_cons (pe_ix (ixAny hu) (pv 3) pe_int (fun _ _ => rfl)) pa_nil))))
      (pss_one (ps_expr (pe_bm PySem.F.plainAttrs_list PySem.F.slot_list_append PySem.F.type_list_append mt_append (pv 2) (pa_cons (pe_ix (ixAny hu) (pv 3) pe_int (fun _ _ => rfl)) pa_nil))))))))
      (pss_one (ps_ret (pv 1)))))))

theorem sc__law_written : FnScope ["_law_tree_here", "_law_one", "_law_name"] ["_law_tree_here"] (defScope s__law_written) := ⟨rfl, rfl, rfl, by decide +kernel, rfl, by decide +kernel, by decide +kernel⟩
theorem dv__law_written {lv : Nat} (T : Txt K mg) {sp__law_written : L2.Sp} (F__law_written : FOG P w K mg base CX0 lv "_law_written" ["_law_tree_here"] sp__law_written) {cdv : Value} {A : Around} {outer : List PySem.Env} {s : Shared} {H : Hp} {E : XK} {f : Addr} (hr : RoomG lv (A.deeper (envOfC "_law_written" (defScope s__law_written) s.heap.objs.size f cdv))) :
    PSs (cxOf CX0 P w K mg base ["_law_tree_here", "_law_one", "_law_name"] "_law_written" (defScope s__law_written) f cdv A outer s H E).nox (defBody s__law_written) (t__law_written K sp__law_written) := by
  have hu := hr.units
  have nd := sc__law_written.nd
  exact (pss_cons (ps_if (pt_val (pe_callB call_isi (by rfl) T.b_isinstance (by decide +kernel) (pa_cons (pv 0) (pa_cons (pe_bltn (v := .ty "str") rfl T.b_str (by decide +kernel) rfl) pa_nil)))) (pss_one (ps_ret (pv 0))) pss_nil)
      (pss_cons (ps_if (pt_cmpR (oEqY hu) (pe_ix (ixAny hu) (pv 0) pe_int (fun _ _ => rfl)) pe_str (nomark _)) (pss_one (ps_ret (pe_op Hk.oAdd (pe_op Hk.oAdd pe_str (pe_join pe_str (pe_lc (own := [("_law_one", 1)]) (g := (gName 1)) (tt := tYes) rfl nd (pi_list (pe_ix (ixAny hu) (pv 0) pe_int (fun _ _ => rfl))) (blkOk_by (own := [("_law_one", 1)]) (N := ["_law_tree_here", "_law_one", "_law_name"]) (sc := defScope s__law_written) (by decide +kernel)) (fun _ _ _ _ _ => (pg_name (i := 1) nd rfl (by first | exact Or.inl rfl | exact Or.inr rfl))) (fun _ _ _ _ _ => pts_nil) (fun _ _ _ _ _ => (pe_callG F__law_written hr (by rfl) pass0 (pa_cons (pv 1) pa_nil)))))) pe_str))) pss_nil)
      (pss_one (ps_ret (pe_op Hk.oAdd (pe_op Hk.oAdd pe_str (pe_join pe_str (pe_lc (own := [("_law_name", 2), ("_law_one", 1)]) (g := (gTup K 2 (gCons (gName 2) (gCons (gName 1) gNil)))) (tt := tYes) rfl nd (pi_list (pe_ix (ixAny hu) (pv 0) pe_int (fun _ _ => rfl))) (blkOk_by (own := [("_law_name", 2), ("_law_one", 1)]) (N := ["_law_tree_here", "_law_one", "_law_name"]) (sc := defScope s__law_written) (by decide +kernel)) (fun _ _ _ _ _ => (pg_tup rfl (pgs_cons (pg_name (i := 2) nd rfl (by first | exact Or.inl rfl | exact Or.inr rfl)) (pgs_cons (pg_name (i := 1) nd rfl (by first | exact Or.inl rfl | exact Or.inr rfl)) pgs_nil)))) (fun _ _ _ _ _ => pts_nil) (fun _ _ _ _ _ => (pe_op Hk.oAdd (pe_op Hk.oAdd (pv 2) pe_str) (pe_callG F__law_written hr (by rfl) pass0 (pa_cons (pv 1) pa_nil))))))) pe_str)))))

theorem sc__law_tree : FnScope ["_law_box_here", "_law_left", "_law_way", "_law_many", "_law_k", "_law_names_here", "_law_lap", "_law_name"] ["_law_box_here", "_law_left"] (defScope s__law_tree) := ⟨rfl, rfl, rfl, by decide +kernel, rfl, by decide +kernel, by decide +kernel⟩
theorem dv__law_tree {lv : Nat} (T : Txt K mg) {sp__law_take : L2.Sp} {sp__law_tree : L2.Sp} {sp__law_names : L2.Sp} (F__law_take : FOG P w K mg base CX0 lv "_law_take" ["_law_box_here", "_law_many"] sp__law_take) (F__law_tree : FOG P w K mg base CX0 lv "_law_tree" ["_law_box_here", "_law_left"] sp__law_tree) (F__law_names : FOG P w K mg base CX0 lv "_law_names" ["_law_box_here", "_law_many"] sp__law_names) {cdv : Value} {A : Around} {outer : List PySem.Env} {s : Shared} {H : Hp} {E : XK} {f : Addr} (hr : RoomG lv (A.deeper (envOfC "_law_tree" (defScope s__law_tree) s.heap.objs.size f cdv))) :
    PSs (cxOf CX0 P w K mg base ["_law_box_here", "_law_left", "_law_way", "_law_many", "_law_k", "_law_names_here", "_law_lap", "_law_name"] "_law_tree" (defScope s__law_tree) f cdv A outer s H E).nox (defBody s__law_tree) (t__law_tree K sp__law_take sp__law_tree sp__law_names) := by
  have hu := hr.units
  have nd := sc__law_tree.nd
  exact (pss_cons (ps_set (i := 2) nd rfl (by first | exact Or.inl rfl | exact Or.inr rfl) (pe_callG F__law_take hr (by rfl) pass0 (pa_cons (pv 0) (pa_cons pe_int pa_nil))))
      (pss_cons (ps_if (PW.pt (pw_or (pt_cmpR (oEqY hu) (pv 1) pe_int (nomark _)) (pw_or1 (pt_cmpR (oEqY hu) (pv 2) pe_int (nomark _))))) (pss_one (ps_ret (pe_ix (ixAny hu) (pe_lst (pa_cons pe_str (pa_cons pe_str (pa_cons pe_str (pa_cons pe_str (pa_cons pe_str (pa_cons pe_str pa_nil))))))) (pe_callG F__law_take hr (by rfl) pass0 (pa_cons (pv 0) (pa_cons pe_int pa_nil))) (fun _ _ => rfl)))) pss_nil)
      (pss_cons (ps_set (i := 3) nd rfl (by first | exact Or.inl rfl | exact Or.inr rfl) (pe_op Hk.oAdd pe_int (pe_callG F__law_take hr (by rfl) pass0 (pa_cons (pv 0) (pa_cons pe_int pa_nil)))))
      (pss_cons (ps_if (pt_cmpR (oEqY hu) (pv 2) pe_int (nomark _)) (pss_one (ps_ret (pe_lst (pa_cons pe_str (pa_cons (pe_lc (own := [("_law_k", 4)]) (g := (gName 4)) (tt := tYes) rfl nd (pi_range1 rfl T.b_range (pa_cons (pv 3) pa_nil)) (blkOk_by (own := [("_law_k", 4)]) (N := ["_law_box_here", "_law_left", "_law_way", "_law_many", "_law_k", "_law_names_here", "_law_lap", "_law_name"]) (sc := defScope s__law_tree) (by decide +kernel)) (fun _ _ _ _ _ => (pg_name (i := 4) nd rfl (by first | exact Or.inl rfl | exact Or.inr rfl))) (fun _ _ _ _ _ => pts_nil) (fun _ _ _ _ _ => (pe_callG F__law_tree hr (by rfl) pass0 (pa_cons (pv 0) (pa_cons (pe_op op_sub (pv 1) pe_int) pa_nil))))) pa_nil))))) pss_nil)
      (pss_cons (ps_set (i := 3) nd rfl (by first | exact Or.inl rfl | exact Or.inr rfl) (pe_ix (ixAny hu) (pe_lst (pa_cons (pv 3) (pa_cons pe_int pa_nil))) (pe_callTy call_int1 (by rfl) T.b_int (by decide +kernel) (pa_cons (pe_cmpR (oEqY hu) (pe_callG F__law_take hr (by rfl) pass0 (pa_cons (pv 0) (pa_cons pe_int pa_nil))) pe_int (nomark _)) pa_nil)) (fun _ _ => rfl)))
      (pss_cons (ps_set (i := 5) nd rfl (by first | exact Or.inl rfl | exact Or.inr rfl) (pe_callG F__law_names hr (by rfl) pass0 (pa_cons (pv 0) (pa_cons (pv 3) pa_nil))))
      (pss_cons (ps_for PassesOwn.never rfl (pi_range1 rfl T.b_range (pa_cons (pe_callG F__law_take hr (by rfl) pass0 (pa_cons (pv 0) (pa_cons pe_int pa_nil))) pa_nil)) (pg_name (i := 6) nd rfl (by first | exact Or.inl rfl | exact Or.inr rfl)) (pss_one (ps_asg (pe_ix (ixAny hu) (pv 5) (pe_callG F__law_take hr (by rfl) pass0 (pa_cons (pv 0) (pa_cons (pv 3) pa_nil))) (fun _ _ => rfl)) (pg_sub (pv 5) (pe_callG F__law_take hr (by rfl) pass0 (pa_cons (pv 0) (pa_cons (pv 3) pa_nil))) set_list))))
      (pss_one (ps_ret (pe_lst (pa_cons pe_str (pa_cons (pe_lc (own := [("_law_name", 7)]) (g := (gName 7)) (tt := tYes) rfl nd (pi_list (pv 5)) (blkOk_by (own := [("_law_name", 7)]) (N := ["_law_box_here", "_law_left", "_law_way", "_law_many", "_law_k", "_law_names_here", "_law_lap", "_law_name"]) (sc := defScope s__law_tree) (by decide +kernel)) (fun _ _ _ _ _ => (pg_name (i := 7) nd rfl (by first | exact Or.inl rfl | exact Or.inr rfl))) (fun _ _ _ _ _ => pts_nil) (fun _ _ _ _ _ => (pe_tup (pa_cons (pv 7) (pa_cons (pe_callG F__law_tree hr (by rfl) pass0 (pa_cons (pv 0) (pa_cons (pe_op op_sub (pv 1) pe_int) pa_nil))) pa_nil))))) pa_nil))))))))))))

theorem sc__law_names : FnScope ["_law_box_here", "_law_many", "_law_letters", "_law_way", "_law_first", "_law_tail", "_law_k", "_law_words"] ["_law_box_here", "_law_many"] (defScope s__law_names) := ⟨rfl, rfl, rfl, by decide +kernel, rfl, by decide +kernel, by decide +kernel⟩
theorem dv__law_names {lv : Nat} (T : Txt K mg) {sp__law_take : L2.Sp} (F__law_take : FOG P w K mg base CX0 lv "_law_take" ["_law_box_here", "_law_many"] sp__law_take) {cdv : Value} {A : Around} {outer : List PySem.Env} {s : Shared} {H : Hp} {E : XK} {f : Addr} (hr : RoomG lv (A.deeper (envOfC "_law_names" (defScope s__law_names) s.heap.objs.size f cdv))) :
    PSs (cxOf CX0 P w K mg base ["_law_box_here", "_law_many", "_law_letters", "_law_way", "_law_first", "_law_tail", "_law_k", "_law_words"] "_law_names" (defScope s__law_names) f cdv A outer s H E).nox (defBody s__law_names) (t__law_names K sp__law_take) := by
  have hu := hr.units
  have nd := sc__law_names.nd
  exact (pss_cons (ps_set (i := 2) nd rfl (by first | exact Or.inl rfl | exact Or.inr rfl) pe_str)
      (pss_cons (ps_set (i := 3) nd rfl (by first | exact Or.inl rfl | exact Or.inr rfl) (pe_callG F__law_take hr (by rfl) pass0 (pa_cons (pv 0) (pa_cons pe_int pa_nil))))
      (pss_cons (ps_set (i := 4) nd rfl (by first | exact Or.inl rfl | exact Or.inr rfl) (pe_callG F__law_take hr (by rfl) pass0 (pa_cons (pv 0) (pa_cons pe_int pa_nil))))
      (pss_cons (ps_set (i := 5) nd rfl (by first | exact Or.inl rfl | exact Or.inr rfl) (pe_join pe_str (pe_lc (own := [("_law_k", 6)]) (g := (gName 6)) (tt := tYes) rfl nd (pi_range1 rfl T.b_range (pa_cons pe_int pa_nil)) (blkOk_by (own := [("_law_k", 6)]) (N := ["_law_box_here", "_law_many", "_law_letters", "_law_way", "_law_first", "_law_tail", "_law_k", "_law_words"]) (sc := defScope s__law_names) (by decide +kernel)) (fun _ _ _ _ _ => (pg_name (i := 6) nd rfl (by first | exact Or.inl rfl | exact Or.inr rfl))) (fun _ _ _ _ _ => pts_nil) (fun _ _ _ _ _ => (pe_ix (ixAny hu) (pv 2) (pe_callG F__law_take hr (by rfl) pass0 (pa_cons (pv 0) (pa_cons pe_int pa_nil))) (fun _ _ => rfl))))))
      (pss_cons (ps_if (pt_cmpR (oEqY hu) (pv 3) pe_int (nomark _)) (pss_cons (ps_set (i := 7) nd rfl (by first | exact Or.inl rfl | exact Or.inr rfl) (pe_lst (pa_cons pe_str (pa_cons pe_str (pa_cons pe_str (pa_cons pe_str (pa_cons pe_str (pa_cons pe_str (pa_cons pe_str (pa_cons pe_str pa_nil))))))))))
      (pss_one (ps_ret (pe_lc (own := [("_law_k", 6)]) (g := (gName 6)) (tt := tYes) rfl nd (pi_range1 rfl T.b_range (pa_cons (pv 1) pa_nil)) (blkOk_by (own := [("_law_k", 6)]) (N := ["_law_box_here", "_law_many", "_law_letters", "_law_way", "_law_first", "_law_tail", "_law_k", "_law_words"]) (sc := defScope s__law_names) (by decide +kernel)) (fun _ _ _ _ _ => (pg_name (i := 6) nd rfl (by first | exact Or.inl rfl | exact Or.inr rfl))) (fun _ _ _ _ _ => pts_nil) (fun _ _ _ _ _ => (pe_ix (ixAny hu) (pv 7) (pe_op op_mod (pe_op Hk.oAdd (pv 4) (pe_op Hk.oMulX pe_int (pv 6))) pe_int) (fun _ _ => rfl))))))) pss_nil)
      (pss_cons (ps_if (pt_cmpR (oEqY hu) (pv 3) pe_int (nomark _)) (pss_one (ps_ret (pe_lc (own := [("_law_k", 6)]) (g := (gName 6)) (tt := tYes) rfl nd (pi_range1 rfl T.b_range (pa_cons (pv 1) pa_nil)) (blkOk_by (own := [("_law_k", 6)]) (N := ["_law_box_here", "_law_many", "_law_letters", "_law_way", "_law_first", "_law_tail", "_law_k", "_law_words"]) (sc := defScope s__law_names) (by decide +kernel)) (fun _ _ _ _ _ => (pg_name (i := 6) nd rfl (by first | exact Or.inl rfl | exact Or.inr rfl))) (fun _ _ _ _ _ => pts_nil) (fun _ _ _ _ _ => (pe_slice slAny (pe_op Hk.oAdd (pe_ix (ixAny hu) (pv 2) (pv 4) (fun _ _ => rfl)) (pv 5)) po_none (po_some (pe_op Hk.oAdd pe_int (pe_op op_mod (pe_op Hk.oAdd (pv 4) (pe_op Hk.oMulX pe_int (pv 6))) pe_int)))))))) pss_nil)
      (pss_one (ps_ret (pe_lc (own := [("_law_k", 6)]) (g := (gName 6)) (tt := tYes) rfl nd (pi_range1 rfl T.b_range (pa_cons (pv 1) pa_nil)) (blkOk_by (own := [("_law_k", 6)]) (N := ["_law_box_here", "_law_many", "_law_letters", "_law_way", "_law_first", "_law_tail", "_law_k", "_law_words"]) (sc := defScope s__law_names) (by decide +kernel)) (fun _ _ _ _ _ => (pg_name (i := 6) nd rfl (by first | exact Or.inl rfl | exact Or.inr rfl))) (fun _ _ _ _ _ => pts_nil) (fun _ _ _ _ _ => (pe_op Hk.oAdd (pe_ix (ixAny hu) (pv 2) (pe_op op_mod (pe_op Hk.oAdd (pv 4) (pe_op Hk.oMulX pe_int (pv 6))) pe_int) (fun _ _ => rfl)) (pe_slice slAny (pv 5) po_none (po_some (pe_callG F__law_take hr (by rfl) pass0 (pa_cons (pv 0) (pa_cons pe_int pa_nil))))))))))))))))

theorem sc__law_take : FnScope ["_law_box_here", "_law_many", "_law_digit", "_law_one", "_law_other"] ["_law_box_here", "_law_many"] (defScope s__law_take) := ⟨rfl, rfl, rfl, by decide +kernel, rfl, by decide +kernel, by decide +kernel⟩
theorem dv__law_take {lv : Nat} (T : Txt K mg) {cdv : Value} {A : Around} {outer : List PySem.Env} {s : Shared} {H : Hp} {E : XK} {f : Addr} (hr : RoomG lv (A.deeper (envOfC "_law_take" (defScope s__law_take) s.heap.objs.size f cdv))) :
    PSs (cxOf CX0 P w K mg base ["_law_box_here", "_law_many", "_law_digit", "_law_one", "_law_other"] "_law_take" (defScope s__law_take) f cdv A outer s H E).nox (defBody s__law_take) (t__law_take K) := by
  have hu := hr.units
  have nd := sc__law_take.nd
  exact (pss_cons (ps_asg (pe_op Hk.oAdd (pe_ix (ixAny hu) (pv 0) pe_int (fun _ _ => rfl)) pe_int) (pg_sub (pv 0) pe_int set_list))
      (pss_cons (ps_if (pt_cmpR op_gt (pe_ix (ixAny hu) (pv 0) pe_int (fun _ _ => rfl)) pe_int (nomark _)) (pss_cons (ps_set (i := 2) nd rfl (by first | exact Or.inl rfl | exact Or.inr rfl) (pe_op op_mod (pe_ix (ixAny hu) (pv 0) pe_int (fun _ _ => rfl)) (pv 1)))
      (pss_cons (ps_asg (pe_op op_fdivW (pe_ix (ixAny hu) (pv 0) pe_int (fun _ _ => rfl)) (pv 1)) (pg_sub (pv 0) pe_int set_list))
      (pss_one (ps_ret (pv 2))))) pss_nil)
      (pss_cons (ps_set (i := 3) nd rfl (by first | exact Or.inl rfl | exact Or.inr rfl) (pe_op op_mod (pe_op op_pow (pe_op Hk.oAdd (pe_op Hk.oAdd (pe_ix (ixAny hu) (pv 0) pe_int (fun _ _ => rfl)) (pe_op Hk.oMulX pe_int (pe_ix (ixAny hu) (pv 0) pe_int (fun _ _ => rfl)))) pe_int) pe_int) pe_int))
      (pss_cons (ps_set (i := 4) nd rfl (by first | exact Or.inl rfl | exact Or.inr rfl) (pe_op op_mod (pe_op op_pow (pe_op Hk.oAdd (pe_op Hk.oAdd (pe_op Hk.oMulX (pe_ix (ixAny hu) (pv 0) pe_int (fun _ _ => rfl)) (pe_ix (ixAny hu) (pv 0) pe_int (fun _ _ => rfl))) (pe_op Hk.oMulX pe_int (pe_ix (ixAny hu) (pv 0) pe_int (fun _ _ => rfl)))) pe_int) pe_int) pe_int))
      (pss_one (ps_ret (pe_op op_mod (pe_op op_fdivW (pe_op Hk.oAdd (pe_op Hk.oMulX (pv 3) pe_int) (pv 4)) pe_int) (pv 1))))))))

theorem sc__law_cell : FnScope ["_law_script", "_law_k"] ["_law_script", "_law_k"] (defScope s__law_cell) := ⟨rfl, rfl, rfl, by decide +kernel, rfl, by decide +kernel, by decide +kernel⟩
theorem dv__law_cell {lv : Nat} (T : Txt K mg) {cdv : Value} {A : Around} {outer : List PySem.Env} {s : Shared} {H : Hp} {E : XK} {f : Addr} (hr : RoomG lv (A.deeper (envOfC "_law_cell" (defScope s__law_cell) s.heap.objs.size f cdv))) :
    PSs (cxOf CX0 P w K mg base ["_law_script", "_law_k"] "_law_cell" (defScope s__law_cell) f cdv A outer s H E).nox (defBody s__law_cell) (t__law_cell K) := by
  have hu := hr.units
  have nd := sc__law_cell.nd
  exact (pss_cons (ps_if (pt_cmpR Hk.oLt (pv 1) (pe_callB call_lenX (by rfl) T.b_len (by decide +kernel) (pa_cons (pv 0) pa_nil)) (nomark _)) (pss_one (ps_ret (pe_ix (ixAny hu) (pv 0) (pv 1) (fun _ _ => rfl)))) pss_nil)
      (pss_one (ps_ret (pe_op Hk.oAdd (pe_op Hk.oMulX pe_int (pv 1)) pe_int))))

theorem sc__law_box : FnScope ["_law_cell_here"] ["_law_cell_here"] (defScope s__law_box) := ⟨rfl, rfl, rfl, by decide +kernel, rfl, by decide +kernel, by decide +kernel⟩
theorem dv__law_box {lv : Nat} (T : Txt K mg) {cdv : Value} {A : Around} {outer : List PySem.Env} {s : Shared} {H : Hp} {E : XK} {f : Addr} (hr : RoomG lv (A.deeper (envOfC "_law_box" (defScope s__law_box) s.heap.objs.size f cdv))) :
    PSs (cxOf CX0 P w K mg base ["_law_cell_here"] "_law_box" (defScope s__law_box) f cdv A outer s H E).nox (defBody s__law_box) (t__law_box K) := by
  have hu := hr.units
  have nd := sc__law_box.nd
  exact (pss_one (ps_ret (pe_lst (pa_cons (pe_callB (call_max2 rfl) (by rfl) T.b_max (by decide +kernel) (pa_cons pe_int (pa_cons (pe_op op_sub (pv 0) (pe_op op_pow pe_int pe_int)) pa_nil))) (pa_cons (pe_op op_mod (pv 0) pe_int) (pa_cons pe_int pa_nil))))))
end
end Pu

namespace Pu
open PySem PySem.Spec PyProof.Rows L2 He Hk
theorem sc_i_NoText : FnScope ["self", "found"] ["self", "found"] (defScope m_NoText) := ⟨rfl, rfl, rfl, by decide +kernel, rfl, by decide +kernel, by decide +kernel⟩
theorem E_NoText {P : Program} {w : World} {K : PySem.W.Frag} {mg : Str → Option Value} {base : Heap} (Tx : Txt K mg) (F : ∃ fd, FunD K "__init__" "NoText.__init__" (defArgs m_NoText) (defBody m_NoText) (defScope m_NoText) [] [] (fAd K ("NoText", some "__init__")) fd) : ErrG P w K mg base 1 "NoText" "found" :=
  mkIni (k := 0) (msg := "no text") F Tx.g_NoText Tx.x_NoText sc_i_NoText rfl rfl (fun fd F => FunD.bindsN F fun _ _ _ _ _ _ us hl => match us, hl with | [_, _], _ => rfl) fun cdv A outer s H E => by
    have nd := sc_i_NoText.nd
    exact (pss_cons (ps_expr (pe_baseinit (by rfl) Tx.g_HeapError Tx.bas (pa_cons (pv 0) (pa_cons pe_str pa_nil)))) (pss_one (ps_ost (pv 0) (pv 1))))
theorem sc_i_BadText : FnScope ["self", "place"] ["self", "place"] (defScope m_BadText) := ⟨rfl, rfl, rfl, by decide +kernel, rfl, by decide +kernel, by decide +kernel⟩
theorem E_BadText {P : Program} {w : World} {K : PySem.W.Frag} {mg : Str → Option Value} {base : Heap} (Tx : Txt K mg) (F : ∃ fd, FunD K "__init__" "BadText.__init__" (defArgs m_BadText) (defBody m_BadText) (defScope m_BadText) [] [] (fAd K ("BadText", some "__init__")) fd) : ErrG P w K mg base 1 "BadText" "place" :=
  mkIni (k := 0) (msg := "a text that is not written so") F Tx.g_BadText Tx.x_BadText sc_i_BadText rfl rfl (fun fd F => FunD.bindsN F fun _ _ _ _ _ _ us hl => match us, hl with | [_, _], _ => rfl) fun cdv A outer s H E => by
    have nd := sc_i_BadText.nd
    exact (pss_cons (ps_expr (pe_baseinit (by rfl) Tx.g_HeapError Tx.bas (pa_cons (pv 0) (pa_cons pe_str pa_nil)))) (pss_one (ps_ost (pv 0) (pv 1))))
theorem sc_i_Doubled : FnScope ["self", "name"] ["self", "name"] (defScope m_Doubled) := ⟨rfl, rfl, rfl, by decide +kernel, rfl, by decide +kernel, by decide +kernel⟩
theorem E_Doubled {P : Program} {w : World} {K : PySem.W.Frag} {mg : Str → Option Value} {base : Heap} (Tx : Txt K mg) (F : ∃ fd, FunD K "__init__" "Doubled.__init__" (defArgs m_Doubled) (defBody m_Doubled) (defScope m_Doubled) [] [] (fAd K ("Doubled", some "__init__")) fd) : ErrG P w K mg base 1 "Doubled" "name" :=
  mkIni (k := 0) (msg := "a name that stands twice") F Tx.g_Doubled Tx.x_Doubled sc_i_Doubled rfl rfl (fun fd F => FunD.bindsN F fun _ _ _ _ _ _ us hl => match us, hl with | [_, _], _ => rfl) fun cdv A outer s H E => by
    have nd := sc_i_Doubled.nd
    exact (pss_cons (ps_expr (pe_baseinit (by rfl) Tx.g_HeapError Tx.bas (pa_cons (pv 0) (pa_cons pe_str pa_nil)))) (pss_one (ps_ost (pv 0) (pv 1))))
section
variable {P : Program} {w : World} {K : PySem.W.Frag} {mg : Str → Option Value} {base : Heap}
theorem st_Reader____init__ {lv m : Nat} (Tx : Txt K mg) (kf : KF K w) (D_Reader____init__ : ∃ fd, FunD K "__init__" "Reader.__init__" (defArgs s_Reader____init__) (defBody s_Reader____init__) (defScope s_Reader____init__) [] [] (fAd K ("Reader", some "__init__")) fd) : NOG P w K mg base CX0 (lv + 2) (fAd K ("Reader", some "__init__")) ["self", "text"] (spP K false (ps_rdini K)) :=
  mkM (k := lv + 1) D_Reader____init__ sc_Reader____init__ (fun _ _ _ _ _ _ us hl => match us, hl with | [_, _], _ => rfl) (fun cdv A outer s H E hr => dv_Reader____init__ Tx hr) rf_Reader____init__ (fun sl P h => by obtain ⟨_, _, rfl, _⟩ := h; rfl) (pure_rdini kf)
theorem st_Reader__ahead {lv m : Nat} (Tx : Txt K mg) (kf : KF K w) (D_Reader__ahead : ∃ fd, FunD K "ahead" "Reader.ahead" (defArgs s_Reader__ahead) (defBody s_Reader__ahead) (defScope s_Reader__ahead) [] [] (fAd K ("Reader", some "ahead")) fd) : NOG P w K mg base CX0 (lv + 2) (fAd K ("Reader", some "ahead")) ["self"] (spP K false (ps_ahead K)) :=
  mkM (k := lv + 1) D_Reader__ahead sc_Reader__ahead (fun _ _ _ _ _ _ us hl => match us, hl with | [_], _ => rfl) (fun cdv A outer s H E hr => dv_Reader__ahead Tx hr) rf_Reader__ahead (fun sl P h => by obtain ⟨_, _, _, _, rfl, _⟩ := h; rfl) (pure_ahead kf)
theorem st_Reader__take {lv m : Nat} (Tx : Txt K mg) (kf : KF K w) (D_Reader__take : ∃ fd, FunD K "take" "Reader.take" (defArgs s_Reader__take) (defBody s_Reader__take) (defScope s_Reader__take) [] [] (fAd K ("Reader", some "take")) fd) (F_Reader__ahead : NOG P w K mg base CX0 (lv) (fAd K ("Reader", some "ahead")) ["self"] (spP K false (ps_ahead K))) (E_BadText : ErrG P w K mg base 1 "BadText" "place") (hlv : 2 ≤ lv) : NOG P w K mg base (L2.CX P w) (lv + 2) (fAd K ("Reader", some "take")) ["self", "some"] (spX K false (ps_rtk K)) :=
  mkMX (k := lv + 1) (ts := fun W => t_Reader__take K W (spP K false (ps_ahead K))) D_Reader__take sc_Reader__take (fun _ _ _ _ _ _ us hl => match us, hl with | [_, _], _ => rfl) (fun cdv A outer s H E hr => dv_Reader__take Tx ((F_Reader__ahead.mono (by omega)).mog kf.c_Reader kf.m_Reader_ahead MOG.nil) E_BadText hr (by omega)) rf_Reader__take (fun sl P X h => by obtain ⟨_, _, _, _, _, rfl, _⟩ := h; rfl) (pure_rtk kf)
theorem st_Reader__ends {lv m : Nat} (Tx : Txt K mg) (kf : KF K w) (D_Reader__ends : ∃ fd, FunD K "ends" "Reader.ends" (defArgs s_Reader__ends) (defBody s_Reader__ends) (defScope s_Reader__ends) [] [] (fAd K ("Reader", some "ends")) fd) (F_Reader__ahead : NOG P w K mg base CX0 (lv) (fAd K ("Reader", some "ahead")) ["self"] (spP K false (ps_ahead K))) : NOG P w K mg base CX0 (lv + 2) (fAd K ("Reader", some "ends")) ["self", "text"] (spP K false (ps_rends K)) :=
  mkM (k := lv + 1) D_Reader__ends sc_Reader__ends (fun _ _ _ _ _ _ us hl => match us, hl with | [_, _], _ => rfl) (fun cdv A outer s H E hr => dv_Reader__ends Tx ((F_Reader__ahead.mono (by omega)).mog kf.c_Reader kf.m_Reader_ahead MOG.nil) hr) rf_Reader__ends (fun sl P h => by obtain ⟨_, _, _, _, _, rfl, _⟩ := h; rfl) (pure_rends kf)
theorem st_is_sign {lv m : Nat} (Tx : Txt K mg) (kf : KF K w) (D_is_sign : ∃ fd, FunD K "is_sign" "is_sign" (defArgs s_is_sign) (defBody s_is_sign) (defScope s_is_sign) [] [] (ga K "is_sign") fd) (g_is_sign : mg "is_sign" = some (.ref (ga K "is_sign"))) : FOG P w K mg base CX0 (lv + 2) "is_sign" ["sign"] (spP K false ps_sign) :=
  mkP (k := lv + 1) D_is_sign g_is_sign sc_is_sign (fun _ _ _ _ _ _ us hl => match us, hl with | [_], _ => rfl) (fun cdv A outer s H E hr => dv_is_sign Tx hr) rf_is_sign (fun sl P h => by obtain ⟨_, rfl, _⟩ := h; rfl) pure_sign
theorem st_Reader__read_quoted {lv m : Nat} (Tx : Txt K mg) (kf : KF K w) (D_Reader__read_quoted : ∃ fd, FunD K "read_quoted" "Reader.read_quoted" (defArgs s_Reader__read_quoted) (defBody s_Reader__read_quoted) (defScope s_Reader__read_quoted) [] [] (fAd K ("Reader", some "read_quoted")) fd) (F_Reader__take : NOG P w K mg base (L2.CX P w) (lv) (fAd K ("Reader", some "take")) ["self", "some"] (spX K false (ps_rtk K))) (F_Reader__ends : NOG P w K mg base CX0 (lv) (fAd K ("Reader", some "ends")) ["self", "text"] (spP K false (ps_rends K))) (F_Reader__ahead : NOG P w K mg base CX0 (lv) (fAd K ("Reader", some "ahead")) ["self"] (spP K false (ps_ahead K))) (F_is_sign : FOG P w K mg base CX0 (lv) "is_sign" ["sign"] (spP K false ps_sign)) (E_BadText : ErrG P w K mg base 1 "BadText" "place") (hlv : 2 ≤ lv) : NOG P w K mg base (L2.CX P w) (lv + 2) (fAd K ("Reader", some "read_quoted")) ["self"] (spX K false (ps_rquo K)) :=
  mkMX (k := lv + 1) (ts := fun W => t_Reader__read_quoted K W (spX K false (ps_rtk K)) (spP K false (ps_rends K)) (spP K false (ps_ahead K)) (spP K false ps_sign)) D_Reader__read_quoted sc_Reader__read_quoted (fun _ _ _ _ _ _ us hl => match us, hl with | [_], _ => rfl) (fun cdv A outer s H E hr => dv_Reader__read_quoted Tx (F_is_sign.mono (by omega)) ((F_Reader__take.mono (by omega)).mog kf.c_Reader kf.m_Reader_take MOG.nil) ((F_Reader__ends.mono (by omega)).mog kf.c_Reader kf.m_Reader_ends MOG.nil) ((F_Reader__ahead.mono (by omega)).mog kf.c_Reader kf.m_Reader_ahead MOG.nil) E_BadText hr (by omega)) rf_Reader__read_quoted (fun sl P X h => by obtain ⟨_, _, _, _, rfl, _⟩ := h; rfl) (pure_rquo kf)
theorem st_Reader__take_all {lv m : Nat} (Tx : Txt K mg) (kf : KF K w) (D_Reader__take_all : ∃ fd, FunD K "take_all" "Reader.take_all" (defArgs s_Reader__take_all) (defBody s_Reader__take_all) (defScope s_Reader__take_all) [] [] (fAd K ("Reader", some "take_all")) fd) (F_Reader__take : NOG P w K mg base (L2.CX P w) (lv) (fAd K ("Reader", some "take")) ["self", "some"] (spX K false (ps_rtk K))) : NOG P w K mg base (L2.CX P w) (lv + 2) (fAd K ("Reader", some "take_all")) ["self", "text"] (spX K false (ps_rta K)) :=
  mkMX (k := lv + 1) (ts := fun W => t_Reader__take_all K W (spX K false (ps_rtk K))) D_Reader__take_all sc_Reader__take_all (fun _ _ _ _ _ _ us hl => match us, hl with | [_, _], _ => rfl) (fun cdv A outer s H E hr => dv_Reader__take_all Tx ((F_Reader__take.mono (by omega)).mog kf.c_Reader kf.m_Reader_take MOG.nil) hr) rf_Reader__take_all (fun sl P X h => by obtain ⟨_, _, _, _, _, rfl, _⟩ := h; rfl) (pure_rta kf)
theorem st_Reader__read_number {lv m : Nat} (Tx : Txt K mg) (kf : KF K w) (D_Reader__read_number : ∃ fd, FunD K "read_number" "Reader.read_number" (defArgs s_Reader__read_number) (defBody s_Reader__read_number) (defScope s_Reader__read_number) [] [] (fAd K ("Reader", some "read_number")) fd) (F_Reader__ahead : NOG P w K mg base CX0 (lv) (fAd K ("Reader", some "ahead")) ["self"] (spP K false (ps_ahead K))) (F_Reader__take : NOG P w K mg base (L2.CX P w) (lv) (fAd K ("Reader", some "take")) ["self", "some"] (spX K false (ps_rtk K))) : NOG P w K mg base (L2.CX P w) (lv + 2) (fAd K ("Reader", some "read_number")) ["self"] (spX K false (ps_rnum K)) :=
  mkMX (k := lv + 1) (ts := fun W => t_Reader__read_number K W (spP K false (ps_ahead K)) (spX K false (ps_rtk K))) D_Reader__read_number sc_Reader__read_number (fun _ _ _ _ _ _ us hl => match us, hl with | [_], _ => rfl) (fun cdv A outer s H E hr => dv_Reader__read_number Tx ((F_Reader__ahead.mono (by omega)).mog kf.c_Reader kf.m_Reader_ahead MOG.nil) ((F_Reader__take.mono (by omega)).mog kf.c_Reader kf.m_Reader_take MOG.nil) hr) rf_Reader__read_number (fun sl P X h => by obtain ⟨_, _, _, _, rfl, _⟩ := h; rfl) (pure_rnum kf)
theorem st_Reader__read_any {lv m : Nat} (Tx : Txt K mg) (kf : KF K w) (D_Reader__read_any : ∃ fd, FunD K "read_any" "Reader.read_any" (defArgs s_Reader__read_any) (defBody s_Reader__read_any) (defScope s_Reader__read_any) [] [] (fAd K ("Reader", some "read_any")) fd) (F_Reader__ahead : NOG P w K mg base CX0 (lv) (fAd K ("Reader", some "ahead")) ["self"] (spP K false (ps_ahead K))) (F_Reader__read_quoted : NOG P w K mg base (L2.CX P w) (lv) (fAd K ("Reader", some "read_quoted")) ["self"] (spX K false (ps_rquo K))) (F_Reader__read_row : NOG P w K mg base (L2.CX P w) (lv) (fAd K ("Reader", some "read_row")) ["self", "level"] (spX K false ((ps_rrow K) m))) (F_Reader__read_fields : NOG P w K mg base (L2.CX P w) (lv) (fAd K ("Reader", some "read_fields")) ["self", "level"] (spX K false ((ps_rflds K) m))) (F_Reader__take_all : NOG P w K mg base (L2.CX P w) (lv) (fAd K ("Reader", some "take_all")) ["self", "text"] (spX K false (ps_rta K))) (F_Reader__read_number : NOG P w K mg base (L2.CX P w) (lv) (fAd K ("Reader", some "read_number")) ["self"] (spX K false (ps_rnum K))) : NOG P w K mg base (L2.CX P w) (lv + 2) (fAd K ("Reader", some "read_any")) ["self", "level"] (spX K false ((ps_rany K) (m + 1))) :=
  mkMX (k := lv + 1) (ts := fun W => t_Reader__read_any K W (spP K false (ps_ahead K)) (spX K false (ps_rquo K)) (spX K false ((ps_rrow K) m)) (spX K false ((ps_rflds K) m)) (spX K false (ps_rta K)) (spX K false (ps_rnum K))) D_Reader__read_any sc_Reader__read_any (fun _ _ _ _ _ _ us hl => match us, hl with | [_, _], _ => rfl) (fun cdv A outer s H E hr => dv_Reader__read_any Tx ((F_Reader__ahead.mono (by omega)).mog kf.c_Reader kf.m_Reader_ahead MOG.nil) ((F_Reader__read_quoted.mono (by omega)).mog kf.c_Reader kf.m_Reader_read_quoted MOG.nil) ((F_Reader__read_row.mono (by omega)).mog kf.c_Reader kf.m_Reader_read_row MOG.nil) ((F_Reader__read_fields.mono (by omega)).mog kf.c_Reader kf.m_Reader_read_fields MOG.nil) ((F_Reader__take_all.mono (by omega)).mog kf.c_Reader kf.m_Reader_take_all MOG.nil) ((F_Reader__read_number.mono (by omega)).mog kf.c_Reader kf.m_Reader_read_number MOG.nil) hr) rf_Reader__read_any (fun sl P X h => by obtain ⟨_, _, _, _, _, rfl, _⟩ := h; rfl) (pure_rany kf)
theorem st_Reader__read_row {lv m : Nat} (Tx : Txt K mg) (kf : KF K w) (D_Reader__read_row : ∃ fd, FunD K "read_row" "Reader.read_row" (defArgs s_Reader__read_row) (defBody s_Reader__read_row) (defScope s_Reader__read_row) [] [] (fAd K ("Reader", some "read_row")) fd) (F_Reader__take : NOG P w K mg base (L2.CX P w) (lv) (fAd K ("Reader", some "take")) ["self", "some"] (spX K false (ps_rtk K))) (F_Reader__ahead : NOG P w K mg base CX0 (lv) (fAd K ("Reader", some "ahead")) ["self"] (spP K false (ps_ahead K))) (F_Reader__read_any : NOG P w K mg base (L2.CX P w) (lv) (fAd K ("Reader", some "read_any")) ["self", "level"] (spX K false ((ps_rany K) m))) (F_Reader__take_all : NOG P w K mg base (L2.CX P w) (lv) (fAd K ("Reader", some "take_all")) ["self", "text"] (spX K false (ps_rta K))) : NOG P w K mg base (L2.CX P w) (lv + 2) (fAd K ("Reader", some "read_row")) ["self", "level"] (spX K false ((ps_rrow K) (m + 1))) :=
  mkMX (k := lv + 1) (ts := fun W => t_Reader__read_row K W (spX K false (ps_rtk K)) (spP K false (ps_ahead K)) (spX K false ((ps_rany K) m)) (spX K false (ps_rta K))) D_Reader__read_row sc_Reader__read_row (fun _ _ _ _ _ _ us hl => match us, hl with | [_, _], _ => rfl) (fun cdv A outer s H E hr => dv_Reader__read_row Tx ((F_Reader__take.mono (by omega)).mog kf.c_Reader kf.m_Reader_take MOG.nil) ((F_Reader__ahead.mono (by omega)).mog kf.c_Reader kf.m_Reader_ahead MOG.nil) ((F_Reader__read_any.mono (by omega)).mog kf.c_Reader kf.m_Reader_read_any MOG.nil) ((F_Reader__take_all.mono (by omega)).mog kf.c_Reader kf.m_Reader_take_all MOG.nil) hr) rf_Reader__read_row (fun sl P X h => by obtain ⟨_, _, _, _, _, rfl, _⟩ := h; rfl) (pure_rrow kf)
theorem st_Reader__read_fields {lv m : Nat} (Tx : Txt K mg) (kf : KF K w) (D_Reader__read_fields : ∃ fd, FunD K "read_fields" "Reader.read_fields" (defArgs s_Reader__read_fields) (defBody s_Reader__read_fields) (defScope s_Reader__read_fields) [] [] (fAd K ("Reader", some "read_fields")) fd) (F_Reader__take : NOG P w K mg base (L2.CX P w) (lv) (fAd K ("Reader", some "take")) ["self", "some"] (spX K false (ps_rtk K))) (F_Reader__ahead : NOG P w K mg base CX0 (lv) (fAd K ("Reader", some "ahead")) ["self"] (spP K false (ps_ahead K))) (F_Reader__read_field : NOG P w K mg base (L2.CX P w) (lv) (fAd K ("Reader", some "read_field")) ["self", "found", "level"] (spX K false ((ps_rfld K) m))) (F_Reader__take_all : NOG P w K mg base (L2.CX P w) (lv) (fAd K ("Reader", some "take_all")) ["self", "text"] (spX K false (ps_rta K))) : NOG P w K mg base (L2.CX P w) (lv + 2) (fAd K ("Reader", some "read_fields")) ["self", "level"] (spX K false ((ps_rflds K) (m + 1))) :=
  mkMX (k := lv + 1) (ts := fun W => t_Reader__read_fields K W (spX K false (ps_rtk K)) (spP K false (ps_ahead K)) (spX K false ((ps_rfld K) m)) (spX K false (ps_rta K))) D_Reader__read_fields sc_Reader__read_fields (fun _ _ _ _ _ _ us hl => match us, hl with | [_, _], _ => rfl) (fun cdv A outer s H E hr => dv_Reader__read_fields Tx ((F_Reader__take.mono (by omega)).mog kf.c_Reader kf.m_Reader_take MOG.nil) ((F_Reader__ahead.mono (by omega)).mog kf.c_Reader kf.m_Reader_ahead MOG.nil) ((F_Reader__read_field.mono (by omega)).mog kf.c_Reader kf.m_Reader_read_field MOG.nil) ((F_Reader__take_all.mono (by omega)).mog kf.c_Reader kf.m_Reader_take_all MOG.nil) hr) rf_Reader__read_fields (fun sl P X h => by obtain ⟨_, _, _, _, _, rfl, _⟩ := h; rfl) (pure_rflds kf)
theorem st_Reader__read_field {lv m : Nat} (Tx : Txt K mg) (kf : KF K w) (D_Reader__read_field : ∃ fd, FunD K "read_field" "Reader.read_field" (defArgs s_Reader__read_field) (defBody s_Reader__read_field) (defScope s_Reader__read_field) [] [] (fAd K ("Reader", some "read_field")) fd) (F_Reader__take : NOG P w K mg base (L2.CX P w) (lv) (fAd K ("Reader", some "take")) ["self", "some"] (spX K false (ps_rtk K))) (F_Reader__ahead : NOG P w K mg base CX0 (lv) (fAd K ("Reader", some "ahead")) ["self"] (spP K false (ps_ahead K))) (F_Reader__take_all : NOG P w K mg base (L2.CX P w) (lv) (fAd K ("Reader", some "take_all")) ["self", "text"] (spX K false (ps_rta K))) (F_Reader__read_any : NOG P w K mg base (L2.CX P w) (lv) (fAd K ("Reader", some "read_any")) ["self", "level"] (spX K false ((ps_rany K) m))) : NOG P w K mg base (L2.CX P w) (lv + 2) (fAd K ("Reader", some "read_field")) ["self", "found", "level"] (spX K false ((ps_rfld K) (m + 1))) :=
  mkMX (k := lv + 1) (ts := fun W => t_Reader__read_field K W (spX K false (ps_rtk K)) (spP K false (ps_ahead K)) (spX K false (ps_rta K)) (spX K false ((ps_rany K) m))) D_Reader__read_field sc_Reader__read_field (fun _ _ _ _ _ _ us hl => match us, hl with | [_, _, _], _ => rfl) (fun cdv A outer s H E hr => dv_Reader__read_field Tx ((F_Reader__take.mono (by omega)).mog kf.c_Reader kf.m_Reader_take MOG.nil) ((F_Reader__ahead.mono (by omega)).mog kf.c_Reader kf.m_Reader_ahead MOG.nil) ((F_Reader__take_all.mono (by omega)).mog kf.c_Reader kf.m_Reader_take_all MOG.nil) ((F_Reader__read_any.mono (by omega)).mog kf.c_Reader kf.m_Reader_read_any MOG.nil) hr) rf_Reader__read_field (fun sl P X h => by obtain ⟨_, _, _, _, _, _, _, rfl, _⟩ := h; rfl) (pure_rfld kf)
theorem st_read_worth {lv m : Nat} (Tx : Txt K mg) (kf : KF K w) (D_read_worth : ∃ fd, FunD K "read_worth" "read_worth" (defArgs s_read_worth) (defBody s_read_worth) (defScope s_read_worth) [] [] (ga K "read_worth") fd) (g_read_worth : mg "read_worth" = some (.ref (ga K "read_worth"))) (F_Reader____init__ : NOG P w K mg base CX0 (lv) (fAd K ("Reader", some "__init__")) ["self", "text"] (spP K false (ps_rdini K))) (F_Reader__read_any : NOG P w K mg base (L2.CX P w) (lv) (fAd K ("Reader", some "read_any")) ["self", "level"] (spX K false ((ps_rany K) 12))) (E_NoText : ErrG P w K mg base 1 "NoText" "found") (E_BadText : ErrG P w K mg base 1 "BadText" "place") (E_Doubled : ErrG P w K mg base 1 "Doubled" "name") (hlv : 2 ≤ lv) : FOG P w K mg base (L2.CX P w) (lv + 2) "read_worth" ["text"] (spX K false (ps_rdw K)) :=
  mkPX (k := lv + 1) (ts := fun W => t_read_worth K W (spP K false (ps_rdini K)) (spX K false ((ps_rany K) 12))) D_read_worth g_read_worth sc_read_worth (fun _ _ _ _ _ _ us hl => match us, hl with | [_], _ => rfl) (fun cdv A outer s H E hr => dv_read_worth Tx (NOG.cog F_Reader____init__ Tx.g_Reader kf.k_Reader) (by omega) ((F_Reader__read_any.mono (by omega)).mog kf.c_Reader kf.m_Reader_read_any MOG.nil) E_NoText E_BadText E_Doubled hr (by omega)) rf_read_worth (fun sl P X h => by obtain ⟨_, rfl, _⟩ := h; rfl) (pure_rdw kf)
theorem st__law_asked {lv m : Nat} (Tx : Txt K mg) (kf : KF K w) (D__law_asked : ∃ fd, FunD K "_law_asked" "_law_asked" (defArgs s__law_asked) (defBody s__law_asked) (defScope s__law_asked) [] [] (ga K "_law_asked") fd) (g__law_asked : mg "_law_asked" = some (.ref (ga K "_law_asked"))) (F_read_worth : FOG P w K mg base (L2.CX P w) (lv) "read_worth" ["text"] (spX K false (ps_rdw K))) : FOG P w K mg base CX0 (lv + 2) "_law_asked" ["_law_text"] (spP K false ps_rask) :=
  mkP (k := lv + 1) D__law_asked g__law_asked sc__law_asked (fun _ _ _ _ _ _ us hl => match us, hl with | [_], _ => rfl) (fun cdv A outer s H E hr => dv__law_asked Tx (F_read_worth.mono (by omega)) hr) rf__law_asked (fun sl P h => by obtain ⟨_, rfl, _⟩ := h; rfl) (pure_rask kf)
theorem st__law_loose {lv m : Nat} (Tx : Txt K mg) (kf : KF K w) (D__law_loose : ∃ fd, FunD K "_law_loose" "_law_loose" (defArgs s__law_loose) (defBody s__law_loose) (defScope s__law_loose) [] [] (ga K "_law_loose") fd) (g__law_loose : mg "_law_loose" = some (.ref (ga K "_law_loose"))) (F__law_loose : FOG P w K mg base CX0 (lv) "_law_loose" ["_law_worth"] (spP K false (ps_loo m))) : FOG P w K mg base CX0 (lv + 2) "_law_loose" ["_law_worth"] (spP K false (ps_loo (m + 1))) :=
  mkP (k := lv + 1) D__law_loose g__law_loose sc__law_loose (fun _ _ _ _ _ _ us hl => match us, hl with | [_], _ => rfl) (fun cdv A outer s H E hr => dv__law_loose Tx (F__law_loose.mono (by omega)) hr) rf__law_loose (fun sl P h => by obtain ⟨_, _, rfl, _⟩ := h; rfl) pure_loo
theorem st__law_right {lv m : Nat} (Tx : Txt K mg) (kf : KF K w) (D__law_right : ∃ fd, FunD K "_law_right" "_law_right" (defArgs s__law_right) (defBody s__law_right) (defScope s__law_right) [] [] (ga K "_law_right") fd) (g__law_right : mg "_law_right" = some (.ref (ga K "_law_right"))) (F__law_asked : FOG P w K mg base CX0 (lv) "_law_asked" ["_law_text"] (spP K false ps_rask)) (F__law_loose : FOG P w K mg base CX0 (lv) "_law_loose" ["_law_worth"] (spP K false (ps_loo 5))) : FOG P w K mg base CX0 (lv + 2) "_law_right" ["_law_text", "_law_twice_here"] (spP K false ps_rig) :=
  mkP (k := lv + 1) D__law_right g__law_right sc__law_right (fun _ _ _ _ _ _ us hl => match us, hl with | [_, _], _ => rfl) (fun cdv A outer s H E hr => dv__law_right Tx (F__law_asked.mono (by omega)) (F__law_loose.mono (by omega)) hr) rf__law_right (fun sl P h => by obtain ⟨_, rfl, _⟩ := h; rfl) pure_rig
theorem st__law_twice {lv m : Nat} (Tx : Txt K mg) (kf : KF K w) (D__law_twice : ∃ fd, FunD K "_law_twice" "_law_twice" (defArgs s__law_twice) (defBody s__law_twice) (defScope s__law_twice) [] [] (ga K "_law_twice") fd) (g__law_twice : mg "_law_twice" = some (.ref (ga K "_law_twice"))) (F__law_twice : FOG P w K mg base CX0 (lv) "_law_twice" ["_law_tree_here"] (spP K false (ps_twi m))) : FOG P w K mg base CX0 (lv + 2) "_law_twice" ["_law_tree_here"] (spP K false (ps_twi (m + 1))) :=
  mkP (k := lv + 1) D__law_twice g__law_twice sc__law_twice (fun _ _ _ _ _ _ us hl => match us, hl with | [_], _ => rfl) (fun cdv A outer s H E hr => dv__law_twice Tx (F__law_twice.mono (by omega)) hr) rf__law_twice (fun sl P h => by obtain ⟨_, _, rfl, _⟩ := h; rfl) pure_twi
theorem st__law_written {lv m : Nat} (Tx : Txt K mg) (kf : KF K w) (D__law_written : ∃ fd, FunD K "_law_written" "_law_written" (defArgs s__law_written) (defBody s__law_written) (defScope s__law_written) [] [] (ga K "_law_written") fd) (g__law_written : mg "_law_written" = some (.ref (ga K "_law_written"))) (F__law_written : FOG P w K mg base CX0 (lv) "_law_written" ["_law_tree_here"] (spP K false (ps_wri m))) : FOG P w K mg base CX0 (lv + 2) "_law_written" ["_law_tree_here"] (spP K false (ps_wri (m + 1))) :=
  mkP (k := lv + 1) D__law_written g__law_written sc__law_written (fun _ _ _ _ _ _ us hl => match us, hl with | [_], _ => rfl) (fun cdv A outer s H E hr => dv__law_written Tx (F__law_written.mono (by omega)) hr) rf__law_written (fun sl P h => by obtain ⟨_, _, rfl, _⟩ := h; rfl) pure_wri
theorem st__law_take {lv m : Nat} (Tx : Txt K mg) (kf : KF K w) (D__law_take : ∃ fd, FunD K "_law_take" "_law_take" (defArgs s__law_take) (defBody s__law_take) (defScope s__law_take) [] [] (ga K "_law_take") fd) (g__law_take : mg "_law_take" = some (.ref (ga K "_law_take"))) : FOG P w K mg base CX0 (lv + 2) "_law_take" ["_law_box_here", "_law_many"] (spP K false ps_take) :=
  mkP (k := lv + 1) D__law_take g__law_take sc__law_take (fun _ _ _ _ _ _ us hl => match us, hl with | [_, _], _ => rfl) (fun cdv A outer s H E hr => dv__law_take Tx hr) rf__law_take (fun sl P h => by obtain ⟨_, _, _, _, rfl, _⟩ := h; rfl) pure_take3
theorem st__law_names {lv m : Nat} (Tx : Txt K mg) (kf : KF K w) (D__law_names : ∃ fd, FunD K "_law_names" "_law_names" (defArgs s__law_names) (defBody s__law_names) (defScope s__law_names) [] [] (ga K "_law_names") fd) (g__law_names : mg "_law_names" = some (.ref (ga K "_law_names"))) (F__law_take : FOG P w K mg base CX0 (lv) "_law_take" ["_law_box_here", "_law_many"] (spP K false ps_take)) : FOG P w K mg base CX0 (lv + 2) "_law_names" ["_law_box_here", "_law_many"] (spP K true ps_nam3) :=
  mkP (k := lv + 1) D__law_names g__law_names sc__law_names (fun _ _ _ _ _ _ us hl => match us, hl with | [_, _], _ => rfl) (fun cdv A outer s H E hr => dv__law_names Tx (F__law_take.mono (by omega)) hr) rf__law_names (fun sl P h => by obtain ⟨_, _, _, _, rfl, _⟩ := h; rfl) pure_nam3
theorem st__law_tree {lv m : Nat} (Tx : Txt K mg) (kf : KF K w) (D__law_tree : ∃ fd, FunD K "_law_tree" "_law_tree" (defArgs s__law_tree) (defBody s__law_tree) (defScope s__law_tree) [] [] (ga K "_law_tree") fd) (g__law_tree : mg "_law_tree" = some (.ref (ga K "_law_tree"))) (F__law_take : FOG P w K mg base CX0 (lv) "_law_take" ["_law_box_here", "_law_many"] (spP K false ps_take)) (F__law_tree : FOG P w K mg base CX0 (lv) "_law_tree" ["_law_box_here", "_law_left"] (spP K false (ps_tree m))) (F__law_names : FOG P w K mg base CX0 (lv) "_law_names" ["_law_box_here", "_law_many"] (spP K true ps_nam3)) : FOG P w K mg base CX0 (lv + 2) "_law_tree" ["_law_box_here", "_law_left"] (spP K false (ps_tree (m + 1))) :=
  mkP (k := lv + 1) D__law_tree g__law_tree sc__law_tree (fun _ _ _ _ _ _ us hl => match us, hl with | [_, _], _ => rfl) (fun cdv A outer s H E hr => dv__law_tree Tx (F__law_take.mono (by omega)) (F__law_tree.mono (by omega)) (F__law_names.mono (by omega)) hr) rf__law_tree (fun sl P h => by obtain ⟨_, _, _, _, rfl, _⟩ := h; rfl) pure_tree
theorem st__law_cell {lv m : Nat} (Tx : Txt K mg) (kf : KF K w) (D__law_cell : ∃ fd, FunD K "_law_cell" "_law_cell" (defArgs s__law_cell) (defBody s__law_cell) (defScope s__law_cell) [] [] (ga K "_law_cell") fd) (g__law_cell : mg "_law_cell" = some (.ref (ga K "_law_cell"))) : FOG P w K mg base CX0 (lv + 2) "_law_cell" ["_law_script", "_law_k"] (spP K false ps_cell) :=
  mkP (k := lv + 1) D__law_cell g__law_cell sc__law_cell (fun _ _ _ _ _ _ us hl => match us, hl with | [_, _], _ => rfl) (fun cdv A outer s H E hr => dv__law_cell Tx hr) rf__law_cell (fun sl P h => by obtain ⟨_, _, rfl, _⟩ := h; rfl) pure_cell
theorem st__law_box {lv m : Nat} (Tx : Txt K mg) (kf : KF K w) (D__law_box : ∃ fd, FunD K "_law_box" "_law_box" (defArgs s__law_box) (defBody s__law_box) (defScope s__law_box) [] [] (ga K "_law_box") fd) (g__law_box : mg "_law_box" = some (.ref (ga K "_law_box"))) : FOG P w K mg base CX0 (lv + 2) "_law_box" ["_law_cell_here"] (spP K true ps_box) :=
  mkP (k := lv + 1) D__law_box g__law_box sc__law_box (fun _ _ _ _ _ _ us hl => match us, hl with | [_], _ => rfl) (fun cdv A outer s H E hr => dv__law_box Tx hr) rf__law_box (fun sl P h => by obtain ⟨_, rfl, _⟩ := h; rfl) pure_box3
theorem gr_0 {lv : Nat} (Tx : Txt K mg) (kf : KF K w) (D_Reader__read_any : ∃ fd, FunD K "read_any" "Reader.read_any" (defArgs s_Reader__read_any) (defBody s_Reader__read_any) (defScope s_Reader__read_any) [] [] (fAd K ("Reader", some "read_any")) fd) (D_Reader__read_row : ∃ fd, FunD K "read_row" "Reader.read_row" (defArgs s_Reader__read_row) (defBody s_Reader__read_row) (defScope s_Reader__read_row) [] [] (fAd K ("Reader", some "read_row")) fd) (D_Reader__read_fields : ∃ fd, FunD K "read_fields" "Reader.read_fields" (defArgs s_Reader__read_fields) (defBody s_Reader__read_fields) (defScope s_Reader__read_fields) [] [] (fAd K ("Reader", some "read_fields")) fd) (D_Reader__read_field : ∃ fd, FunD K "read_field" "Reader.read_field" (defArgs s_Reader__read_field) (defBody s_Reader__read_field) (defScope s_Reader__read_field) [] [] (fAd K ("Reader", some "read_field")) fd) (F_Reader__ahead : NOG P w K mg base CX0 (lv) (fAd K ("Reader", some "ahead")) ["self"] (spP K false (ps_ahead K))) (F_Reader__read_quoted : NOG P w K mg base (L2.CX P w) (lv) (fAd K ("Reader", some "read_quoted")) ["self"] (spX K false (ps_rquo K))) (F_Reader__take_all : NOG P w K mg base (L2.CX P w) (lv) (fAd K ("Reader", some "take_all")) ["self", "text"] (spX K false (ps_rta K))) (F_Reader__read_number : NOG P w K mg base (L2.CX P w) (lv) (fAd K ("Reader", some "read_number")) ["self"] (spX K false (ps_rnum K))) (F_Reader__take : NOG P w K mg base (L2.CX P w) (lv) (fAd K ("Reader", some "take")) ["self", "some"] (spX K false (ps_rtk K))) : ∀ m : Nat, NOG P w K mg base (L2.CX P w) (lv + 2 * m) (fAd K ("Reader", some "read_any")) ["self", "level"] (spX K false ((ps_rany K) m)) ∧ NOG P w K mg base (L2.CX P w) (lv + 2 * m) (fAd K ("Reader", some "read_row")) ["self", "level"] (spX K false ((ps_rrow K) m)) ∧ NOG P w K mg base (L2.CX P w) (lv + 2 * m) (fAd K ("Reader", some "read_fields")) ["self", "level"] (spX K false ((ps_rflds K) m)) ∧ NOG P w K mg base (L2.CX P w) (lv + 2 * m) (fAd K ("Reader", some "read_field")) ["self", "found", "level"] (spX K false ((ps_rfld K) m))
  | 0 => ⟨nog_no D_Reader__read_any (fun _ _ _ _ _ _ us hl => match us, hl with | [_, _], _ => rfl) (fun vs H Q E h => by obtain ⟨O, sl, P, X, R, hps, _⟩ := h; exact no_rany hps), nog_no D_Reader__read_row (fun _ _ _ _ _ _ us hl => match us, hl with | [_, _], _ => rfl) (fun vs H Q E h => by obtain ⟨O, sl, P, X, R, hps, _⟩ := h; exact no_rrow hps), nog_no D_Reader__read_fields (fun _ _ _ _ _ _ us hl => match us, hl with | [_, _], _ => rfl) (fun vs H Q E h => by obtain ⟨O, sl, P, X, R, hps, _⟩ := h; exact no_rflds hps), nog_no D_Reader__read_field (fun _ _ _ _ _ _ us hl => match us, hl with | [_, _, _], _ => rfl) (fun vs H Q E h => by obtain ⟨O, sl, P, X, R, hps, _⟩ := h; exact no_rfld hps)⟩
  | m + 1 => by
    have ih := gr_0 (lv := lv) Tx kf D_Reader__read_any D_Reader__read_row D_Reader__read_fields D_Reader__read_field F_Reader__ahead F_Reader__read_quoted F_Reader__take_all F_Reader__read_number F_Reader__take m
    have F_Reader__read_any := ih.1
    have F_Reader__read_row := ih.2.1
    have F_Reader__read_fields := ih.2.2.1
    have F_Reader__read_field := ih.2.2.2
    exact ⟨(st_Reader__read_any (lv := lv + 2 * m) (m := m) Tx kf D_Reader__read_any (F_Reader__ahead.mono (by omega)) (F_Reader__read_quoted.mono (by omega)) F_Reader__read_row F_Reader__read_fields (F_Reader__take_all.mono (by omega)) (F_Reader__read_number.mono (by omega))).mono (by omega), (st_Reader__read_row (lv := lv + 2 * m) (m := m) Tx kf D_Reader__read_row (F_Reader__take.mono (by omega)) (F_Reader__ahead.mono (by omega)) F_Reader__read_any (F_Reader__take_all.mono (by omega))).mono (by omega), (st_Reader__read_fields (lv := lv + 2 * m) (m := m) Tx kf D_Reader__read_fields (F_Reader__take.mono (by omega)) (F_Reader__ahead.mono (by omega)) F_Reader__read_field (F_Reader__take_all.mono (by omega))).mono (by omega), (st_Reader__read_field (lv := lv + 2 * m) (m := m) Tx kf D_Reader__read_field (F_Reader__take.mono (by omega)) (F_Reader__ahead.mono (by omega)) (F_Reader__take_all.mono (by omega)) F_Reader__read_any).mono (by omega)⟩
theorem gr_1 {lv : Nat} (Tx : Txt K mg) (kf : KF K w) (D__law_tree : ∃ fd, FunD K "_law_tree" "_law_tree" (defArgs s__law_tree) (defBody s__law_tree) (defScope s__law_tree) [] [] (ga K "_law_tree") fd) (g__law_tree : mg "_law_tree" = some (.ref (ga K "_law_tree"))) (F__law_take : FOG P w K mg base CX0 (lv) "_law_take" ["_law_box_here", "_law_many"] (spP K false ps_take)) (F__law_names : FOG P w K mg base CX0 (lv) "_law_names" ["_law_box_here", "_law_many"] (spP K true ps_nam3)) : ∀ m : Nat, FOG P w K mg base CX0 (lv + 2 * m) "_law_tree" ["_law_box_here", "_law_left"] (spP K false (ps_tree m))
  | 0 => fog_no D__law_tree g__law_tree (fun _ _ _ _ _ _ us hl => match us, hl with | [_, _], _ => rfl) (fun vs H Q E h => by obtain ⟨O, sl, P, R, hps, _⟩ := h; exact no_tree hps)
  | m + 1 => by
    have ih := gr_1 (lv := lv) Tx kf D__law_tree g__law_tree F__law_take F__law_names m
    have F__law_tree := ih
    exact (st__law_tree (lv := lv + 2 * m) (m := m) Tx kf D__law_tree g__law_tree (F__law_take.mono (by omega)) F__law_tree (F__law_names.mono (by omega))).mono (by omega)
theorem gr_2 {lv : Nat} (Tx : Txt K mg) (kf : KF K w) (D__law_written : ∃ fd, FunD K "_law_written" "_law_written" (defArgs s__law_written) (defBody s__law_written) (defScope s__law_written) [] [] (ga K "_law_written") fd) (g__law_written : mg "_law_written" = some (.ref (ga K "_law_written"))) : ∀ m : Nat, FOG P w K mg base CX0 (lv + 2 * m) "_law_written" ["_law_tree_here"] (spP K false (ps_wri m))
  | 0 => fog_no D__law_written g__law_written (fun _ _ _ _ _ _ us hl => match us, hl with | [_], _ => rfl) (fun vs H Q E h => by obtain ⟨O, sl, P, R, hps, _⟩ := h; exact no_wri hps)
  | m + 1 => by
    have ih := gr_2 (lv := lv) Tx kf D__law_written g__law_written m
    have F__law_written := ih
    exact (st__law_written (lv := lv + 2 * m) (m := m) Tx kf D__law_written g__law_written F__law_written).mono (by omega)
theorem gr_3 {lv : Nat} (Tx : Txt K mg) (kf : KF K w) (D__law_twice : ∃ fd, FunD K "_law_twice" "_law_twice" (defArgs s__law_twice) (defBody s__law_twice) (defScope s__law_twice) [] [] (ga K "_law_twice") fd) (g__law_twice : mg "_law_twice" = some (.ref (ga K "_law_twice"))) : ∀ m : Nat, FOG P w K mg base CX0 (lv + 2 * m) "_law_twice" ["_law_tree_here"] (spP K false (ps_twi m))
  | 0 => fog_no D__law_twice g__law_twice (fun _ _ _ _ _ _ us hl => match us, hl with | [_], _ => rfl) (fun vs H Q E h => by obtain ⟨O, sl, P, R, hps, _⟩ := h; exact no_twi hps)
  | m + 1 => by
    have ih := gr_3 (lv := lv) Tx kf D__law_twice g__law_twice m
    have F__law_twice := ih
    exact (st__law_twice (lv := lv + 2 * m) (m := m) Tx kf D__law_twice g__law_twice F__law_twice).mono (by omega)
theorem gr_4 {lv : Nat} (Tx : Txt K mg) (kf : KF K w) (D__law_loose : ∃ fd, FunD K "_law_loose" "_law_loose" (defArgs s__law_loose) (defBody s__law_loose) (defScope s__law_loose) [] [] (ga K "_law_loose") fd) (g__law_loose : mg "_law_loose" = some (.ref (ga K "_law_loose"))) : ∀ m : Nat, FOG P w K mg base CX0 (lv + 2 * m) "_law_loose" ["_law_worth"] (spP K false (ps_loo m))
  | 0 => fog_no D__law_loose g__law_loose (fun _ _ _ _ _ _ us hl => match us, hl with | [_], _ => rfl) (fun vs H Q E h => by obtain ⟨O, sl, P, R, hps, _⟩ := h; exact no_loo hps)
  | m + 1 => by
    have ih := gr_4 (lv := lv) Tx kf D__law_loose g__law_loose m
    have F__law_loose := ih
    exact (st__law_loose (lv := lv + 2 * m) (m := m) Tx kf D__law_loose g__law_loose F__law_loose).mono (by omega)
theorem okLaw {fd : FuncData} {lv : Nat} (Tx : Txt K mg) (kf : KF K w) (F : FunD K "law" "law" (defArgs s_law) (defBody s_law) (defScope s_law) [] [] (ga K "law") fd) (F__law_box : FOG P w K mg base CX0 (lv) "_law_box" ["_law_cell_here"] (spP K true ps_box)) (F__law_cell : FOG P w K mg base CX0 (lv) "_law_cell" ["_law_script", "_law_k"] (spP K false ps_cell)) (F__law_take : FOG P w K mg base CX0 (lv) "_law_take" ["_law_box_here", "_law_many"] (spP K false ps_take)) (F__law_tree : FOG P w K mg base CX0 (lv) "_law_tree" ["_law_box_here", "_law_left"] (spP K false (ps_tree 3))) (F__law_written : FOG P w K mg base CX0 (lv) "_law_written" ["_law_tree_here"] (spP K false (ps_wri 5))) (F__law_twice : FOG P w K mg base CX0 (lv) "_law_twice" ["_law_tree_here"] (spP K false (ps_twi 5))) (F__law_right : FOG P w K mg base CX0 (lv) "_law_right" ["_law_text", "_law_twice_here"] (spP K false ps_rig)) (F__law_asked : FOG P w K mg base CX0 (lv) "_law_asked" ["_law_text"] (spP K false ps_rask)) : FnG P w K mg base CX0 (lv + 2) (ga K "law") fd ["_law_script"] (spP K false ps_law) :=
  fnG_of (k := lv + 1) F sc_law (spP_len (fun sl P h => by obtain ⟨_, rfl, _⟩ := h; rfl)) fun cdv A outer s H vs Q E hr h => ⟨_, (dv_law Tx (F__law_box.mono (by omega)) (F__law_cell.mono (by omega)) (F__law_take.mono (by omega)) (F__law_tree.mono (by omega)) (F__law_written.mono (by omega)) (F__law_twice.mono (by omega)) (F__law_right.mono (by omega)) (F__law_asked.mono (by omega)) hr).nox, body_ok rf_law (n := 1) (fun sl P h => by obtain ⟨_, rfl, _⟩ := h; rfl) pure_law h⟩
end
theorem facts : FactsT ps_law := by
  intro P w K h mg f X G hfa cx
  obtain ⟨hsm, hex, ct⟩ := cx
  have c := ct.d
  have kf : KF K w := exB_ok hex fun i t e => ct.tab i e
  have Tx : Txt K mg := ⟨hsm, He.free_ok X G (c.fact 0 rfl), He.free_ok X G (c.fact 1 rfl), He.free_ok X G (c.fact 2 rfl), He.free_ok X G (c.fact 3 rfl), He.free_ok X G (c.fact 4 rfl), He.free_ok X G (c.fact 5 rfl), He.free_ok X G (c.fact 6 rfl), He.free_ok X G (c.fact 7 rfl), He.free_ok X G (c.fact 8 rfl), He.free_ok X G (c.fact 9 rfl), He.free_ok X G (c.fact 10 rfl), He.free_ok X G (c.fact 11 rfl), He.str_ok X G (c.fact 12 rfl), He.int_ok X G (c.fact 13 rfl), He.int_ok X G (c.fact 14 rfl), He.int_ok X G (c.fact 15 rfl), He.str_ok X G (c.fact 16 rfl), He.int_ok X G (c.fact 17 rfl), He.int_ok X G (c.fact 18 rfl), He.int_ok X G (c.fact 19 rfl), He.glo_ok X G (c.fact 20 rfl), He.glo_ok X G (c.fact 21 rfl), He.glo_ok X G (c.fact 22 rfl), He.glo_ok X G (c.fact 23 rfl), He.glo_ok X G (c.fact 24 rfl), kf.x_NoText, kf.x_BadText, kf.x_Doubled, kf.bas⟩
  have D_Reader____init__ := c.def_ 0 (d := d_Reader____init__) rfl
  have D_Reader__ahead := c.def_ 1 (d := d_Reader__ahead) rfl
  have D_Reader__take := c.def_ 2 (d := d_Reader__take) rfl
  have D_Reader__ends := c.def_ 3 (d := d_Reader__ends) rfl
  have g_is_sign := He.glo_ok X G (c.fact 25 (f := .glo "is_sign") rfl)
  have D_is_sign := c.def_ 4 (d := d_is_sign) rfl
  have D_Reader__read_quoted := c.def_ 5 (d := d_Reader__read_quoted) rfl
  have D_Reader__take_all := c.def_ 6 (d := d_Reader__take_all) rfl
  have D_Reader__read_number := c.def_ 7 (d := d_Reader__read_number) rfl
  have D_Reader__read_any := c.def_ 8 (d := d_Reader__read_any) rfl
  have D_Reader__read_row := c.def_ 9 (d := d_Reader__read_row) rfl
  have D_Reader__read_fields := c.def_ 10 (d := d_Reader__read_fields) rfl
  have D_Reader__read_field := c.def_ 11 (d := d_Reader__read_field) rfl
  have g_read_worth := He.glo_ok X G (c.fact 26 (f := .glo "read_worth") rfl)
  have D_read_worth := c.def_ 12 (d := d_read_worth) rfl
  have g__law_asked := He.glo_ok X G (c.fact 27 (f := .glo "_law_asked") rfl)
  have D__law_asked := c.def_ 13 (d := d__law_asked) rfl
  have g__law_loose := He.glo_ok X G (c.fact 28 (f := .glo "_law_loose") rfl)
  have D__law_loose := c.def_ 14 (d := d__law_loose) rfl
  have g__law_right := He.glo_ok X G (c.fact 29 (f := .glo "_law_right") rfl)
  have D__law_right := c.def_ 15 (d := d__law_right) rfl
  have g__law_twice := He.glo_ok X G (c.fact 30 (f := .glo "_law_twice") rfl)
  have D__law_twice := c.def_ 16 (d := d__law_twice) rfl
  have g__law_written := He.glo_ok X G (c.fact 31 (f := .glo "_law_written") rfl)
  have D__law_written := c.def_ 17 (d := d__law_written) rfl
  have g__law_take := He.glo_ok X G (c.fact 32 (f := .glo "_law_take") rfl)
  have D__law_take := c.def_ 18 (d := d__law_take) rfl
  have g__law_names := He.glo_ok X G (c.fact 33 (f := .glo "_law_names") rfl)
  have D__law_names := c.def_ 19 (d := d__law_names) rfl
  have g__law_tree := He.glo_ok X G (c.fact 34 (f := .glo "_law_tree") rfl)
  have D__law_tree := c.def_ 20 (d := d__law_tree) rfl
  have g__law_cell := He.glo_ok X G (c.fact 35 (f := .glo "_law_cell") rfl)
  have D__law_cell := c.def_ 21 (d := d__law_cell) rfl
  have g__law_box := He.glo_ok X G (c.fact 36 (f := .glo "_law_box") rfl)
  have D__law_box := c.def_ 22 (d := d__law_box) rfl
  have g_law := He.glo_ok X G (c.fact 37 (f := .glo "law") rfl)
  have D_law := c.def_ 23 (d := d_law) rfl
  have D_i_NoText := c.def_ 24 (d := d_i_NoText) rfl
  have D_i_BadText := c.def_ 25 (d := d_i_BadText) rfl
  have D_i_Doubled := c.def_ 26 (d := d_i_Doubled) rfl
  have e := hfa.symm.trans g_law
  cases e
  obtain ⟨fd, F⟩ := id D_law
  have b := FunD.bindsA (ps := ["_law_script"]) F fun _ _ _ _ _ _ us hl => match us, hl with | [_], _ => rfl
  refine ⟨fd, fun s v => b s [v] rfl, fun base _ _ => ?_⟩
  have E_NoText : ErrG P w K mg base 1 "NoText" "found" := E_NoText Tx D_i_NoText
  have E_BadText : ErrG P w K mg base 1 "BadText" "place" := E_BadText Tx D_i_BadText
  have E_Doubled : ErrG P w K mg base 1 "Doubled" "name" := E_Doubled Tx D_i_Doubled
  have F_Reader____init__ : NOG P w K mg base CX0 (2) (fAd K ("Reader", some "__init__")) ["self", "text"] (spP K false (ps_rdini K)) := st_Reader____init__ (lv := 0) (m := 0) Tx kf D_Reader____init__
  have F_Reader__ahead : NOG P w K mg base CX0 (2) (fAd K ("Reader", some "ahead")) ["self"] (spP K false (ps_ahead K)) := st_Reader__ahead (lv := 0) (m := 0) Tx kf D_Reader__ahead
  have F_Reader__take : NOG P w K mg base (L2.CX P w) (4) (fAd K ("Reader", some "take")) ["self", "some"] (spX K false (ps_rtk K)) := st_Reader__take (lv := 2) (m := 0) Tx kf D_Reader__take (F_Reader__ahead.mono (by decide)) E_BadText (by decide)
  have F_Reader__ends : NOG P w K mg base CX0 (4) (fAd K ("Reader", some "ends")) ["self", "text"] (spP K false (ps_rends K)) := st_Reader__ends (lv := 2) (m := 0) Tx kf D_Reader__ends (F_Reader__ahead.mono (by decide))
  have F_is_sign : FOG P w K mg base CX0 (2) "is_sign" ["sign"] (spP K false ps_sign) := st_is_sign (lv := 0) (m := 0) Tx kf D_is_sign g_is_sign
  have F_Reader__read_quoted : NOG P w K mg base (L2.CX P w) (6) (fAd K ("Reader", some "read_quoted")) ["self"] (spX K false (ps_rquo K)) := st_Reader__read_quoted (lv := 4) (m := 0) Tx kf D_Reader__read_quoted (F_Reader__take.mono (by decide)) (F_Reader__ends.mono (by decide)) (F_Reader__ahead.mono (by decide)) (F_is_sign.mono (by decide)) E_BadText (by decide)
  have F_Reader__take_all : NOG P w K mg base (L2.CX P w) (6) (fAd K ("Reader", some "take_all")) ["self", "text"] (spX K false (ps_rta K)) := st_Reader__take_all (lv := 4) (m := 0) Tx kf D_Reader__take_all (F_Reader__take.mono (by decide))
  have F_Reader__read_number : NOG P w K mg base (L2.CX P w) (6) (fAd K ("Reader", some "read_number")) ["self"] (spX K false (ps_rnum K)) := st_Reader__read_number (lv := 4) (m := 0) Tx kf D_Reader__read_number (F_Reader__ahead.mono (by decide)) (F_Reader__take.mono (by decide))
  have q_0 := gr_0 (P := P) (base := base) (lv := 6) Tx kf D_Reader__read_any D_Reader__read_row D_Reader__read_fields D_Reader__read_field (F_Reader__ahead.mono (by decide)) (F_Reader__read_quoted.mono (by decide)) (F_Reader__take_all.mono (by decide)) (F_Reader__read_number.mono (by decide)) (F_Reader__take.mono (by decide)) 12
  have F_Reader__read_any : NOG P w K mg base (L2.CX P w) (30) (fAd K ("Reader", some "read_any")) ["self", "level"] (spX K false ((ps_rany K) 12)) := q_0.1
  have F_Reader__read_row : NOG P w K mg base (L2.CX P w) (30) (fAd K ("Reader", some "read_row")) ["self", "level"] (spX K false ((ps_rrow K) 12)) := q_0.2.1
  have F_Reader__read_fields : NOG P w K mg base (L2.CX P w) (30) (fAd K ("Reader", some "read_fields")) ["self", "level"] (spX K false ((ps_rflds K) 12)) := q_0.2.2.1
  have F_Reader__read_field : NOG P w K mg base (L2.CX P w) (30) (fAd K ("Reader", some "read_field")) ["self", "found", "level"] (spX K false ((ps_rfld K) 12)) := q_0.2.2.2
  have F_read_worth : FOG P w K mg base (L2.CX P w) (32) "read_worth" ["text"] (spX K false (ps_rdw K)) := st_read_worth (lv := 30) (m := 0) Tx kf D_read_worth g_read_worth (F_Reader____init__.mono (by decide)) (F_Reader__read_any.mono (by decide)) E_NoText E_BadText E_Doubled (by decide)
  have F__law_asked : FOG P w K mg base CX0 (34) "_law_asked" ["_law_text"] (spP K false ps_rask) := st__law_asked (lv := 32) (m := 0) Tx kf D__law_asked g__law_asked (F_read_worth.mono (by decide))
  have q_4 := gr_4 (P := P) (base := base) (lv := 0) Tx kf D__law_loose g__law_loose 5
  have F__law_loose : FOG P w K mg base CX0 (10) "_law_loose" ["_law_worth"] (spP K false (ps_loo 5)) := q_4
  have F__law_right : FOG P w K mg base CX0 (36) "_law_right" ["_law_text", "_law_twice_here"] (spP K false ps_rig) := st__law_right (lv := 34) (m := 0) Tx kf D__law_right g__law_right (F__law_asked.mono (by decide)) (F__law_loose.mono (by decide))
  have q_3 := gr_3 (P := P) (base := base) (lv := 0) Tx kf D__law_twice g__law_twice 5
  have F__law_twice : FOG P w K mg base CX0 (10) "_law_twice" ["_law_tree_here"] (spP K false (ps_twi 5)) := q_3
  have q_2 := gr_2 (P := P) (base := base) (lv := 0) Tx kf D__law_written g__law_written 5
  have F__law_written : FOG P w K mg base CX0 (10) "_law_written" ["_law_tree_here"] (spP K false (ps_wri 5)) := q_2
  have F__law_take : FOG P w K mg base CX0 (2) "_law_take" ["_law_box_here", "_law_many"] (spP K false ps_take) := st__law_take (lv := 0) (m := 0) Tx kf D__law_take g__law_take
  have F__law_names : FOG P w K mg base CX0 (4) "_law_names" ["_law_box_here", "_law_many"] (spP K true ps_nam3) := st__law_names (lv := 2) (m := 0) Tx kf D__law_names g__law_names (F__law_take.mono (by decide))
  have q_1 := gr_1 (P := P) (base := base) (lv := 4) Tx kf D__law_tree g__law_tree (F__law_take.mono (by decide)) (F__law_names.mono (by decide)) 3
  have F__law_tree : FOG P w K mg base CX0 (10) "_law_tree" ["_law_box_here", "_law_left"] (spP K false (ps_tree 3)) := q_1
  have F__law_cell : FOG P w K mg base CX0 (2) "_law_cell" ["_law_script", "_law_k"] (spP K false ps_cell) := st__law_cell (lv := 0) (m := 0) Tx kf D__law_cell g__law_cell
  have F__law_box : FOG P w K mg base CX0 (2) "_law_box" ["_law_cell_here"] (spP K true ps_box) := st__law_box (lv := 0) (m := 0) Tx kf D__law_box g__law_box
  exact okLaw (lv := 36) Tx kf F (F__law_box.mono (by decide)) (F__law_cell.mono (by decide)) (F__law_take.mono (by decide)) (F__law_tree.mono (by decide)) (F__law_written.mono (by decide)) (F__law_twice.mono (by decide)) (F__law_right.mono (by decide)) (F__law_asked.mono (by decide))
end Pu
theorem PySem.Challenge.cw_heapkinds_k15_names_twice_in_texts_holds : PySem.Challenge.rw_heapkinds_k15_names_twice_in_texts.Holds :=
  Pu.pre (S := Pu.ps_law) (fun ns => ⟨ns, rfl, rfl⟩) Pu.run Pu.facts

end
