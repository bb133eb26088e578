import PyProof.Rows.All
import Wide.All
import OpenK.AllK
import Wide.FinOn
import KE.KStateDown
import HandS.ForMost
import HandS.Exc
import HandS.WordsExc
import HandS.Defaults
import HandS.Evl
import HandS.Flow
import HandS.Conv
import HandS.IsInst
import HandS.TupMul
import HandS.TupAny
import HandS.Wide
import HandS.WideBits
import HandS.Property
import HandS.Star
import HandS.OwnEq
import HandS.Flt
import KE.KSuper
import HandS.ClsMeth
import HandS.Nested
import HandS.Style
import HandS.Head0
import HandS.Head1
import HandS.Head2
import HandS.HeadEnd
import HandS.EndBits
import HandS.HeadHook1
import HandS.HeadHook2
import HandS.Text
import HandS.Iter
import HandS.Walk
import PyProof.AutoSeq1
import KE.KAssignIn
import PyProof.Draws
import PyProof.EnumMake
import PyProof.TupleIter
import KE.GoesMore
import PySem.Challenge.RW_rosterneed_k26_whole_least_needs
set_option Elab.async false
set_option linter.all false
set_option maxRecDepth 100000
set_option maxHeartbeats 4000000
/-! ### part A: defs by name, calls, unions of rules (own layer over HandS) -/
namespace M
open PySem PySem.Spec PyProof.Rows L2 Evl

section
variable {P : Program} {w : World} {K : PySem.W.Frag} {mg : Str → Option Value} {base : Heap}
/-- a def of the module under its name, with its promise -/
structure Fn (P : Program) (w : World) (K : PySem.W.Frag) (mg : Str → Option Value) (base : Heap) (CX : CXT) (k : Nat) (x : Str) (sp : Sp) : Prop where
  ex : ∃ (f : Addr) (fd : FuncData) (ps : List Str), FnOk P w K mg base CX k f fd ps sp ∧ mg x = some (.ref f) ∧ PySem.W.keepIn K (.ref f) = true ∧ Binds K fd ps []
/-- a method of the class at C -/
structure Mt (P : Program) (w : World) (K : PySem.W.Frag) (mg : Str → Option Value) (base : Heap) (CX : CXT) (k : Nat) (C : Addr) (m : Str) (sp : Sp) : Prop where
  ex : ∃ (f : Addr) (fd : FuncData) (ps : List Str), Cls K C ∧ Meth K C m f ∧ FnOk P w K mg base CX k f fd ps sp ∧ Binds K fd ps []

def sp1 (F : V → Hp → VK → XK → Prop) : Sp := fun vs H Q E => ∃ a, vs = [a] ∧ F a H Q E
def sp2 (F : V → V → Hp → VK → XK → Prop) : Sp := fun vs H Q E => ∃ a b, vs = [a, b] ∧ F a b H Q E
def sp3 (F : V → V → V → Hp → VK → XK → Prop) : Sp := fun vs H Q E => ∃ a b c, vs = [a, b, c] ∧ F a b c H Q E
def sp4 (F : V → V → V → V → Hp → VK → XK → Prop) : Sp := fun vs H Q E => ∃ a b c d, vs = [a, b, c, d] ∧ F a b c d H Q E
def sp5 (F : V → V → V → V → V → Hp → VK → XK → Prop) : Sp := fun vs H Q E => ∃ a b c d e, vs = [a, b, c, d, e] ∧ F a b c d e H Q E

theorem sp1_len {F} {p : Str} : ∀ vs H Q E, sp1 F vs H Q E → vs.length = [p].length := fun vs H Q E ⟨a, e, _⟩ => by rw [e]; rfl
theorem sp2_len {F} {p q : Str} : ∀ vs H Q E, sp2 F vs H Q E → vs.length = [p, q].length := fun vs H Q E ⟨a, b, e, _⟩ => by rw [e]; rfl
theorem sp3_len {F} {p q r : Str} : ∀ vs H Q E, sp3 F vs H Q E → vs.length = [p, q, r].length := fun vs H Q E ⟨a, b, c, e, _⟩ => by rw [e]; rfl
theorem sp4_len {F} {p q r u : Str} : ∀ vs H Q E, sp4 F vs H Q E → vs.length = [p, q, r, u].length := fun vs H Q E ⟨a, b, c, d, e, _⟩ => by rw [e]; rfl
theorem sp5_len {F} {p q r u v : Str} : ∀ vs H Q E, sp5 F vs H Q E → vs.length = [p, q, r, u, v].length := fun vs H Q E ⟨a, b, c, d, _, e, _⟩ => by rw [e]; rfl

/-- a def of which nothing is promised (the floor of a recursion) -/
theorem Fn.never {x qual : Str} {params : Arguments} {body : List Stmt} {scope : Scope} {f : Addr} {fd : FuncData} {ps : List Str} {k : Nat}
    (F : FunD K x qual params body scope [] [] f fd) (hm : mg x = some (.ref f))
    (hb : ∀ (kV doc pm : Value) (an : Option Addr) (cdv ct : Value) (us : List Value), us.length = ps.length → bindArgs (PySem.W.fnOf x qual params body scope .none kV doc pm an cdv ct) ⟨us, []⟩ = pure (ps.zip us)) :
    Fn P w K mg base CX0 k x (fun _ _ _ _ => False) :=
  ⟨f, fd, ps, ⟨fun _ _ _ _ h => h.elim, fun _ _ _ _ _ _ _ _ _ _ _ _ _ h => h.elim⟩, hm, F.kp, F.bindsN hb⟩
theorem fnok0 {x qual : Str} {params : Arguments} {body : List Stmt} {scope : Scope} {dvs : List V} {f : Addr} {fd : FuncData} {N ps : List Str} {k : Nat} {sp : Sp}
    (F : FunD K x qual params body scope dvs [] f fd) (S : FnScope N ps scope) (len : ∀ vs H Q E, sp vs H Q E → vs.length = ps.length)
    (hbody : ∀ (cdv : Value) (A : Around) (outer : List Env) (s : Shared) (H : Hp) (vs : List V) (Q : VK) (E : XK), Room k (A.deeper (envOfC qual scope s.heap.objs.size f cdv)) → sp vs H Q E →
      ∃ t, PSs (cxOf CX0 P w K mg base N qual scope f cdv A outer s H E).nox body t ∧ t { nx := fun _ H' => Q .non H', rt := Q } (start N vs) H) :
    FnOk P w K mg base CX0 (k + 1) f fd ps sp := F.ok S len fun cdv A outer s H vs Q E hr h => by
  obtain ⟨t, h1, h2⟩ := hbody cdv A outer s H vs Q E hr h
  exact ⟨t, h1.nox, h2⟩
/-- a def that lets nothing out, by its body -/
theorem Fn.mk0 {x qual : Str} {params : Arguments} {body : List Stmt} {scope : Scope} {f : Addr} {fd : FuncData} {N ps : List Str} {k : Nat} {sp : Sp}
    (F : FunD K x qual params body scope [] [] f fd) (hm : mg x = some (.ref f)) (S : FnScope N ps scope) (len : ∀ vs H Q E, sp vs H Q E → vs.length = ps.length)
    (hb : ∀ (kV doc pm : Value) (an : Option Addr) (cdv ct : Value) (us : List Value), us.length = ps.length → bindArgs (PySem.W.fnOf x qual params body scope .none kV doc pm an cdv ct) ⟨us, []⟩ = pure (ps.zip us))
    (hbody : ∀ (cdv : Value) (A : Around) (outer : List Env) (s : Shared) (H : Hp) (vs : List V) (Q : VK) (E : XK), Room k (A.deeper (envOfC qual scope s.heap.objs.size f cdv)) → sp vs H Q E →
      ∃ t, PSs (cxOf CX0 P w K mg base N qual scope f cdv A outer s H E).nox body t ∧ t { nx := fun _ H' => Q .non H', rt := Q } (start N vs) H) :
    Fn P w K mg base CX0 (k + 1) x sp :=
  ⟨f, fd, ps, F.ok S len fun cdv A outer s H vs Q E hr h => by
    obtain ⟨t, h1, h2⟩ := hbody cdv A outer s H vs Q E hr h
    exact ⟨t, h1.nox, h2⟩, hm, F.kp, F.bindsN hb⟩
theorem Mt.mk0 {x qual : Str} {params : Arguments} {body : List Stmt} {scope : Scope} {f C : Addr} {fd : FuncData} {N ps : List Str} {k : Nat} {sp : Sp} {m : Str}
    (F : FunD K x qual params body scope [] [] f fd) (c : Cls K C) (hm : Meth K C m f) (S : FnScope N ps scope) (len : ∀ vs H Q E, sp vs H Q E → vs.length = ps.length)
    (hb : ∀ (kV doc pm : Value) (an : Option Addr) (cdv ct : Value) (us : List Value), us.length = ps.length → bindArgs (PySem.W.fnOf x qual params body scope .none kV doc pm an cdv ct) ⟨us, []⟩ = pure (ps.zip us))
    (hbody : ∀ (cdv : Value) (A : Around) (outer : List Env) (s : Shared) (H : Hp) (vs : List V) (Q : VK) (E : XK), Room k (A.deeper (envOfC qual scope s.heap.objs.size f cdv)) → sp vs H Q E →
      ∃ t, PSs (cxOf CX0 P w K mg base N qual scope f cdv A outer s H E).nox body t ∧ t { nx := fun _ H' => Q .non H', rt := Q } (start N vs) H) :
    Mt P w K mg base CX0 (k + 1) C m sp :=
  ⟨f, fd, ps, c, hm, F.ok S len fun cdv A outer s H vs Q E hr h => by
    obtain ⟨t, h1, h2⟩ := hbody cdv A outer s H vs Q E hr h
    exact ⟨t, h1.nox, h2⟩, F.bindsN hb⟩
end

section
variable {X : Cx} {CX : CXT} {k j : Nat} {C : Addr} {x m : Str} {sp : Sp} {E : XK} {p pos apos : Pos} {e o : Expr} {es : List Expr} {ta : TE} {t : TA}
theorem pc (c : Fn X.prog X.w X.K X.mg X.base CX k x sp) (hr : Room j X.A) (hk : k ≤ j) (hx : Passes CX X E) (hg : Gl X x) (ha : PA X (e :: es) t)
    (hdb : (x == ("__debug__" : Str)) = false := by decide) (he : starEach (e :: es) X.env = (false, eval e X.env) :: starEach es X.env := by rfl) (hpl : (backTo pos (starEach es X.env)).any (·.1) = false := by rfl) :
    PE X (.Call (.Name x p) (e :: es) [] pos) (tCall sp [] E t) := by
  obtain ⟨f, fd, ps, F, hm, hkp, hb⟩ := c.ex
  exact pe_call F (hr.mono hk) hg hm hkp hb .nil hx ha hdb he hpl
theorem pc0 (c : Fn X.prog X.w X.K X.mg X.base CX k x sp) (hr : Room j X.A) (hk : k ≤ j) (hx : Passes CX X E) (hg : Gl X x)
    (hdb : (x == ("__debug__" : Str)) = false := by decide) :
    PE X (.Call (.Name x p) [] [] pos) (tCall sp [] E tNil) := by
  obtain ⟨f, fd, ps, F, hm, hkp, hb⟩ := c.ex
  exact pe_call0 F (hr.mono hk) hg hm hkp hb .nil hx hdb
end

/-! unions -/
section
variable {X : Cx}
def rAdd (K : PySem.W.Frag) : R2 := fun x y H Q => (rI0 fun i j => .int (i + j)) x y H Q ∨ rCat x y H Q ∨ rCatA K x y H Q ∨ ∃ i j, x = .str i ∧ y = .str j ∧ i.length + j.length ≤ sizeLine ∧ Q (.str (i ++ j)) H
theorem xAdd : OpR X (binaryOp .Add) (rAdd X.K) := op_add.or (op_cat.or (op_catA.or op_add_str))
def rMul (K : PySem.W.Frag) : R2 := fun x y H Q => (rI CMul fun i j => .int (i * j)) x y H Q ∨ rRep x y H Q ∨ rRepT K x y H Q
theorem xMul : OpR X (binaryOp .Mult) (rMul X.K) := op_mul.or (op_rep.or op_repT)
abbrev rDiv : R2 := rI CDivW fun i j => .int (i / j)
theorem xDiv : OpR X (binaryOp .FloorDiv) rDiv := op_fdivW
abbrev rMod : R2 := rI (fun _ j => 0 < j) fun i j => .int (i % j)
theorem xMod : OpR X (binaryOp .Mod) rMod := op_mod
abbrev rSubI : R2 := rI0 fun i j => .int (i - j)
theorem xSub : OpR X (binaryOp .Sub) rSubI := op_sub
abbrev rShl : R2 := rI CShl fun i j => .int (i * 2 ^ j.toNat)
theorem xShl : OpR X (binaryOp .LShift) rShl := op_shlW
abbrev rShr : R2 := rI (fun _ j => 0 ≤ j) fun i j => .int (i / 2 ^ j.toNat)
theorem xShr : OpR X (binaryOp .RShift) rShr := op_shr
abbrev rPow : R2 := rI CPow fun i j => .int (i ^ j.toNat)
theorem xPow : OpR X (binaryOp .Pow) rPow := op_pow
def rEqU (K : PySem.W.Frag) : R2 := fun x y H Q => rEq x y H Q ∨ rEqD K x y H Q
theorem xEq {j : Nat} (hr : Room j X.A) : OpR X (compareOp .Eq) (rEqU X.K) := op_eq.or (op_eqD (by have := hr.un; omega))
def rNeU (K : PySem.W.Frag) : R2 := fun x y H Q => rNe x y H Q ∨ rNeD K x y H Q
theorem xNe {j : Nat} (hr : Room j X.A) : OpR X (compareOp .NotEq) (rNeU X.K) := op_ne.or (op_neD (by have := hr.un; omega))
def rSl (K : PySem.W.Frag) : V → Option Int → Option Int → Hp → VK → Prop := fun x lo hi H Q => rSlL K x lo hi H Q ∨ rSlA K x lo hi H Q ∨ rSlS x lo hi H Q
theorem xSl : SlR X (rSl X.K) := sl_list.or (sl_tupA.or sl_str)
theorem PI.or {tg iter : Expr} {w1 w2 : TI} (h1 : PI X tg iter w1) (h2 : PI X tg iter w2) : PI X tg iter (fun σ H R => w1 σ H R ∨ w2 σ H R) :=
  ⟨fun pins s σ H R I h => h.elim (h1.run pins s σ H R I) (h2.run pins s σ H R I)⟩
def iSeq (K : PySem.W.Frag) (tl : TE) : TI := fun σ H R => iList K tl σ H R ∨ iTup K tl σ H R
theorem pi_seq {tg l : Expr} {tl : TE} (hl : PE X l tl) : PI X tg l (iSeq X.K tl) := PI.or (pi_list hl) (pi_tup hl)
end
end M

/-! ### part B: readings step by step -/
namespace M
open PySem PySem.Spec PyProof.Rows L2 Evl
section
variable {K : PySem.W.Frag} {σ : L2.St} {H : Hp} {Q : VK} {D : Ends} {t u : TS} {te ta tb : TE} {tt tu : TT} {g : TG} {v : V} {r : R2}
theorem w_cut {M : L2.St → Hp → Prop} (h : t { nx := M, rt := D.rt, bk := D.bk, ct := D.ct } σ H) (h2 : ∀ σ' H', M σ' H' → u D σ' H') : tCut t u D σ H := ⟨M, h, h2⟩
theorem w_seq (h : t { nx := u D, rt := D.rt, bk := D.bk, ct := D.ct } σ H) : tSeq t u D σ H := h
theorem w_drop (h : te σ H fun _ H1 => D.nx σ H1) : tDrop te D σ H := h
theorem w_asg (h : te σ H fun x H1 => g x σ H1 D.nx) : tAsg te g D σ H := h
theorem w_ret (h : te σ H D.rt) : tRet te D σ H := h
theorem w_retN (h : D.rt .non H) : tRetN D σ H := h
theorem w_next (h : D.nx σ H) : tNext D σ H := h
theorem w_break (h : D.bk σ H) : tBreak D σ H := h
theorem w_ifS (h : tt σ H fun b H1 => if b = true then t D σ H1 else u D σ H1) : tIfS tt t u D σ H := h
theorem w_op (h : ta σ H fun x H1 => tb σ H1 fun y H2 => r x y H2 Q) : tOp r ta tb σ H Q := h
theorem w_un {r : V → Hp → VK → Prop} (h : ta σ H fun x H1 => r x H1 Q) : tUn r ta σ H Q := h
theorem w_c (h : Q v H) : tC v σ H Q := h
theorem w_test {Q : Bool → Hp → Prop} (h : te σ H fun x H' => ∃ k, x = .bl k ∧ Q k H') : tTest te σ H Q := h
theorem w_tB {Q : Bool → Hp → Prop} (h : te σ H fun x H' => ∃ k, x = .bl k ∧ Q k H') : tB te σ H Q := h
theorem w_exbl {Q : Bool → Hp → Prop} {b : Bool} (h : Q b H) : ∃ k, V.bl b = .bl k ∧ Q k H := ⟨b, rfl, h⟩
theorem w_exbl2 {Q : Bool → Prop} {b : Bool} (h : Q b) : ∃ k, V.bl b = .bl k ∧ Q k := ⟨b, rfl, h⟩
theorem w_and {Q : Bool → Hp → Prop} (h : tt σ H fun c H1 => if c = true then tu σ H1 Q else Q false H1) : tAnd tt tu σ H Q := h
theorem w_or {Q : Bool → Hp → Prop} (h : tt σ H fun c H1 => if c = true then Q true H1 else tu σ H1 Q) : tOr tt tu σ H Q := h
theorem w_not {Q : Bool → Hp → Prop} (h : tt σ H fun c H1 => Q (!c) H1) : tNot tt σ H Q := h
theorem w_andV (h : ta σ H fun x H1 => ∃ c, x = .bl c ∧ if c = true then tb σ H1 Q else Q (.bl false) H1) : tAndV ta tb σ H Q := h
theorem w_orV (h : ta σ H fun x H1 => ∃ c, x = .bl c ∧ if c = true then Q (.bl true) H1 else tb σ H1 Q) : tOrV ta tb σ H Q := h
theorem w_notV (h : ta σ H fun x H1 => ∃ c, x = .bl c ∧ Q (.bl (!c)) H1) : tNotV ta σ H Q := h
theorem w_ifE (h : tt σ H fun c H1 => if c = true then ta σ H1 Q else tb σ H1 Q) : tIf tt ta tb σ H Q := h
theorem w_chain {r' : R2} {tc : TE} (h : ta σ H fun x H1 => tb σ H1 fun y H2 => r x y H2 fun z H3 => ∃ k, z = .bl k ∧ (if k = true then tc σ H3 fun w' H4 => r' y w' H4 Q else Q (.bl false) H3)) : tChain r r' ta tb tc σ H Q := h
theorem w_nil {Q : List V → Hp → Prop} (h : Q [] H) : tNil σ H Q := h
theorem w_cons {tr : TA} {Q : List V → Hp → Prop} (h : ta σ H fun x H1 => tr σ H1 fun xs H2 => Q (x :: xs) H2) : tCons ta tr σ H Q := h
theorem w_cb {r : List V → Hp → VK → Prop} {t : TA} (h : t σ H fun vs H1 => r vs H1 Q) : tCB r t σ H Q := h
theorem w_call {sp : Sp} {E : XK} {t : TA} (h : t σ H fun vs H1 => sp (vs ++ []) H1 Q E) : tCall sp [] E t σ H Q := h
theorem w_call1 {F} {E : XK} {a : V} (h : F a H Q E) : sp1 F ([a] ++ []) H Q E := ⟨a, rfl, h⟩
theorem w_call2 {F} {E : XK} {a b : V} (h : F a b H Q E) : sp2 F ([a, b] ++ []) H Q E := ⟨a, b, rfl, h⟩
theorem w_call3 {F} {E : XK} {a b c : V} (h : F a b c H Q E) : sp3 F ([a, b, c] ++ []) H Q E := ⟨a, b, c, rfl, h⟩
theorem w_call4 {F} {E : XK} {a b c d : V} (h : F a b c d H Q E) : sp4 F ([a, b, c, d] ++ []) H Q E := ⟨a, b, c, d, rfl, h⟩
theorem w_call5 {F} {E : XK} {a b c d e : V} (h : F a b c d e H Q E) : sp5 F ([a, b, c, d, e] ++ []) H Q E := ⟨a, b, c, d, e, rfl, h⟩
theorem w_callM1 {F} {E : XK} {x : V} (h : F x H Q E) : sp1 F (x :: ([] ++ [])) H Q E := ⟨x, rfl, h⟩
theorem w_callM2 {F} {E : XK} {x a : V} (h : F x a H Q E) : sp2 F (x :: ([a] ++ [])) H Q E := ⟨x, a, rfl, h⟩
theorem w_callM3 {F} {E : XK} {x a b : V} (h : F x a b H Q E) : sp3 F (x :: ([a, b] ++ [])) H Q E := ⟨x, a, b, rfl, h⟩
theorem w_callM4 {F} {E : XK} {x a b c : V} (h : F x a b c H Q E) : sp4 F (x :: ([a, b, c] ++ [])) H Q E := ⟨x, a, b, c, rfl, h⟩
/-- a new tuple, a new list: what is asked, named -/
def NewT (xs : List V) (H : Hp) (Q : VK) : Prop := xs.length ≤ sizeLine ∧ ∀ p, H p = none → Q (.ref p) (upd H p (.tup xs))
def NewL (xs : List V) (H : Hp) (Q : VK) : Prop := xs.length ≤ sizeLine ∧ ∀ p, H p = none → Q (.ref p) (upd H p (.lst xs))
theorem w_tup {t : TA} (h : t σ H fun xs H1 => NewT xs H1 Q) : tTup t σ H Q := h
theorem w_lst {t : TA} (h : t σ H fun xs H1 => NewL xs H1 Q) : tLst t σ H Q := h
theorem w_newT {xs : List V} (hz : xs.length ≤ sizeLine) (h : ∀ p H1, H p = none → Ex H H1 → H1 p = some (.tup xs) → Q (.ref p) H1) : NewT xs H Q :=
  ⟨hz, fun p hp => h p _ hp (Ex.new hp) upd_same⟩
theorem w_newL {xs : List V} (hz : xs.length ≤ sizeLine) (h : ∀ p H1, H p = none → Ex H H1 → H1 p = some (.lst xs) → Q (.ref p) H1) : NewL xs H Q :=
  ⟨hz, fun p hp => h p _ hp (Ex.new hp) upd_same⟩
theorem w_sl {r : V → Option Int → Option Int → Hp → VK → Prop} {tl th : TO} (h : te σ H fun x H1 => tl σ H1 fun l H2 => th σ H2 fun u H3 => r x l u H3 Q) : tSl r te tl th σ H Q := h
theorem w_part {Q : Option Int → Hp → Prop} (h : te σ H fun x H1 => ∃ i, x = .int i ∧ Q (some i) H1) : tPart te σ H Q := h
theorem w_noPart {Q : Option Int → Hp → Prop} (h : Q none H) : tNoPart σ H Q := h
theorem w_exint {Q : Int → Prop} {i : Int} (h : Q i) : ∃ k, V.int i = .int k ∧ Q k := ⟨i, rfl, h⟩
theorem w_gsub {to ti : TE} {s : TSet} {Q : L2.St → Hp → Prop} (h : to σ H fun o H1 => ti σ H1 fun i H2 => s o i v H2 fun H3 => Q σ H3) : gSub to ti s v σ H Q := h
theorem w_par {i j : Nat} {ta : TA} (h : ta σ H fun vs H1 => ∃ v w, vs = [v, w] ∧ D.nx ((List.set σ i (some v)).set j (some w)) H1) : tPar i j ta D σ H := h
theorem w_yes {Q : Bool → Hp → Prop} (h : Q true H) : tYes σ H Q := h
/-! tuples unpacked -/
theorem w_gtup {n : Nat} {t : TGs} {a : Addr} {xs : List V} {Q : L2.St → Hp → Prop} (hs : SqT K H a xs) (hl : xs.length = n) (h : t xs σ H Q) : gTup K n t (.ref a) σ H Q := ⟨a, xs, rfl, hs, hl, h⟩
theorem w_gcons {g : TG} {us : TGs} {x : V} {xs : List V} {Q : L2.St → Hp → Prop} (h : g x σ H fun σ' H' => us xs σ' H' Q) : gCons g us (x :: xs) σ H Q := ⟨x, xs, rfl, h⟩
theorem w_gnil {Q : L2.St → Hp → Prop} (h : Q σ H) : gNil [] σ H Q := ⟨rfl, h⟩
/-! ifs -/
theorem w_ite {c A B : Prop} [Decidable c] (h1 : c → A) (h2 : ¬ c → B) : if decide c = true then A else B := by
  by_cases h : c
  · rw [if_pos (decide_eq_true h)]; exact h1 h
  · rw [if_neg (by rw [decide_eq_false h]; exact Bool.false_ne_true)]; exact h2 h
theorem w_iteN {c A B : Prop} [Decidable c] (h1 : ¬ c → A) (h2 : c → B) : if (!decide c) = true then A else B := by
  by_cases h : c
  · rw [decide_eq_true h, if_neg (by decide)]; exact h2 h
  · rw [decide_eq_false h, if_pos (by decide)]; exact h1 h
theorem w_dT {c A B : Prop} [Decidable c] (h : c) (h1 : A) : if decide c = true then A else B := w_ite (fun _ => h1) fun n => absurd h n
theorem w_dF {c A B : Prop} [Decidable c] (h : ¬ c) (h1 : B) : if decide c = true then A else B := w_ite (fun n => absurd n h) fun _ => h1
theorem w_nT {c A B : Prop} [Decidable c] (h : ¬ c) (h1 : A) : if (!decide c) = true then A else B := w_iteN (fun _ => h1) fun n => absurd n h
theorem w_nF {c A B : Prop} [Decidable c] (h : c) (h1 : B) : if (!decide c) = true then A else B := w_iteN (fun n => absurd h n) fun _ => h1
theorem w_bT {b : Bool} {A B : Prop} (h : b = true) (h1 : A) : if b = true then A else B := by rw [if_pos h]; exact h1
theorem w_bF {b : Bool} {A B : Prop} (h : b = false) (h1 : B) : if b = true then A else B := by rw [if_neg (by rw [h]; decide)]; exact h1
theorem w_b2 {b : Bool} {A B : Prop} (h1 : b = true → A) (h2 : b = false → B) : if b = true then A else B := by
  cases b
  · exact iteF (h2 rfl)
  · exact iteT (h1 rfl)

/-- a store, named -/
def SetN (i : Nat) (v : V) (l : L2.St) (H : Hp) (Q : L2.St → Hp → Prop) : Prop := Q (l.set i (some v)) H
theorem w_nn {i : Nat} {Q : L2.St → Hp → Prop} (h : SetN i v σ H Q) : gName i v σ H Q := h
def GetN (i : Nat) (l : L2.St) (H : Hp) (Q : VK) : Prop := ∃ v, l[i]? = some (some v) ∧ Q v H
theorem w_vv {i : Nat} (h : GetN i σ H Q) : tVar i σ H Q := h
theorem w_v0 {l : L2.St} (h : Q v H) : GetN 0 (some v :: l) H Q := ⟨v, rfl, h⟩
theorem w_n0 {y : Option V} {l : L2.St} {Q : L2.St → Hp → Prop} (h : Q (some v :: l) H) : SetN 0 v (y :: l) H Q := h
theorem w_v1 {x0 : Option V} {l : L2.St} (h : Q v H) : GetN 1 (x0 :: some v :: l) H Q := ⟨v, rfl, h⟩
theorem w_n1 {x0 : Option V} {y : Option V} {l : L2.St} {Q : L2.St → Hp → Prop} (h : Q (x0 :: some v :: l) H) : SetN 1 v (x0 :: y :: l) H Q := h
theorem w_v2 {x0 x1 : Option V} {l : L2.St} (h : Q v H) : GetN 2 (x0 :: x1 :: some v :: l) H Q := ⟨v, rfl, h⟩
theorem w_n2 {x0 x1 : Option V} {y : Option V} {l : L2.St} {Q : L2.St → Hp → Prop} (h : Q (x0 :: x1 :: some v :: l) H) : SetN 2 v (x0 :: x1 :: y :: l) H Q := h
theorem w_v3 {x0 x1 x2 : Option V} {l : L2.St} (h : Q v H) : GetN 3 (x0 :: x1 :: x2 :: some v :: l) H Q := ⟨v, rfl, h⟩
theorem w_n3 {x0 x1 x2 : Option V} {y : Option V} {l : L2.St} {Q : L2.St → Hp → Prop} (h : Q (x0 :: x1 :: x2 :: some v :: l) H) : SetN 3 v (x0 :: x1 :: x2 :: y :: l) H Q := h
theorem w_v4 {x0 x1 x2 x3 : Option V} {l : L2.St} (h : Q v H) : GetN 4 (x0 :: x1 :: x2 :: x3 :: some v :: l) H Q := ⟨v, rfl, h⟩
theorem w_n4 {x0 x1 x2 x3 : Option V} {y : Option V} {l : L2.St} {Q : L2.St → Hp → Prop} (h : Q (x0 :: x1 :: x2 :: x3 :: some v :: l) H) : SetN 4 v (x0 :: x1 :: x2 :: x3 :: y :: l) H Q := h
theorem w_v5 {x0 x1 x2 x3 x4 : Option V} {l : L2.St} (h : Q v H) : GetN 5 (x0 :: x1 :: x2 :: x3 :: x4 :: some v :: l) H Q := ⟨v, rfl, h⟩
theorem w_n5 {x0 x1 x2 x3 x4 : Option V} {y : Option V} {l : L2.St} {Q : L2.St → Hp → Prop} (h : Q (x0 :: x1 :: x2 :: x3 :: x4 :: some v :: l) H) : SetN 5 v (x0 :: x1 :: x2 :: x3 :: x4 :: y :: l) H Q := h
theorem w_v6 {x0 x1 x2 x3 x4 x5 : Option V} {l : L2.St} (h : Q v H) : GetN 6 (x0 :: x1 :: x2 :: x3 :: x4 :: x5 :: some v :: l) H Q := ⟨v, rfl, h⟩
theorem w_n6 {x0 x1 x2 x3 x4 x5 : Option V} {y : Option V} {l : L2.St} {Q : L2.St → Hp → Prop} (h : Q (x0 :: x1 :: x2 :: x3 :: x4 :: x5 :: some v :: l) H) : SetN 6 v (x0 :: x1 :: x2 :: x3 :: x4 :: x5 :: y :: l) H Q := h
theorem w_v7 {x0 x1 x2 x3 x4 x5 x6 : Option V} {l : L2.St} (h : Q v H) : GetN 7 (x0 :: x1 :: x2 :: x3 :: x4 :: x5 :: x6 :: some v :: l) H Q := ⟨v, rfl, h⟩
theorem w_n7 {x0 x1 x2 x3 x4 x5 x6 : Option V} {y : Option V} {l : L2.St} {Q : L2.St → Hp → Prop} (h : Q (x0 :: x1 :: x2 :: x3 :: x4 :: x5 :: x6 :: some v :: l) H) : SetN 7 v (x0 :: x1 :: x2 :: x3 :: x4 :: x5 :: x6 :: y :: l) H Q := h
theorem w_v8 {x0 x1 x2 x3 x4 x5 x6 x7 : Option V} {l : L2.St} (h : Q v H) : GetN 8 (x0 :: x1 :: x2 :: x3 :: x4 :: x5 :: x6 :: x7 :: some v :: l) H Q := ⟨v, rfl, h⟩
theorem w_n8 {x0 x1 x2 x3 x4 x5 x6 x7 : Option V} {y : Option V} {l : L2.St} {Q : L2.St → Hp → Prop} (h : Q (x0 :: x1 :: x2 :: x3 :: x4 :: x5 :: x6 :: x7 :: some v :: l) H) : SetN 8 v (x0 :: x1 :: x2 :: x3 :: x4 :: x5 :: x6 :: x7 :: y :: l) H Q := h
theorem w_v9 {x0 x1 x2 x3 x4 x5 x6 x7 x8 : Option V} {l : L2.St} (h : Q v H) : GetN 9 (x0 :: x1 :: x2 :: x3 :: x4 :: x5 :: x6 :: x7 :: x8 :: some v :: l) H Q := ⟨v, rfl, h⟩
theorem w_n9 {x0 x1 x2 x3 x4 x5 x6 x7 x8 : Option V} {y : Option V} {l : L2.St} {Q : L2.St → Hp → Prop} (h : Q (x0 :: x1 :: x2 :: x3 :: x4 :: x5 :: x6 :: x7 :: x8 :: some v :: l) H) : SetN 9 v (x0 :: x1 :: x2 :: x3 :: x4 :: x5 :: x6 :: x7 :: x8 :: y :: l) H Q := h
theorem w_v10 {x0 x1 x2 x3 x4 x5 x6 x7 x8 x9 : Option V} {l : L2.St} (h : Q v H) : GetN 10 (x0 :: x1 :: x2 :: x3 :: x4 :: x5 :: x6 :: x7 :: x8 :: x9 :: some v :: l) H Q := ⟨v, rfl, h⟩
theorem w_n10 {x0 x1 x2 x3 x4 x5 x6 x7 x8 x9 : Option V} {y : Option V} {l : L2.St} {Q : L2.St → Hp → Prop} (h : Q (x0 :: x1 :: x2 :: x3 :: x4 :: x5 :: x6 :: x7 :: x8 :: x9 :: some v :: l) H) : SetN 10 v (x0 :: x1 :: x2 :: x3 :: x4 :: x5 :: x6 :: x7 :: x8 :: x9 :: y :: l) H Q := h
theorem w_v11 {x0 x1 x2 x3 x4 x5 x6 x7 x8 x9 x10 : Option V} {l : L2.St} (h : Q v H) : GetN 11 (x0 :: x1 :: x2 :: x3 :: x4 :: x5 :: x6 :: x7 :: x8 :: x9 :: x10 :: some v :: l) H Q := ⟨v, rfl, h⟩
theorem w_n11 {x0 x1 x2 x3 x4 x5 x6 x7 x8 x9 x10 : Option V} {y : Option V} {l : L2.St} {Q : L2.St → Hp → Prop} (h : Q (x0 :: x1 :: x2 :: x3 :: x4 :: x5 :: x6 :: x7 :: x8 :: x9 :: x10 :: some v :: l) H) : SetN 11 v (x0 :: x1 :: x2 :: x3 :: x4 :: x5 :: x6 :: x7 :: x8 :: x9 :: x10 :: y :: l) H Q := h
theorem w_v12 {x0 x1 x2 x3 x4 x5 x6 x7 x8 x9 x10 x11 : Option V} {l : L2.St} (h : Q v H) : GetN 12 (x0 :: x1 :: x2 :: x3 :: x4 :: x5 :: x6 :: x7 :: x8 :: x9 :: x10 :: x11 :: some v :: l) H Q := ⟨v, rfl, h⟩
theorem w_n12 {x0 x1 x2 x3 x4 x5 x6 x7 x8 x9 x10 x11 : Option V} {y : Option V} {l : L2.St} {Q : L2.St → Hp → Prop} (h : Q (x0 :: x1 :: x2 :: x3 :: x4 :: x5 :: x6 :: x7 :: x8 :: x9 :: x10 :: x11 :: some v :: l) H) : SetN 12 v (x0 :: x1 :: x2 :: x3 :: x4 :: x5 :: x6 :: x7 :: x8 :: x9 :: x10 :: x11 :: y :: l) H Q := h
theorem w_v13 {x0 x1 x2 x3 x4 x5 x6 x7 x8 x9 x10 x11 x12 : Option V} {l : L2.St} (h : Q v H) : GetN 13 (x0 :: x1 :: x2 :: x3 :: x4 :: x5 :: x6 :: x7 :: x8 :: x9 :: x10 :: x11 :: x12 :: some v :: l) H Q := ⟨v, rfl, h⟩
theorem w_n13 {x0 x1 x2 x3 x4 x5 x6 x7 x8 x9 x10 x11 x12 : Option V} {y : Option V} {l : L2.St} {Q : L2.St → Hp → Prop} (h : Q (x0 :: x1 :: x2 :: x3 :: x4 :: x5 :: x6 :: x7 :: x8 :: x9 :: x10 :: x11 :: x12 :: some v :: l) H) : SetN 13 v (x0 :: x1 :: x2 :: x3 :: x4 :: x5 :: x6 :: x7 :: x8 :: x9 :: x10 :: x11 :: x12 :: y :: l) H Q := h
theorem w_v14 {x0 x1 x2 x3 x4 x5 x6 x7 x8 x9 x10 x11 x12 x13 : Option V} {l : L2.St} (h : Q v H) : GetN 14 (x0 :: x1 :: x2 :: x3 :: x4 :: x5 :: x6 :: x7 :: x8 :: x9 :: x10 :: x11 :: x12 :: x13 :: some v :: l) H Q := ⟨v, rfl, h⟩
theorem w_n14 {x0 x1 x2 x3 x4 x5 x6 x7 x8 x9 x10 x11 x12 x13 : Option V} {y : Option V} {l : L2.St} {Q : L2.St → Hp → Prop} (h : Q (x0 :: x1 :: x2 :: x3 :: x4 :: x5 :: x6 :: x7 :: x8 :: x9 :: x10 :: x11 :: x12 :: x13 :: some v :: l) H) : SetN 14 v (x0 :: x1 :: x2 :: x3 :: x4 :: x5 :: x6 :: x7 :: x8 :: x9 :: x10 :: x11 :: x12 :: x13 :: y :: l) H Q := h
theorem w_v15 {x0 x1 x2 x3 x4 x5 x6 x7 x8 x9 x10 x11 x12 x13 x14 : Option V} {l : L2.St} (h : Q v H) : GetN 15 (x0 :: x1 :: x2 :: x3 :: x4 :: x5 :: x6 :: x7 :: x8 :: x9 :: x10 :: x11 :: x12 :: x13 :: x14 :: some v :: l) H Q := ⟨v, rfl, h⟩
theorem w_n15 {x0 x1 x2 x3 x4 x5 x6 x7 x8 x9 x10 x11 x12 x13 x14 : Option V} {y : Option V} {l : L2.St} {Q : L2.St → Hp → Prop} (h : Q (x0 :: x1 :: x2 :: x3 :: x4 :: x5 :: x6 :: x7 :: x8 :: x9 :: x10 :: x11 :: x12 :: x13 :: x14 :: some v :: l) H) : SetN 15 v (x0 :: x1 :: x2 :: x3 :: x4 :: x5 :: x6 :: x7 :: x8 :: x9 :: x10 :: x11 :: x12 :: x13 :: x14 :: y :: l) H Q := h

/-! rules by values -/
theorem r_addI {i j : Int} (h : Q (.int (i + j)) H) : rAdd K (.int i) (.int j) H Q := .inl ⟨i, j, rfl, rfl, h⟩
theorem r_subI {i j : Int} (h : Q (.int (i - j)) H) : rSubI (.int i) (.int j) H Q := ⟨i, j, rfl, rfl, h⟩
theorem r_mulI {i j : Int} (hc : CMul i j) (h : Q (.int (i * j)) H) : rMul K (.int i) (.int j) H Q := .inl ⟨i, j, rfl, rfl, hc, h⟩
theorem r_divI {i j : Int} (h0 : 0 < j) (h1 : j < 2 ^ 62) (h : Q (.int (i / j)) H) : rDiv (.int i) (.int j) H Q := ⟨i, j, rfl, rfl, ⟨h0, by
  have h2 : j.natAbs < 2 ^ 62 := by omega
  have h3 : j.natAbs.log2 < 62 := (Nat.log2_lt (by omega)).mpr h2
  omega⟩, h⟩
theorem r_modI {i j : Int} (h0 : 0 < j) (h : Q (.int (i % j)) H) : rMod (.int i) (.int j) H Q := ⟨i, j, rfl, rfl, h0, h⟩
theorem r_addL {a b : Addr} {xs ys : List V} (ha : H a = some (.lst xs)) (hb : H b = some (.lst ys)) (hz : xs.length + ys.length ≤ sizeLine) (h : ∀ p H1, H p = none → Ex H H1 → H1 p = some (.lst (xs ++ ys)) → Q (.ref p) H1) : rAdd K (.ref a) (.ref b) H Q :=
  .inr (.inl ⟨a, b, xs, ys, rfl, rfl, ha, hb, hz, fun p hp => h p _ hp (Ex.new hp) upd_same⟩)
theorem r_addT {a b : Addr} {xs ys : List V} (ha : SqT K H a xs) (hb : SqT K H b ys) (hz : xs.length + ys.length ≤ sizeLine) (h : ∀ p H1, Ex H H1 → SqT K H1 p (xs ++ ys) → Q (.ref p) H1) : rAdd K (.ref a) (.ref b) H Q :=
  .inr (.inr (.inl ⟨a, b, xs, ys, rfl, rfl, ha, hb, hz, fun e => h b H (Ex.refl H) (by rw [e]; exact hb), fun _ e => h a H (Ex.refl H) (by rw [e, List.append_nil]; exact ha), fun _ _ p hp => h p _ (Ex.new hp) (st_of upd_same)⟩))
theorem r_neg {i : Int} (h : Q (.int (-i)) H) : (rU fun i => .int (-i)) (.int i) H Q := ⟨i, rfl, h⟩
theorem r_lt {i j : Int} (h : Q (.bl (decide (i < j))) H) : (rI0 fun i j => .bl (decide (i < j))) (.int i) (.int j) H Q := ⟨i, j, rfl, rfl, h⟩
theorem r_le {i j : Int} (h : Q (.bl (decide (i ≤ j))) H) : (rI0 fun i j => .bl (decide (i ≤ j))) (.int i) (.int j) H Q := ⟨i, j, rfl, rfl, h⟩
theorem r_gt {i j : Int} (h : Q (.bl (decide (j < i))) H) : (rI0 fun i j => .bl (decide (j < i))) (.int i) (.int j) H Q := ⟨i, j, rfl, rfl, h⟩
theorem r_ge {i j : Int} (h : Q (.bl (decide (j ≤ i))) H) : (rI0 fun i j => .bl (decide (j ≤ i))) (.int i) (.int j) H Q := ⟨i, j, rfl, rfl, h⟩
end
end M

/-! ### part C: data, equality, built-ins, comprehensions -/
namespace M
open PySem PySem.Spec PyProof.Rows L2 Evl

abbrev dInts (ns : List Int) : PyData := .tuple (ns.map .int)
abbrev dIntL (ns : List Int) : PyData := .list (ns.map .int)
def dOpt : Option Int → PyData
  | none => .none
  | some i => .int i
def optV : Option Int → V
  | none => .non
  | some i => .int i
abbrev vI (ns : List Int) : List V := ns.map V.int
abbrev dRaw (h l : List Int) (r : Int) : PyData := .tuple [dInts h, dInts l, .int r]

section
variable {K : PySem.W.Frag} {H H' : Hp} {v : V} {Q : VK}
mutual
theorem dp_ex (e : Ex H H') : ∀ {d : PyData} {v : V}, Dp K H v d → Dp K H' v d
  | _, _, .non => .non
  | _, _, .bl b => .bl b
  | _, _, .int i => .int i
  | _, _, .str x => .str x
  | _, _, .lst h a => .lst (ex_l e h) (dpAll_ex e a)
  | _, _, .tup h a => .tup (ex_t e h) (dpAll_ex e a)
theorem dpAll_ex (e : Ex H H') : ∀ {ds : List PyData} {vs : List V}, DpAll K H vs ds → DpAll K H' vs ds
  | _, _, .nil => .nil
  | _, _, .cons a r => .cons (dp_ex e a) (dpAll_ex e r)
end
theorem dpAll_ints : ∀ {ns : List Int} {vs : List V}, DpAll K H vs (ns.map .int) → vs = vI ns
  | [], _, .nil => rfl
  | _ :: _, _, .cons (.int _) r => by rw [dpAll_ints r]; rfl
theorem dpAll_of_ints : ∀ {ns : List Int}, DpAll K H (vI ns) (ns.map .int)
  | [] => .nil
  | n :: _ => .cons (.int n) dpAll_of_ints
theorem dp_ints {ns : List Int} (h : Dp K H v (dInts ns)) : ∃ a, v = .ref a ∧ SqT K H a (vI ns) := by
  cases h with
  | tup h a => rw [dpAll_ints a] at h; exact ⟨_, rfl, h⟩
theorem dp_intL {ns : List Int} (h : Dp K H v (dIntL ns)) : ∃ a, v = .ref a ∧ SqL K H a (vI ns) := by
  cases h with
  | lst h a => rw [dpAll_ints a] at h; exact ⟨_, rfl, h⟩
theorem dp_of_ints {a : Addr} {ns : List Int} (h : SqT K H a (vI ns)) : Dp K H (.ref a) (dInts ns) := .tup h dpAll_of_ints
theorem dp_of_intL {a : Addr} {ns : List Int} (h : SqL K H a (vI ns)) : Dp K H (.ref a) (dIntL ns) := .lst h dpAll_of_ints
theorem dp_opt {p : Option Int} (h : Dp K H v (dOpt p)) : v = optV p := by
  cases p with
  | none => cases h; rfl
  | some i => cases h; rfl
theorem dp_of_opt {p : Option Int} : Dp K H (optV p) (dOpt p) := by
  cases p with
  | none => exact .non
  | some i => exact .int i
theorem dp_toInt {i : Int} (h : Dp K H v (.int i)) : v = .int i := by cases h; rfl
theorem dp_toBl {b : Bool} (h : Dp K H v (.bool b)) : v = .bl b := by cases h; rfl
theorem dp_toNon (h : Dp K H v .none) : v = .non := by cases h; rfl
/-- a raw table: a triple of two tuples of ints and an int -/
structure RawAt (K : PySem.W.Frag) (H : Hp) (a : Addr) (h l : List Int) (r : Int) : Prop where
  ex : ∃ th tl, SqT K H a [.ref th, .ref tl, .int r] ∧ SqT K H th (vI h) ∧ SqT K H tl (vI l)
theorem dp_raw {h l : List Int} {r : Int} (d : Dp K H v (dRaw h l r)) : ∃ a th tl, v = .ref a ∧ SqT K H a [.ref th, .ref tl, .int r] ∧ SqT K H th (vI h) ∧ SqT K H tl (vI l) := by
  cases d with
  | tup s q =>
    cases q with
    | cons q1 q => cases q with
      | cons q2 q => cases q with
        | cons q3 q =>
          cases q
          cases q3
          obtain ⟨th, rfl, s1⟩ := dp_ints q1
          obtain ⟨tl, rfl, s2⟩ := dp_ints q2
          exact ⟨_, th, tl, rfl, s, s1, s2⟩
theorem dp_of_raw {a th tl : Addr} {h l : List Int} {r : Int} (s : SqT K H a [.ref th, .ref tl, .int r]) (s1 : SqT K H th (vI h)) (s2 : SqT K H tl (vI l)) : Dp K H (.ref a) (dRaw h l r) :=
  .tup s (.cons (dp_of_ints s1) (.cons (dp_of_ints s2) (.cons (.int r) .nil)))
theorem dp_t2 {d1 d2 : PyData} (d : Dp K H v (.tuple [d1, d2])) : ∃ a x y, v = .ref a ∧ SqT K H a [x, y] ∧ Dp K H x d1 ∧ Dp K H y d2 := by
  cases d with
  | tup s q => cases q with
    | cons q1 q => cases q with
      | cons q2 q => cases q; exact ⟨_, _, _, rfl, s, q1, q2⟩
theorem dp_t3 {d1 d2 d3 : PyData} (d : Dp K H v (.tuple [d1, d2, d3])) : ∃ a x y z, v = .ref a ∧ SqT K H a [x, y, z] ∧ Dp K H x d1 ∧ Dp K H y d2 ∧ Dp K H z d3 := by
  cases d with
  | tup s q => cases q with
    | cons q1 q => cases q with
      | cons q2 q => cases q with
        | cons q3 q => cases q; exact ⟨_, _, _, _, rfl, s, q1, q2, q3⟩
/-- what is wanted of a def that makes the value of d and leaves what stands -/
def RetD (K : PySem.W.Frag) (d : PyData) (H : Hp) (Q : VK) : Prop := ∀ v H', Ex H H' → Dp K H' v d → Q v H'
theorem RetD.int {i : Int} (k : RetD K (.int i) H Q) (e : Ex H H') : Q (.int i) H' := k _ _ e (.int i)
theorem RetD.bl {b : Bool} (k : RetD K (.bool b) H Q) (e : Ex H H') : Q (.bl b) H' := k _ _ e (.bl b)
theorem RetD.opt {p : Option Int} (k : RetD K (dOpt p) H Q) (e : Ex H H') : Q (optV p) H' := k _ _ e dp_of_opt
theorem RetD.non (k : RetD K .none H Q) (e : Ex H H') : Q .non H' := k _ _ e .non
end

/-! the type of data -/
def tyD : PyData → Value
  | .none => .type "NoneType"
  | .bool _ => .type "bool"
  | .int _ => .type "int"
  | .str _ => .type "str"
  | .list _ => .type "list"
  | .tuple _ => .type "tuple"
  | .dict _ => .type "dict"
section
variable {K : PySem.W.Frag} {H H' : Hp} {v : V} {Q : VK} {d : PyData}
theorem SqL.ty {a : Addr} {xs : List V} (h : SqL K H a xs) : TyX K H (.ref a) (.type "list") := by
  rcases h with (h | ⟨o, h⟩) | ⟨o, its, n, h, c, _⟩
  · exact .base (.lst h)
  · exact .base (.frz h)
  · exact .kList h c
theorem SqT.ty {a : Addr} {xs : List V} (h : SqT K H a xs) : TyX K H (.ref a) (.type "tuple") := by
  rcases h with (h | ⟨o, h⟩) | ⟨o, its, n, h, c, _⟩
  · exact .base (.tup h)
  · exact .fTuple h
  · exact .kTuple h c
theorem dp_ty (h : Dp K H v d) : TyX K H v (tyD d) := by
  cases h with
  | non => exact .base .non
  | bl b => exact .base (.bl b)
  | int i => exact .base (.int i)
  | str x => exact .base (.str x)
  | lst h a => exact SqL.ty h
  | tup h a => exact SqT.ty h
theorem r_isi {n : String} {b : Bool} {t : Value} (ty : TyX K H v t) (hb : PySem.W.kitOne K t (.type n) = some b) (h : Q (.bl b) H) : rIsi K [v, .ty n] H Q := ⟨v, .ty n, t, .type n, b, rfl, .ty n, ty, hb, h⟩
theorem r_isiC {C : Addr} {b : Bool} {t : Value} (ty : TyX K H v t) (hb : PySem.W.kitOne K t (.ref C) = some b) (h : Q (.bl b) H) : rIsi K [v, .ref C] H Q := ⟨v, .ref C, t, .ref C, b, rfl, .own C, ty, hb, h⟩
theorem r_isiT {tp : Addr} {n m : String} {b : Bool} {t : Value} (hT : H tp = some (.tup [.ty n, .ty m])) (ty : TyX K H v t) (hb : PySem.W.kitAny K t [.type n, .type m] = some b) (h : Q (.bl b) H) : rIsiT K [v, .ref tp] H Q :=
  ⟨v, tp, [.ty n, .ty m], t, [.type n, .type m], b, rfl, hT, .cons (.ty n) (.cons (.ty m) .nil), ty, hb, h⟩
end

/-! equality -/
theorem eqv_ints : ∀ xs ys : List Int, PyData.eqvAll (xs.map .int) (ys.map .int) = decide (xs = ys)
  | [], [] => rfl
  | [], _ :: _ => rfl
  | _ :: _, [] => rfl
  | x :: xs, y :: ys => by
    show (x == y && PyData.eqvAll (xs.map .int) (ys.map .int)) = _
    rw [eqv_ints xs ys]
    by_cases h : x = y
    · subst h; simp
    · simp [h]
theorem canLay_ints : ∀ xs : List Int, PyData.canLayAll0 (xs.map .int) = true
  | [] => rfl
  | x :: xs => by show (true && PyData.canLayAll0 (xs.map .int)) = true; rw [canLay_ints xs]; rfl
theorem depth_ints : ∀ xs : List Int, PyData.depthAll (xs.map .int) = 0
  | [] => rfl
  | x :: xs => by show max 0 (PyData.depthAll (xs.map .int)) = 0; rw [depth_ints xs]; rfl
theorem shaped_ints (xs : List Int) : SeqAt.shaped (dInts xs) = true := by
  show (PyData.canLayAll0 (xs.map .int) && decide (PyData.depthAll (xs.map .int) + 1 ≤ 64)) = true
  rw [canLay_ints, depth_ints]; rfl
theorem shaped_intL (xs : List Int) : SeqAt.shaped (dIntL xs) = true := by
  show (PyData.canLayAll0 (xs.map .int) && decide (PyData.depthAll (xs.map .int) + 1 ≤ 64)) = true
  rw [canLay_ints, depth_ints]; rfl
theorem shaped_raw (h l : List Int) (r : Int) : SeqAt.shaped (dRaw h l r) = true := by
  show (((PyData.canLayAll0 (h.map .int)) && ((PyData.canLayAll0 (l.map .int)) && (true && true))) && decide (max (PyData.depthAll (h.map .int) + 1) (max (PyData.depthAll (l.map .int) + 1) (max 0 0)) + 1 ≤ 64)) = true
  rw [canLay_ints, canLay_ints, depth_ints, depth_ints]; rfl
theorem eqv_raw (h l h' l' : List Int) (r r' : Int) : PyData.eqv (dRaw h l r) (dRaw h' l' r') = decide (h = h' ∧ l = l' ∧ r = r') := by
  show (PyData.eqvAll (h.map .int) (h'.map .int) && (PyData.eqvAll (l.map .int) (l'.map .int) && (r == r' && true))) = _
  rw [eqv_ints, eqv_ints]
  by_cases h1 : h = h' <;> by_cases h2 : l = l' <;> by_cases h3 : r = r' <;> simp [h1, h2, h3]
section
variable {K : PySem.W.Frag} {H H' : Hp} {x y : V} {Q : VK} {d e : PyData}
theorem r_eqI {i j : Int} (h : Q (.bl (decide (i = j))) H) : rEqU K (.int i) (.int j) H Q := .inl ⟨rfl, by
  have q : decide (V.int i = V.int j) = decide (i = j) := decide_eq_decide.mpr ⟨V.int.inj, congrArg _⟩
  rw [q]; exact h⟩
theorem r_neI {i j : Int} (h : Q (.bl (!decide (i = j))) H) : rNeU K (.int i) (.int j) H Q := .inl ⟨rfl, by
  have q : decide (V.int i = V.int j) = decide (i = j) := decide_eq_decide.mpr ⟨V.int.inj, congrArg _⟩
  rw [q]; exact h⟩
theorem r_eqB {i j : Bool} (h : Q (.bl (decide (i = j))) H) : rEqU K (.bl i) (.bl j) H Q := .inl ⟨rfl, by
  have q : decide (V.bl i = V.bl j) = decide (i = j) := decide_eq_decide.mpr ⟨V.bl.inj, congrArg _⟩
  rw [q]; exact h⟩
theorem optV_inj {p q : Option Int} : optV p = optV q ↔ p = q := by
  cases p <;> cases q <;> simp [optV]
theorem scal_opt (p q : Option Int) : scal (optV p) (optV q) = true := by cases p <;> cases q <;> rfl
theorem r_eqO {p q : Option Int} (h : Q (.bl (decide (p = q))) H) : rEqU K (optV p) (optV q) H Q := .inl ⟨scal_opt p q, by
  have z : decide (optV p = optV q) = decide (p = q) := decide_eq_decide.mpr optV_inj
  rw [z]; exact h⟩
theorem r_neO {p q : Option Int} (h : Q (.bl (!decide (p = q))) H) : rNeU K (optV p) (optV q) H Q := .inl ⟨scal_opt p q, by
  have z : decide (optV p = optV q) = decide (p = q) := decide_eq_decide.mpr optV_inj
  rw [z]; exact h⟩
theorem r_eqD (hd : Dp K H x d) (he : Dp K H y e) (sd : SeqAt.shaped d = true) (se : SeqAt.shaped e = true) (h : Q (.bl (PyData.eqv d e)) H) : rEqU K x y H Q := .inr ⟨d, e, hd, he, sd, se, h⟩
theorem r_neD (hd : Dp K H x d) (he : Dp K H y e) (sd : SeqAt.shaped d = true) (se : SeqAt.shaped e = true) (h : Q (.bl (!PyData.eqv d e)) H) : rNeU K x y H Q := .inr ⟨d, e, hd, he, sd, se, h⟩
theorem r_eqT {a b : Addr} {xs ys : List Int} (ha : SqT K H a (vI xs)) (hb : SqT K H b (vI ys)) (h : Q (.bl (decide (xs = ys))) H) : rEqU K (.ref a) (.ref b) H Q :=
  r_eqD (dp_of_ints ha) (dp_of_ints hb) (shaped_ints _) (shaped_ints _) (by rw [show PyData.eqv (dInts xs) (dInts ys) = decide (xs = ys) from eqv_ints xs ys]; exact h)
theorem r_neT {a b : Addr} {xs ys : List Int} (ha : SqT K H a (vI xs)) (hb : SqT K H b (vI ys)) (h : Q (.bl (!decide (xs = ys))) H) : rNeU K (.ref a) (.ref b) H Q :=
  r_neD (dp_of_ints ha) (dp_of_ints hb) (shaped_ints _) (shaped_ints _) (by rw [show PyData.eqv (dInts xs) (dInts ys) = decide (xs = ys) from eqv_ints xs ys]; exact h)
theorem r_neL {a b : Addr} {xs ys : List Int} (ha : SqL K H a (vI xs)) (hb : SqL K H b (vI ys)) (h : Q (.bl (!decide (xs = ys))) H) : rNeU K (.ref a) (.ref b) H Q :=
  r_neD (dp_of_intL ha) (dp_of_intL hb) (shaped_intL _) (shaped_intL _) (by rw [show PyData.eqv (dIntL xs) (dIntL ys) = decide (xs = ys) from eqv_ints xs ys]; exact h)
/-! is None -/
def rIs : R2 := fun x y H Q => y = .non ∧ Q (.bl (decide (x = .non))) H
def rIsNot : R2 := fun x y H Q => y = .non ∧ Q (.bl (!decide (x = .non))) H
theorem xIs {X : Cx} : OpR X (compareOp .Is) rIs := op_isN
theorem xIsNot {X : Cx} : OpR X (compareOp .IsNot) rIsNot := op_notN
theorem r_isO {p : Option Int} (h : Q (.bl (decide (p = none))) H) : rIs (optV p) .non H Q := ⟨rfl, by
  have z : decide (optV p = V.non) = decide (p = none) := decide_eq_decide.mpr (by cases p <;> simp [optV])
  rw [z]; exact h⟩
theorem r_isNotO {p : Option Int} (h : Q (.bl (!decide (p = none))) H) : rIsNot (optV p) .non H Q := ⟨rfl, by
  have z : decide (optV p = V.non) = decide (p = none) := decide_eq_decide.mpr (by cases p <;> simp [optV])
  rw [z]; exact h⟩
theorem r_isI {i : Int} (h : Q (.bl false) H) : rIs (.int i) .non H Q := ⟨rfl, h⟩
theorem r_isN (h : Q (.bl true) H) : rIs .non .non H Q := ⟨rfl, h⟩
theorem r_isR {a : Addr} (h : Q (.bl false) H) : rIs (.ref a) .non H Q := ⟨rfl, h⟩
theorem r_isNotI {i : Int} (h : Q (.bl true) H) : rIsNot (.int i) .non H Q := ⟨rfl, h⟩
theorem r_isNotN (h : Q (.bl false) H) : rIsNot .non .non H Q := ⟨rfl, h⟩
theorem r_isNotR {a : Addr} (h : Q (.bl true) H) : rIsNot (.ref a) .non H Q := ⟨rfl, h⟩
end

/-! built-ins by names of our own -/
section
variable {X : Cx} {K : PySem.W.Frag} {H : Hp} {Q : VK}
def rLenU (K : PySem.W.Frag) : List V → Hp → VK → Prop := fun xs H Q => ∃ x n, xs = [x] ∧ LenV K x H n ∧ Q (.int n) H
theorem xLen : CallR X (.builtin "len") (rLenU X.K) := call_len
theorem r_lenT {a : Addr} {xs : List V} (h : SqT K H a xs) (q : Q (.int (xs.length : Int)) H) : rLenU K [.ref a] H Q := ⟨_, xs.length, rfl, .inr ⟨xs, h, rfl⟩, q⟩
theorem r_lenL {a : Addr} {xs : List V} (h : SqL K H a xs) (q : Q (.int (xs.length : Int)) H) : rLenU K [.ref a] H Q := ⟨_, xs.length, rfl, .inl ⟨xs, h, rfl⟩, q⟩
theorem r_lenTI {a : Addr} {xs : List Int} (h : SqT K H a (vI xs)) (q : Q (.int (xs.length : Int)) H) : rLenU K [.ref a] H Q := r_lenT h (by rw [List.length_map]; exact q)
theorem r_lenLI {a : Addr} {xs : List Int} (h : SqL K H a (vI xs)) (q : Q (.int (xs.length : Int)) H) : rLenU K [.ref a] H Q := r_lenL h (by rw [List.length_map]; exact q)
def rAbsU : List V → Hp → VK → Prop := fun xs H Q => ∃ i, xs = [.int i] ∧ Q (.int (if i < 0 then -i else i)) H
theorem xAbs : CallR X (.builtin "abs") rAbsU := call_abs
theorem r_abs {i : Int} (q : Q (.int (i.natAbs : Int)) H) : rAbsU [.int i] H Q := ⟨i, rfl, by
  have e : (if i < 0 then -i else i) = (i.natAbs : Int) := by split <;> omega
  rw [e]; exact q⟩
def rMax2U : List V → Hp → VK → Prop := fun xs H Q => ∃ i j, xs = [.int i, .int j] ∧ Q (.int (if j > i then j else i)) H
theorem xMax2 (hc : X.calm = true) : CallR X (.builtin "max") rMax2U := call_max2 hc
theorem r_max2 {i j : Int} (q : Q (.int (max i j)) H) : rMax2U [.int i, .int j] H Q := ⟨i, j, rfl, by
  have e : (if j > i then j else i) = max i j := by split <;> omega
  rw [e]; exact q⟩
def rMin2U : List V → Hp → VK → Prop := fun xs H Q => ∃ i j, xs = [.int i, .int j] ∧ Q (.int (if j < i then j else i)) H
theorem xMin2 (hc : X.calm = true) : CallR X (.builtin "min") rMin2U := call_min2 hc
theorem r_min2 {i j : Int} (q : Q (.int (min i j)) H) : rMin2U [.int i, .int j] H Q := ⟨i, j, rfl, by
  have e : (if j < i then j else i) = min i j := by split <;> omega
  rw [e]; exact q⟩
def rIntU : List V → Hp → VK → Prop := fun xs H Q => (∃ i, xs = [.int i] ∧ Q (.int i) H) ∨ ∃ k, xs = [.bl k] ∧ Q (.int (if k then 1 else 0)) H
theorem xInt : CallR X (.type "int") rIntU := call_int1
theorem r_int {i : Int} (q : Q (.int i) H) : rIntU [.int i] H Q := .inl ⟨i, rfl, q⟩
def rBoolU : List V → Hp → VK → Prop := fun xs H Q => (∃ i, xs = [.int i] ∧ Q (.bl (i != 0)) H) ∨ ∃ k, xs = [.bl k] ∧ Q (.bl k) H
theorem xBool : CallR X (.type "bool") rBoolU := call_bool1
theorem r_boolB {b : Bool} (q : Q (.bl b) H) : rBoolU [.bl b] H Q := .inr ⟨b, rfl, q⟩
def rLstU (K : PySem.W.Frag) : List V → Hp → VK → Prop := fun xs H Q => ∃ p ys, xs = [.ref p] ∧ (SqL K H p ys ∨ SqT K H p ys) ∧ ∀ l, H l = none → Q (.ref l) (upd H l (.lst ys))
theorem xLst : CallR X (.type "list") (rLstU X.K) := call_list_of
theorem r_lstL {a : Addr} {xs : List V} (h : SqL K H a xs) (q : ∀ p H1, H p = none → Ex H H1 → H1 p = some (.lst xs) → Q (.ref p) H1) : rLstU K [.ref a] H Q := ⟨a, xs, rfl, .inl h, fun p hp => q p _ hp (Ex.new hp) upd_same⟩
theorem r_lstT {a : Addr} {xs : List V} (h : SqT K H a xs) (q : ∀ p H1, H p = none → Ex H H1 → H1 p = some (.lst xs) → Q (.ref p) H1) : rLstU K [.ref a] H Q := ⟨a, xs, rfl, .inr h, fun p hp => q p _ hp (Ex.new hp) upd_same⟩
def rTupU (K : PySem.W.Frag) : List V → Hp → VK → Prop := fun xs H Q => ∃ p ys, xs = [.ref p] ∧ ((SqL K H p ys ∧ ∀ l, H l = none → Q (.ref l) (upd H l (.tup ys))) ∨ (SqT K H p ys ∧ Q (.ref p) H))
theorem xTup : CallR X (.type "tuple") (rTupU X.K) := call_tuple_of
theorem r_tupL {a : Addr} {xs : List V} (h : SqL K H a xs) (q : ∀ p H1, Ex H H1 → SqT K H1 p xs → Q (.ref p) H1) : rTupU K [.ref a] H Q := ⟨a, xs, rfl, .inl ⟨h, fun p hp => q p _ (Ex.new hp) (st_of upd_same)⟩⟩
theorem r_tupT {a : Addr} {xs : List V} (h : SqT K H a xs) (q : ∀ p H1, Ex H H1 → SqT K H1 p xs → Q (.ref p) H1) : rTupU K [.ref a] H Q := ⟨a, xs, rfl, .inr ⟨h, q a H (Ex.refl H) h⟩⟩
theorem r_all {a : Addr} {bs : List Bool} {xs : List V} (h : SqL K H a xs) (e : xs = bs.map V.bl) (q : Q (.bl (bs.all id)) H) : rAll K [.ref a] H Q := ⟨a, bs, rfl, by rw [← e]; exact h, q⟩
theorem r_any {a : Addr} {bs : List Bool} {xs : List V} (h : SqL K H a xs) (e : xs = bs.map V.bl) (q : Q (.bl (bs.any id)) H) : rAny K [.ref a] H Q := ⟨a, bs, rfl, by rw [← e]; exact h, q⟩
/-! indices -/
theorem atI_pos {α : Type} {xs : List α} {i : Int} {v : α} (h0 : 0 ≤ i) (h : xs[i.toNat]? = some v) : atI xs i = some v := by
  have hl : i.toNat < xs.length := (List.getElem?_eq_some_iff.mp h).1
  unfold atI ixN
  rw [if_pos h0, if_pos (by omega)]
  exact h
theorem atI_neg {α : Type} {xs : List α} {i : Int} {v : α} (h0 : i < 0) (h1 : -(xs.length : Int) ≤ i) (h : xs[(i + xs.length).toNat]? = some v) : atI xs i = some v := by
  unfold atI ixN
  rw [if_neg (by omega), if_pos h1]
  exact h
/-- the int at a place of a list of ints -/
def gI (xs : List Int) (i : Int) : Int := xs.getD i.toNat 0
theorem atI_ints {xs : List Int} {i : Int} (h0 : 0 ≤ i) (h1 : i < xs.length) : atI (vI xs) i = some (V.int (gI xs i)) := by
  refine atI_pos h0 ?_
  have hl : i.toNat < xs.length := by omega
  rw [List.getElem?_map, List.getElem?_eq_getElem hl]
  show some (V.int xs[i.toNat]) = some (V.int (xs.getD i.toNat 0))
  rw [List.getD_eq_getElem?_getD, List.getElem?_eq_getElem hl]; rfl
theorem atI_intsN {xs : List Int} {i : Int} (h0 : i < 0) (h1 : -(xs.length : Int) ≤ i) : atI (vI xs) i = some (V.int (gI xs (i + xs.length))) := by
  have hl : (i + xs.length).toNat < xs.length := by omega
  refine atI_neg h0 (by rw [List.length_map]; exact h1) ?_
  rw [List.length_map, List.getElem?_map, List.getElem?_eq_getElem hl]
  show some (V.int xs[(i + xs.length).toNat]) = some (V.int (xs.getD (i + xs.length).toNat 0))
  rw [List.getD_eq_getElem?_getD, List.getElem?_eq_getElem hl]; rfl
theorem r_ixT {a : Addr} {xs : List V} {i : Int} {v : V} (h : SqT K H a xs) (ha : atI xs i = some v) (q : Q v H) : rIx K (.ref a) (.int i) H Q := .inr (.inl ⟨a, xs, i, v, rfl, rfl, h, ha, q⟩)
theorem r_ixL {a : Addr} {xs : List V} {i : Int} {v : V} (h : SqL K H a xs) (ha : atI xs i = some v) (q : Q v H) : rIx K (.ref a) (.int i) H Q := .inl ⟨a, xs, i, v, rfl, rfl, h, ha, q⟩
theorem r_ixTI {a : Addr} {xs : List Int} {i : Int} (h : SqT K H a (vI xs)) (h0 : 0 ≤ i) (h1 : i < xs.length) (q : Q (.int (gI xs i)) H) : rIx K (.ref a) (.int i) H Q := r_ixT h (atI_ints h0 h1) q
theorem r_ixTN {a : Addr} {xs : List Int} {i : Int} (h : SqT K H a (vI xs)) (h0 : i < 0) (h1 : -(xs.length : Int) ≤ i) (q : Q (.int (gI xs (i + xs.length))) H) : rIx K (.ref a) (.int i) H Q := r_ixT h (atI_intsN h0 h1) q
theorem r_ixLI {a : Addr} {xs : List Int} {i : Int} (h : SqL K H a (vI xs)) (h0 : 0 ≤ i) (h1 : i < xs.length) (q : Q (.int (gI xs i)) H) : rIx K (.ref a) (.int i) H Q := r_ixL h (atI_ints h0 h1) q
theorem r_ixLN {a : Addr} {xs : List Int} {i : Int} (h : SqL K H a (vI xs)) (h0 : i < 0) (h1 : -(xs.length : Int) ≤ i) (q : Q (.int (gI xs (i + xs.length))) H) : rIx K (.ref a) (.int i) H Q := r_ixL h (atI_intsN h0 h1) q
/-! slices -/
def rSlI (xs : List Int) (lo hi : Option Int) : List Int := (xs.drop (HT.sIx xs.length 0 lo)).take (HT.sIx xs.length xs.length hi - HT.sIx xs.length 0 lo)
theorem cut_ints (xs : List Int) (lo hi : Option Int) : cutV (vI xs) lo hi = vI (rSlI xs lo hi) := by
  unfold cutV rSlI
  rw [List.length_map, ← List.map_drop, ← List.map_take]
theorem r_slL {a : Addr} {xs : List V} {lo hi : Option Int} (h : SqL K H a xs) (q : ∀ p H1, H p = none → Ex H H1 → H1 p = some (.lst (cutV xs lo hi)) → Q (.ref p) H1) : rSl K (.ref a) lo hi H Q :=
  .inl ⟨a, xs, rfl, h, fun p hp => q p _ hp (Ex.new hp) upd_same⟩
theorem cut_whole {xs : List V} {lo hi : Option Int} (h1 : HT.sIx xs.length 0 lo = 0) (h2 : HT.sIx xs.length xs.length hi = xs.length) : cutV xs lo hi = xs := by
  unfold cutV
  rw [h1, h2, List.drop_zero, Nat.sub_zero, List.take_length]
theorem r_slT {a : Addr} {xs : List V} {lo hi : Option Int} (h : SqT K H a xs) (q : ∀ p H1, Ex H H1 → SqT K H1 p (cutV xs lo hi) → Q (.ref p) H1) : rSl K (.ref a) lo hi H Q :=
  .inr (.inl ⟨a, xs, rfl, h, fun e => q a H (Ex.refl H) (by rw [cut_whole e.1 e.2]; exact h), fun _ p hp => q p _ (Ex.new hp) (st_of upd_same)⟩)
theorem cutV_to {α : Type} {xs : List α} {i : Int} (h : 0 ≤ i) (f : α → V) : cutV (xs.map f) none (some i) = (xs.take i.toNat).map f := by
  have e : cutV (xs.map f) none (some i) = ((xs.map f).drop 0).take (HT.sIx (xs.map f).length (xs.map f).length (some i) - 0) := rfl
  have e2 : HT.sIx (xs.map f).length (xs.map f).length (some i) = min i.toNat (xs.map f).length := if_neg (by omega)
  rw [e, e2, List.drop_zero, Nat.sub_zero, List.map_take]
  rcases Nat.le_total i.toNat (xs.map f).length with h1 | h1
  · rw [Nat.min_eq_left h1]
  · rw [Nat.min_eq_right h1, List.take_length, List.take_of_length_le h1]
theorem cutV_from {α : Type} {xs : List α} {i : Int} (h : 0 ≤ i) (f : α → V) : cutV (xs.map f) (some i) none = (xs.drop i.toNat).map f := by
  have e : cutV (xs.map f) (some i) none = ((xs.map f).drop (HT.sIx (xs.map f).length 0 (some i))).take ((xs.map f).length - HT.sIx (xs.map f).length 0 (some i)) := rfl
  have e2 : HT.sIx (xs.map f).length 0 (some i) = min i.toNat (xs.map f).length := if_neg (by omega)
  rw [e, e2, List.map_drop]
  rcases Nat.le_total i.toNat (xs.map f).length with h1 | h1
  · rw [Nat.min_eq_left h1, List.take_of_length_le (by rw [List.length_drop]; omega)]
  · rw [Nat.min_eq_right h1, List.drop_eq_nil_of_le h1, List.drop_eq_nil_of_le (Nat.le_refl _), List.take_nil]
theorem cutV_mid {α : Type} {xs : List α} {i j : Int} (h : 0 ≤ i) (hij : i ≤ j) (hj : j ≤ xs.length) (f : α → V) : cutV (xs.map f) (some i) (some j) = ((xs.drop i.toNat).take (j - i).toNat).map f := by
  have e : cutV (xs.map f) (some i) (some j) = ((xs.map f).drop (HT.sIx (xs.map f).length 0 (some i))).take (HT.sIx (xs.map f).length (xs.map f).length (some j) - HT.sIx (xs.map f).length 0 (some i)) := rfl
  have e2 : HT.sIx (xs.map f).length 0 (some i) = min i.toNat (xs.map f).length := if_neg (by omega)
  have e3 : HT.sIx (xs.map f).length (xs.map f).length (some j) = min j.toNat (xs.map f).length := if_neg (by omega)
  rw [e, e2, e3, List.length_map, Nat.min_eq_left (by omega), Nat.min_eq_left (by omega), List.map_take, List.map_drop, show (j - i).toNat = j.toNat - i.toNat by omega]

theorem r_slTto {a : Addr} {xs : List Int} {i : Int} (h : SqT K H a (vI xs)) (h0 : 0 ≤ i) (q : ∀ p H1, Ex H H1 → SqT K H1 p (vI (xs.take i.toNat)) → Q (.ref p) H1) : rSl K (.ref a) none (some i) H Q := r_slT h (by rw [cutV_to h0]; exact q)
theorem r_slTfrom {a : Addr} {xs : List Int} {i : Int} (h : SqT K H a (vI xs)) (h0 : 0 ≤ i) (q : ∀ p H1, Ex H H1 → SqT K H1 p (vI (xs.drop i.toNat)) → Q (.ref p) H1) : rSl K (.ref a) (some i) none H Q := r_slT h (by rw [cutV_from h0]; exact q)
theorem r_slLto {a : Addr} {xs : List Int} {i : Int} (h : SqL K H a (vI xs)) (h0 : 0 ≤ i) (q : ∀ p H1, H p = none → Ex H H1 → H1 p = some (.lst (vI (xs.take i.toNat))) → Q (.ref p) H1) : rSl K (.ref a) none (some i) H Q := r_slL h (by rw [cutV_to h0]; exact q)
theorem r_slLfrom {a : Addr} {xs : List Int} {i : Int} (h : SqL K H a (vI xs)) (h0 : 0 ≤ i) (q : ∀ p H1, H p = none → Ex H H1 → H1 p = some (.lst (vI (xs.drop i.toNat))) → Q (.ref p) H1) : rSl K (.ref a) (some i) none H Q := r_slL h (by rw [cutV_from h0]; exact q)
theorem r_slLmid {a : Addr} {xs : List Int} {i j : Int} (h : SqL K H a (vI xs)) (h0 : 0 ≤ i) (hij : i ≤ j) (hj : j ≤ xs.length) (q : ∀ p H1, H p = none → Ex H H1 → H1 p = some (.lst (vI ((xs.drop i.toNat).take (j - i).toNat))) → Q (.ref p) H1) : rSl K (.ref a) (some i) (some j) H Q := r_slL h (by rw [cutV_mid h0 hij hj]; exact q)
/-! comprehensions whose parts leave what stands -/
theorem w_lc {wi : TI} {g : TG} {tt : TT} {te : TE} {vs : List Nat} {σ : L2.St} (h : wi σ H fun J H1 => ∀ D, H1 D = none → ∃ W : Nat → Nat → Hp → Prop, (∃ m, W 0 m (upd H1 D (.lst []))) ∧ ∀ i m H, W i m H →
  (J.stop i H ∧ Q (.ref D) H) ∨ (J.go i H ∧ ∃ Nx : Hp → Prop, (∀ H', Nx H' → ∃ m', m' < m ∧ W (i + 1) m' H') ∧ ∀ x H', J.yld i H x H' → g x (wipe σ vs) H' fun σ2 H2 => wipe σ2 vs = wipe σ vs ∧ tt σ2 H2 fun b H3 =>
    if b = true then te σ2 H3 fun y H4 => ∃ acc, H4 D = some (.lst acc) ∧ acc.length < sizeLine ∧ Nx (upd H4 D (.lst (acc ++ [y]))) else Nx H3)) : tLc wi g tt te vs σ H Q := h
/-- what a comprehension over J asks, J named -/
def LcJ (J : It) (g : TG) (tt : TT) (te : TE) (vs : List Nat) (σ : L2.St) (H1 : Hp) (Q : VK) : Prop := ∀ D, H1 D = none → ∃ W : Nat → Nat → Hp → Prop, (∃ m, W 0 m (upd H1 D (.lst []))) ∧ ∀ i m H, W i m H →
  (J.stop i H ∧ Q (.ref D) H) ∨ (J.go i H ∧ ∃ Nx : Hp → Prop, (∀ H', Nx H' → ∃ m', m' < m ∧ W (i + 1) m' H') ∧ ∀ x H', J.yld i H x H' → g x (wipe σ vs) H' fun σ2 H2 => wipe σ2 vs = wipe σ vs ∧ tt σ2 H2 fun b H3 =>
    if b = true then te σ2 H3 fun y H4 => ∃ acc, H4 D = some (.lst acc) ∧ acc.length < sizeLine ∧ Nx (upd H4 D (.lst (acc ++ [y]))) else Nx H3)
theorem w_lcJ {wi : TI} {g : TG} {tt : TT} {te : TE} {vs : List Nat} {σ : L2.St} (h : wi σ H fun J H1 => LcJ J g tt te vs σ H1 Q) : tLc wi g tt te vs σ H Q := h
/-- over a range, every item kept, item i giving v i -/
theorem lcJ_range {lo : Int} {n j : Nat} {te : TE} {vs : List Nat} {σ : L2.St} (v : Nat → V) (hn : n ≤ 100000) (σ' : V → L2.St) (hσ : ∀ x, (wipe σ vs).set j (some x) = σ' x) (hw : ∀ x, wipe ((wipe σ vs).set j (some x)) vs = wipe σ vs)
    (he : ∀ (i : Nat) (H1 : Hp) (Q' : VK), Ex H H1 → i < n → (∀ H2, Ex H1 H2 → Q' (v i) H2) → te (σ' (.int (lo + (i : Int)))) H1 Q')
    (hq : ∀ p H2, H p = none → Ex H H2 → H2 p = some (.lst ((List.range n).map v)) → Q (.ref p) H2) : LcJ (Itr lo n) (gName j) tYes te vs σ H Q := fun D hD =>
  lc_range (Pv := fun i H' => Ex H H' ∧ H' D = some (.lst ((List.range i).map v))) ⟨Ex.new hD, upd_same⟩ (fun i H' hi p => ⟨hw _, by
    show te ((wipe σ vs).set j _) H' _
    rw [hσ]
    refine he i H' _ p.1 hi fun H2 e2 => ⟨(List.range i).map v, e2 D _ p.2, sz_lt (by simp only [List.length_map, List.length_range]; omega), Ex.mut (p.1.trans e2) hD, ?_⟩
    rw [List.range_succ, List.map_append]
    exact upd_same⟩) fun H' p => hq D H' hD p.1 p.2
theorem lcJ_r0 {n j : Nat} {te : TE} {vs : List Nat} {σ : L2.St} (v : Nat → V) (hn : n ≤ 100000) (σ' : V → L2.St) (hσ : ∀ x, (wipe σ vs).set j (some x) = σ' x) (hw : ∀ x, wipe ((wipe σ vs).set j (some x)) vs = wipe σ vs)
    (he : ∀ (i : Nat) (H1 : Hp) (Q' : VK), Ex H H1 → i < n → (∀ H2, Ex H1 H2 → Q' (v i) H2) → te (σ' (.int (i : Int))) H1 Q')
    (hq : ∀ p H2, H p = none → Ex H H2 → H2 p = some (.lst ((List.range n).map v)) → Q (.ref p) H2) : LcJ (Itr 0 n) (gName j) tYes te vs σ H Q :=
  lcJ_range v hn σ' hσ hw (fun i H1 Q' e hi k => by rw [Int.zero_add]; exact he i H1 Q' e hi k) hq
/-- over a list or a tuple -/
theorem lcJ_list {a : Addr} {xs : List V} {j : Nat} {te : TE} {vs : List Nat} {σ : L2.St} (v : V → V) (hx : SqL K H a xs) (hn : xs.length ≤ 100000) (σ' : V → L2.St) (hσ : ∀ x, (wipe σ vs).set j (some x) = σ' x) (hw : ∀ x, wipe ((wipe σ vs).set j (some x)) vs = wipe σ vs)
    (he : ∀ (x : V) (H1 : Hp) (Q' : VK), Ex H H1 → x ∈ xs → (∀ H2, Ex H1 H2 → Q' (v x) H2) → te (σ' x) H1 Q')
    (hq : ∀ p H2, H p = none → Ex H H2 → H2 p = some (.lst (xs.map v)) → Q (.ref p) H2) : LcJ (Itl K a) (gName j) tYes te vs σ H Q := fun D hD =>
  lc_list (xs := xs) (Pv := fun i H' => Ex H H' ∧ H' D = some (.lst ((xs.take i).map v))) ⟨Ex.new hD, upd_same⟩ (fun i H' _ p => ex_l p.1 hx) (fun i x H' hi p => ⟨hw _, by
    show te ((wipe σ vs).set j _) H' _
    rw [hσ]
    refine he x H' _ p.1 (List.mem_of_getElem? hi) fun H2 e2 => ⟨(xs.take i).map v, e2 D _ p.2, sz_lt (by rw [List.length_map, List.length_take]; have := (List.getElem?_eq_some_iff.mp hi).1; omega), Ex.mut (p.1.trans e2) hD, ?_⟩
    rw [List.take_add_one, hi, List.map_append]
    exact upd_same⟩) fun H' p => hq D H' hD p.1 (by rw [List.take_length] at p; exact p.2)
theorem lcJ_tup {a : Addr} {xs : List V} {j : Nat} {te : TE} {vs : List Nat} {σ : L2.St} (v : V → V) (hx : SqT K H a xs) (hn : xs.length ≤ 100000) (σ' : V → L2.St) (hσ : ∀ x, (wipe σ vs).set j (some x) = σ' x) (hw : ∀ x, wipe ((wipe σ vs).set j (some x)) vs = wipe σ vs)
    (he : ∀ (x : V) (H1 : Hp) (Q' : VK), Ex H H1 → x ∈ xs → (∀ H2, Ex H1 H2 → Q' (v x) H2) → te (σ' x) H1 Q')
    (hq : ∀ p H2, H p = none → Ex H H2 → H2 p = some (.lst (xs.map v)) → Q (.ref p) H2) : LcJ (Itt K a) (gName j) tYes te vs σ H Q := fun D hD =>
  lc_tup (xs := xs) (Pv := fun i H' => Ex H H' ∧ H' D = some (.lst ((xs.take i).map v))) ⟨Ex.new hD, upd_same⟩ (fun i H' _ p => ex_t p.1 hx) (fun i x H' hi p => ⟨hw _, by
    show te ((wipe σ vs).set j _) H' _
    rw [hσ]
    refine he x H' _ p.1 (List.mem_of_getElem? hi) fun H2 e2 => ⟨(xs.take i).map v, e2 D _ p.2, sz_lt (by rw [List.length_map, List.length_take]; have := (List.getElem?_eq_some_iff.mp hi).1; omega), Ex.mut (p.1.trans e2) hD, ?_⟩
    rw [List.take_add_one, hi, List.map_append]
    exact upd_same⟩) fun H' p => hq D H' hD p.1 (by rw [List.take_length] at p; exact p.2)
/-! what is walked -/
def SeqLi (K : PySem.W.Frag) (R : It → Hp → Prop) (x : V) (H1 : Hp) : Prop := ∃ a, x = .ref a ∧ (∃ xs, SqL K H1 a xs) ∧ R (Itl K a) H1
def SeqTi (K : PySem.W.Frag) (R : It → Hp → Prop) (x : V) (H1 : Hp) : Prop := ∃ a, x = .ref a ∧ (∃ xs, SqT K H1 a xs) ∧ R (Itt K a) H1
theorem i_seqL {tl : TE} {σ : L2.St} {R : It → Hp → Prop} (h : tl σ H fun x H1 => SeqLi K R x H1) : iSeq K tl σ H R := .inl h
theorem i_seqT {tl : TE} {σ : L2.St} {R : It → Hp → Prop} (h : tl σ H fun x H1 => SeqTi K R x H1) : iSeq K tl σ H R := .inr h
theorem i_xL {a : Addr} {xs : List V} {R : It → Hp → Prop} (hx : SqL K H a xs) (h : R (Itl K a) H) : SeqLi K R (.ref a) H := ⟨a, rfl, ⟨xs, hx⟩, h⟩
theorem i_xT {a : Addr} {xs : List V} {R : It → Hp → Prop} (hx : SqT K H a xs) (h : R (Itt K a) H) : SeqTi K R (.ref a) H := ⟨a, rfl, ⟨xs, hx⟩, h⟩
def Rng1 (R : It → Hp → Prop) (vs : List V) (H1 : Hp) : Prop := ∃ j : Int, vs = [.int j] ∧ -(2 ^ 62) ≤ j ∧ j < 2 ^ 62 ∧ R (Itr 0 j.toNat) H1
def Rng2 (R : It → Hp → Prop) (vs : List V) (H1 : Hp) : Prop := ∃ i j : Int, vs = [.int i, .int j] ∧ (-(2 ^ 62) ≤ i ∧ i < 2 ^ 62 ∧ -(2 ^ 62) ≤ j ∧ j < 2 ^ 62) ∧ R (Itr i (j - i).toNat) H1
theorem i_r1 {ta : TA} {σ : L2.St} {R : It → Hp → Prop} (h : ta σ H fun vs H1 => Rng1 R vs H1) : iRng1 ta σ H R := h
theorem i_r2 {ta : TA} {σ : L2.St} {R : It → Hp → Prop} (h : ta σ H fun vs H1 => Rng2 R vs H1) : iRng2 ta σ H R := h
theorem i_x1 {j : Int} {R : It → Hp → Prop} (hj : -1000000000 ≤ j ∧ j ≤ 1000000000) (h : R (Itr 0 j.toNat) H) : Rng1 R [V.int j] H := ⟨j, rfl, by omega, by omega, h⟩
theorem i_x2 {i j : Int} {R : It → Hp → Prop} (hij : -1000000000 ≤ i ∧ i ≤ 1000000000 ∧ -1000000000 ≤ j ∧ j ≤ 1000000000) (h : R (Itr i (j - i).toNat) H) : Rng2 R [V.int i, V.int j] H := ⟨i, j, rfl, by omega, h⟩
/-! loops, J named -/
def ForJ (J : It) (g : TG) (tb : TS) (D : Ends) (σ : L2.St) (H1 : Hp) : Prop := ∃ W : Nat → Nat → L2.St → Hp → Prop, (∃ m, W 0 m σ H1) ∧ ∀ i m σ H, W i m σ H →
  (J.stop i H ∧ D.nx σ H) ∨ (J.go i H ∧ ∃ N : L2.St → Hp → Prop, (∀ σ' H', N σ' H' → ∃ m', m' < m ∧ W (i + 1) m' σ' H') ∧ ∀ x H', J.yld i H x H' → g x σ H' fun σ2 H2 => tb { D with nx := N, ct := N, bk := D.nx } σ2 H2)
theorem w_forJ {wi : TI} {g : TG} {tb : TS} {D : Ends} {σ : L2.St} (h : wi σ H fun J H1 => ForJ J g tb D σ H1) : tFor wi g tb D σ H := h
end
end M

/-! ### part D: the rules with the written part said -/
namespace M
open PySem PySem.Spec PyProof.Rows L2 Evl
section
variable {X : Cx} (K : PySem.W.Frag)
theorem kIx (h : X.K = K := by rfl) : IxR X (rIx K) := by subst h; exact ix_seq
theorem kAdd (h : X.K = K := by rfl) : OpR X (binaryOp .Add) (rAdd K) := by subst h; exact xAdd
theorem kMul (h : X.K = K := by rfl) : OpR X (binaryOp .Mult) (rMul K) := by subst h; exact xMul
theorem kEq {j : Nat} (hr : Room j X.A) (h : X.K = K := by rfl) : OpR X (compareOp .Eq) (rEqU K) := by subst h; exact xEq hr
theorem kNe {j : Nat} (hr : Room j X.A) (h : X.K = K := by rfl) : OpR X (compareOp .NotEq) (rNeU K) := by subst h; exact xNe hr
theorem kSl (h : X.K = K := by rfl) : SlR X (rSl K) := by subst h; exact xSl
theorem kLen (h : X.K = K := by rfl) : CallR X (.builtin "len") (rLenU K) := by subst h; exact xLen
theorem kLst (h : X.K = K := by rfl) : CallR X (.type "list") (rLstU K) := by subst h; exact xLst
theorem kTup (h : X.K = K := by rfl) : CallR X (.type "tuple") (rTupU K) := by subst h; exact xTup
theorem kAll (hc : X.calm = true) (h : X.K = K := by rfl) : CallR X (.builtin "all") (rAll K) := by subst h; exact cr_all hc
theorem kAny (hc : X.calm = true) (h : X.K = K := by rfl) : CallR X (.builtin "any") (rAny K) := by subst h; exact cr_any hc
theorem kSum (hc : X.calm = true) (h : X.K = K := by rfl) : CallR X (.builtin "sum") (rSum K) := by subst h; exact cr_sum hc
theorem kIsi (h : X.K = K := by rfl) : CallR X (.builtin "isinstance") (rIsi K) := by subst h; exact call_isi
theorem kIsiT (h : X.K = K := by rfl) : CallR X (.builtin "isinstance") (rIsiT K) := by subst h; exact call_isiT
theorem kSeq {tg l : Expr} {tl : TE} (hl : PE X l tl) (h : X.K = K := by rfl) : PI X tg l (iSeq K tl) := by subst h; exact pi_seq hl
theorem kFld {o : Expr} {f : Str} {pos : Pos} {ta : TE} (ha : PE X o ta) (hb : attributeBase o f X.env (eval o X.env) = eval o X.env) (h : X.K = K := by rfl) : PE X (.Attribute o f pos) (tFld K ta f) := by subst h; exact pe_fld ha hb
theorem kGtup {es : List Expr} {k : Nat} {t : TGs} {n : Nat} {pos : Pos} (hc : X.calm = true) (h : PGs X es t)
    (hn : (assignEach es X.env).length = n := by rfl) (hst : (assignEach es X.env).findIdx? (·.1) = none := by rfl) (hK : X.K = K := by rfl) : PG X (.Tuple es k pos) (gTup K n t) := by subst hK; exact pg_tup hc h hn hst
theorem kBM {e0 : Expr} {to : TE} {t : TA} {T : String} {r : V → List V → Hp → VK → Prop} (h0 : PE X e0 (tBM X.K T r to t)) (h : X.K = K := by rfl) : PE X e0 (tBM K T r to t) := by subst h; exact h0
theorem kFldS {st : Stmt} {ta tv : TE} {f : Str} (h0 : PS X st (sFld X.K ta tv f)) (h : X.K = K := by rfl) : PS X st (sFld K ta tv f) := by subst h; exact h0
/-! truth of any value, named -/
end
def TruX (K : PySem.W.Frag) (x : V) (H : Hp) (Q : Bool → Hp → Prop) : Prop := ∃ k, TruV K x H k ∧ Q k H
def tTru (K : PySem.W.Frag) (te : TE) : TT := fun σ H Q => te σ H fun x H' => TruX K x H' Q
section
variable {X : Cx} (K : PySem.W.Frag)
theorem kTru {a : Expr} {ta : TE} (ha : PE X a ta) (he : ∀ whole, isTrue a X.env whole = (do let v ← whole; standAt a.pos; holding [v] (truthy v))) (h : X.K = K := by rfl) : PT X a (tTru K ta) := by subst h; exact pt_truth ha he
end
section
variable {K : PySem.W.Frag} {σ : L2.St} {H : Hp} {te : TE} {Q : Bool → Hp → Prop}
theorem w_tru (h : te σ H fun x H' => TruX K x H' Q) : tTru K te σ H Q := h
theorem r_truB {b : Bool} (h : Q b H) : TruX K (.bl b) H Q := ⟨b, rfl, h⟩
theorem r_truI {i : Int} (h : Q (!decide (i = 0)) H) : TruX K (.int i) H Q := ⟨(i != 0), rfl, by
  have e : (i != 0) = (!decide (i = 0)) := by
    by_cases c : i = 0
    · subst c; rfl
    · simp [c]
  rw [e]; exact h⟩
theorem r_truN (h : Q false H) : TruX K .non H Q := ⟨false, rfl, h⟩
/-- all of a list of truths -/
theorem all_range {n : Nat} {p : Nat → Prop} [DecidablePred p] : ((List.range n).map fun i => decide (p i)).all id = decide (∀ i, i < n → p i) := by
  rw [Bool.eq_iff_iff]
  simp
theorem map_bl_range {n : Nat} {p : Nat → Prop} [DecidablePred p] : (List.range n).map (fun i => V.bl (decide (p i))) = ((List.range n).map fun i => decide (p i)).map V.bl := by
  rw [List.map_map]; rfl
end
end M

/-! ### part E: data without lists; comprehensions that make data -/
namespace M
open PySem PySem.Spec PyProof.Rows L2 Evl
mutual
def imm : PyData → Bool
  | .list _ => false
  | .dict _ => false
  | .tuple xs => immAll xs
  | _ => true
def immAll : List PyData → Bool
  | [] => true
  | x :: xs => imm x && immAll xs
end
/-- tuples stand -/
def TEx (H H' : Hp) : Prop := ∀ a xs, Rd H a (.tup xs) → Rd H' a (.tup xs)
theorem TEx.of {H H' : Hp} (e : Ex H H') : TEx H H' := fun _ _ h => ex_rd e h
theorem TEx.trans {H H1 H2 : Hp} (a : TEx H H1) (b : TEx H1 H2) : TEx H H2 := fun x o h => b x o (a x o h)
theorem TEx.refl (H : Hp) : TEx H H := fun _ _ h => h
theorem TEx.upd {H : Hp} {p : Addr} {xs : List V} {o : HO} (h : H p = some (.lst xs)) : TEx H (upd H p o) := fun a ys q => by
  have hne : a ≠ p := by
    rintro rfl
    rcases q with q | ⟨o', q⟩ <;> rw [h] at q <;> cases q
  rcases q with q | ⟨o', q⟩
  · exact .inl (by rw [upd_ne hne]; exact q)
  · exact .inr ⟨o', by rw [upd_ne hne]; exact q⟩
section
variable {K : PySem.W.Frag} {H H' : Hp}
theorem tex_t (e : TEx H H') {a : Addr} {xs : List V} (h : SqT K H a xs) : SqT K H' a xs := by
  rcases h with h | h
  · exact .inl (e a xs h)
  · exact .inr h
mutual
theorem dp_tex (e : TEx H H') : ∀ {d : PyData} {v : V}, imm d = true → Dp K H v d → Dp K H' v d
  | _, _, _, .non => .non
  | _, _, _, .bl b => .bl b
  | _, _, _, .int i => .int i
  | _, _, _, .str x => .str x
  | _, _, h, .lst _ _ => nomatch h
  | _, _, h, .tup s a => .tup (tex_t e s) (dpAll_tex e h a)
theorem dpAll_tex (e : TEx H H') : ∀ {ds : List PyData} {vs : List V}, immAll ds = true → DpAll K H vs ds → DpAll K H' vs ds
  | _, _, _, .nil => .nil
  | _, _, h, .cons a r => .cons (dp_tex e (Bool.and_eq_true_iff.mp h).1 a) (dpAll_tex e (Bool.and_eq_true_iff.mp h).2 r)
end
theorem dpAll_len : ∀ {vs : List V} {ds : List PyData}, DpAll K H vs ds → vs.length = ds.length
  | _, _, .nil => rfl
  | _, _, .cons _ r => congrArg Nat.succ (dpAll_len r)
theorem dpAll_app : ∀ {vs ws : List V} {ds es : List PyData}, DpAll K H vs ds → DpAll K H ws es → DpAll K H (vs ++ ws) (ds ++ es)
  | _, _, _, _, .nil, h => h
  | _, _, _, _, .cons a r, h => .cons a (dpAll_app r h)
theorem dpAll_get : ∀ {vs : List V} {ds : List PyData} {i : Nat} {x : V}, DpAll K H vs ds → vs[i]? = some x → ∃ d, ds[i]? = some d ∧ Dp K H x d
  | _, _, 0, _, .cons a _, e => by simp at e; subst e; exact ⟨_, rfl, a⟩
  | _, _, i + 1, x, .cons _ r, e => by
    obtain ⟨d, h1, h2⟩ := dpAll_get (i := i) (x := x) r (by simpa using e)
    exact ⟨d, by simpa using h1, h2⟩
theorem immAll_app : ∀ {ds es : List PyData}, immAll ds = true → immAll es = true → immAll (ds ++ es) = true
  | [], _, _, h => h
  | _ :: _, _, h, h' => Bool.and_eq_true_iff.mpr ⟨(Bool.and_eq_true_iff.mp h).1, immAll_app (Bool.and_eq_true_iff.mp h).2 h'⟩
theorem immAll_map {f : Nat → PyData} (h : ∀ i, imm (f i) = true) : ∀ l : List Nat, immAll (l.map f) = true
  | [] => rfl
  | i :: l => Bool.and_eq_true_iff.mpr ⟨h i, immAll_map h l⟩
variable {Q : VK}
/-- over a list: item i gives data f i (without lists) -/
theorem lcD_list {a : Addr} {xs : List V} {j : Nat} {te : TE} {vs : List Nat} {σ : L2.St} (f : Nat → PyData) (hf : ∀ i, imm (f i) = true) (hx : SqL K H a xs) (hn : xs.length ≤ 100000) (σ' : V → L2.St) (hσ : ∀ x, (wipe σ vs).set j (some x) = σ' x) (hw : ∀ x, wipe ((wipe σ vs).set j (some x)) vs = wipe σ vs)
    (he : ∀ (i : Nat) (x : V) (H1 : Hp) (Q' : VK), Ex H H1 → xs[i]? = some x → (∀ y H2, Ex H1 H2 → Dp K H2 y (f i) → Q' y H2) → te (σ' x) H1 Q')
    (hq : ∀ p H2 ys, H p = none → Ex H H2 → H2 p = some (.lst ys) → DpAll K H2 ys ((List.range xs.length).map f) → Q (.ref p) H2) : LcJ (Itl K a) (gName j) tYes te vs σ H Q := fun D hD =>
  lc_list (xs := xs) (Pv := fun i H' => Ex H H' ∧ ∃ ys, H' D = some (.lst ys) ∧ DpAll K H' ys ((List.range i).map f)) ⟨Ex.new hD, [], upd_same, .nil⟩ (fun i H' _ p => ex_l p.1 hx) (fun i x H' hi ⟨p1, ys, p2, p3⟩ => ⟨hw x, by
    show te ((wipe σ vs).set j _) H' _
    rw [hσ]
    have hi' := (List.getElem?_eq_some_iff.mp hi).1
    refine he i x H' _ p1 hi fun y H2 e2 d2 => ⟨ys, e2 D _ p2, sz_lt (by rw [dpAll_len p3, List.length_map, List.length_range]; omega), Ex.mut (p1.trans e2) hD, ys ++ [y], upd_same, ?_⟩
    have t := TEx.upd (o := .lst (ys ++ [y])) (e2 D _ p2)
    rw [List.range_succ, List.map_append]
    exact dpAll_app (dpAll_tex t (immAll_map hf _) (dpAll_ex e2 p3)) (.cons (dp_tex t (hf i) d2) .nil)⟩) fun H' ⟨p1, ys, p2, p3⟩ => hq D H' ys hD p1 p2 p3
theorem lcD_tup {a : Addr} {xs : List V} {j : Nat} {te : TE} {vs : List Nat} {σ : L2.St} (f : Nat → PyData) (hf : ∀ i, imm (f i) = true) (hx : SqT K H a xs) (hn : xs.length ≤ 100000) (σ' : V → L2.St) (hσ : ∀ x, (wipe σ vs).set j (some x) = σ' x) (hw : ∀ x, wipe ((wipe σ vs).set j (some x)) vs = wipe σ vs)
    (he : ∀ (i : Nat) (x : V) (H1 : Hp) (Q' : VK), Ex H H1 → xs[i]? = some x → (∀ y H2, Ex H1 H2 → Dp K H2 y (f i) → Q' y H2) → te (σ' x) H1 Q')
    (hq : ∀ p H2 ys, H p = none → Ex H H2 → H2 p = some (.lst ys) → DpAll K H2 ys ((List.range xs.length).map f) → Q (.ref p) H2) : LcJ (Itt K a) (gName j) tYes te vs σ H Q := fun D hD =>
  lc_tup (xs := xs) (Pv := fun i H' => Ex H H' ∧ ∃ ys, H' D = some (.lst ys) ∧ DpAll K H' ys ((List.range i).map f)) ⟨Ex.new hD, [], upd_same, .nil⟩ (fun i H' _ p => ex_t p.1 hx) (fun i x H' hi ⟨p1, ys, p2, p3⟩ => ⟨hw x, by
    show te ((wipe σ vs).set j _) H' _
    rw [hσ]
    have hi' := (List.getElem?_eq_some_iff.mp hi).1
    refine he i x H' _ p1 hi fun y H2 e2 d2 => ⟨ys, e2 D _ p2, sz_lt (by rw [dpAll_len p3, List.length_map, List.length_range]; omega), Ex.mut (p1.trans e2) hD, ys ++ [y], upd_same, ?_⟩
    have t := TEx.upd (o := .lst (ys ++ [y])) (e2 D _ p2)
    rw [List.range_succ, List.map_append]
    exact dpAll_app (dpAll_tex t (immAll_map hf _) (dpAll_ex e2 p3)) (.cons (dp_tex t (hf i) d2) .nil)⟩) fun H' ⟨p1, ys, p2, p3⟩ => hq D H' ys hD p1 p2 p3
/-! deep: tuples in the place of lists -/
end
mutual
def dDeep : PyData → PyData
  | .list xs => .tuple (dDeepAll xs)
  | .tuple xs => .tuple (dDeepAll xs)
  | .none => .none
  | .bool b => .bool b
  | .int i => .int i
  | .str s => .str s
  | .dict _ => .none
def dDeepAll : List PyData → List PyData
  | [] => []
  | x :: xs => dDeep x :: dDeepAll xs
end
mutual
theorem imm_deep : ∀ d, imm (dDeep d) = true
  | .list xs => immAll_deep xs
  | .tuple xs => immAll_deep xs
  | .none => rfl
  | .bool _ => rfl
  | .int _ => rfl
  | .str _ => rfl
  | .dict _ => rfl
theorem immAll_deep : ∀ ds, immAll (dDeepAll ds) = true
  | [] => rfl
  | x :: xs => Bool.and_eq_true_iff.mpr ⟨imm_deep x, immAll_deep xs⟩
end
theorem dDeepAll_eq : ∀ ds, dDeepAll ds = ds.map dDeep
  | [] => rfl
  | x :: xs => by show dDeep x :: dDeepAll xs = _; rw [dDeepAll_eq xs]; rfl
theorem dDeep_ints (ns : List Int) : dDeepAll (ns.map .int) = ns.map .int := by
  rw [dDeepAll_eq, List.map_map]; rfl
mutual
/-- depth at most n, each row at most so long -/
def shp : Nat → PyData → Bool
  | 0, .list _ => false
  | 0, .tuple _ => false
  | n + 1, .list xs => decide (xs.length ≤ 50000) && shpAll n xs
  | n + 1, .tuple xs => decide (xs.length ≤ 50000) && shpAll n xs
  | _, .dict _ => false
  | _, _ => true
def shpAll : Nat → List PyData → Bool
  | _, [] => true
  | n, x :: xs => shp n x && shpAll n xs
end
theorem shpAll_get {n : Nat} : ∀ {ds : List PyData} {i : Nat} {d : PyData}, shpAll n ds = true → ds[i]? = some d → shp n d = true
  | _ :: _, 0, _, h, e => by
    simp at e; subst e
    unfold shpAll at h
    exact (Bool.and_eq_true_iff.mp h).1
  | _ :: _, i + 1, d, h, e => by
    unfold shpAll at h
    exact shpAll_get (i := i) (d := d) (Bool.and_eq_true_iff.mp h).2 (by simpa using e)
theorem shpAll_ints : ∀ ns : List Int, shpAll 0 (ns.map .int) = true
  | [] => rfl
  | n :: ns => by show (shp 0 (.int n) && shpAll 0 (ns.map .int)) = true; rw [shpAll_ints ns]; rfl
end M

/-! ### part F: a list or a tuple -/
namespace M
open PySem PySem.Spec PyProof.Rows L2 Evl
def SqE (K : PySem.W.Frag) (H : Hp) (a : Addr) (xs : List V) : Prop := SqL K H a xs ∨ SqT K H a xs
section
variable {K : PySem.W.Frag} {H H' : Hp} {Q : VK}
theorem ex_e {a : Addr} {xs : List V} (e : Ex H H') (h : SqE K H a xs) : SqE K H' a xs := h.elim (fun h => .inl (ex_l e h)) (fun h => .inr (ex_t e h))
theorem r_lenEI {a : Addr} {xs : List Int} (h : SqE K H a (vI xs)) (q : Q (.int (xs.length : Int)) H) : rLenU K [.ref a] H Q := h.elim (fun h => r_lenLI h q) (fun h => r_lenTI h q)
theorem r_ixEI {a : Addr} {xs : List Int} {i : Int} (h : SqE K H a (vI xs)) (h0 : 0 ≤ i) (h1 : i < xs.length) (q : Q (.int (gI xs i)) H) : rIx K (.ref a) (.int i) H Q := h.elim (fun h => r_ixLI h h0 h1 q) (fun h => r_ixTI h h0 h1 q)
theorem r_ixEN {a : Addr} {xs : List Int} {i : Int} (h : SqE K H a (vI xs)) (h0 : i < 0) (h1 : -(xs.length : Int) ≤ i) (q : Q (.int (gI xs (i + xs.length))) H) : rIx K (.ref a) (.int i) H Q := h.elim (fun h => r_ixLN h h0 h1 q) (fun h => r_ixTN h h0 h1 q)
end
end M

/-! ### part G: fields, instances made, methods, properties, instances called, own == -/
namespace M
open PySem PySem.Spec PyProof.Rows L2 Evl
def GetF (K : PySem.W.Frag) (f : Str) (x : V) (H : Hp) (Q : VK) : Prop := ∃ a C dx fs v, x = .ref a ∧ H a = some (.ins C dx fs) ∧ Cls K C ∧ NoAttr K C f ∧ fs.lookup f = some v ∧ Q v H
def PutF (K : PySem.W.Frag) (f : Str) (y x : V) (H : Hp) (R : Hp → Prop) : Prop := ∃ a C dx fs, x = .ref a ∧ H a = some (.ins C dx fs) ∧ Cls K C ∧ NoAttr K C f ∧ fs.length < 1000 ∧ R (upd H a (.ins C dx (putF f y fs)))
section
variable {K : PySem.W.Frag} {σ : L2.St} {H : Hp} {Q : VK} {D : Ends} {ta tv : TE} {f : Str}
theorem w_fld (h : ta σ H fun x H1 => GetF K f x H1 Q) : tFld K ta f σ H Q := h
theorem w_fldS (h : tv σ H fun y H1 => ta σ H1 fun x H2 => PutF K f y x H2 fun H3 => D.nx σ H3) : sFld K ta tv f D σ H := h
theorem r_getF {a C dx : Addr} {fs : List (Str × V)} {v : V} (h : H a = some (.ins C dx fs)) (c : Cls K C) (n : NoAttr K C f) (e : fs.lookup f = some v) (q : Q v H) : GetF K f (.ref a) H Q := ⟨a, C, dx, fs, v, rfl, h, c, n, e, q⟩
theorem r_putF {a C dx : Addr} {fs : List (Str × V)} {y : V} {R : Hp → Prop} (h : H a = some (.ins C dx fs)) (c : Cls K C) (n : NoAttr K C f) (hl : fs.length < 1000) (q : R (upd H a (.ins C dx (putF f y fs)))) : PutF K f y (.ref a) H R := ⟨a, C, dx, fs, rfl, h, c, n, hl, q⟩
end
/-- a class made by its name: dvs the defaults that fill up -/
structure Mkc (P : Program) (w : World) (K : PySem.W.Frag) (mg : Str → Option Value) (base : Heap) (CX : CXT) (k : Nat) (x : Str) (C : Addr) (sp : Sp) (dvs : List V) : Prop where
  ex : ∃ (f : Addr) (fd : FuncData) (ps : List Str) (ds : List Value), Mk K C f ∧ FnOk P w K mg base CX k f fd ps sp ∧ mg x = some (.ref C) ∧ Binds K fd ps ds ∧ Vals dvs ds
section
variable {X : Cx} {CX : CXT} {k j : Nat} {C : Addr} {x m : Str} {sp : Sp} {dvs : List V} {E : XK} {p pos apos : Pos} {e o : Expr} {es : List Expr} {ta : TE} {t : TA}
theorem pmk (c : Mkc X.prog X.w X.K X.mg X.base CX k x C sp dvs) (hr : Room j X.A) (hk : k + 1 ≤ j) (hx : Passes CX X E) (hg : Gl X x) (ha : PA X (e :: es) t)
    (hdb : (x == ("__debug__" : Str)) = false := by decide) (he : starEach (e :: es) X.env = (false, eval e X.env) :: starEach es X.env := by rfl) (hpl : (backTo pos (starEach es X.env)).any (·.1) = false := by rfl) :
    PE X (.Call (.Name x p) (e :: es) [] pos) (tMake C sp dvs E t) := by
  obtain ⟨f, fd, ps, ds, M, F, hm, hb, hd⟩ := c.ex
  exact pe_make M F (hr.mono hk) hg hm hb hd hx ha hdb he hpl
theorem pmt {pl : Sem Bool} (c : Mt X.prog X.w X.K X.mg X.base CX k C m sp) (hr : Room j X.A) (hk : k ≤ j) (hx : Passes CX X E) (ho : PE X o ta) (ha : PA X (e :: es) t)
    (he : starEach (e :: es) X.env = (false, eval e X.env) :: starEach es X.env := by rfl) (hpl : (backTo pos (starEach es X.env)).any (·.1) = false := by rfl)
    (ht : eval (.Call (.Attribute o m apos) (e :: es) [] pos) X.env = (do let ov ← eval o X.env; standAt apos.atName; let (f, first) ← holding [ov] (getMethod ov m pl); callWith pos f first (backTo pos (starEach (e :: es) X.env)) (backToKw pos (keywordEach [] X.env))) := by rfl) :
    PE X (.Call (.Attribute o m apos) (e :: es) [] pos) (tMeth C m sp [] E ta t) := by
  obtain ⟨f, fd, ps, cl, hm, F, hb⟩ := c.ex
  exact pe_meth ho cl hm F (hr.mono hk) hb .nil hx ha he hpl ht
theorem pmt0 {pl : Sem Bool} (c : Mt X.prog X.w X.K X.mg X.base CX k C m sp) (hr : Room j X.A) (hk : k ≤ j) (hx : Passes CX X E) (ho : PE X o ta)
    (ht : eval (.Call (.Attribute o m apos) [] [] pos) X.env = (do let ov ← eval o X.env; standAt apos.atName; let (f, first) ← holding [ov] (getMethod ov m pl); callWith pos f first (backTo pos (starEach [] X.env)) (backToKw pos (keywordEach [] X.env))) := by rfl) :
    PE X (.Call (.Attribute o m apos) [] [] pos) (tMeth C m sp [] E ta tNil) := by
  obtain ⟨f, fd, ps, cl, hm, F, hb⟩ := c.ex
  exact pe_meth0 ho cl hm F (hr.mono hk) hb .nil hx ht
end
/-- a property of the class at C -/
structure Prp (P : Program) (w : World) (K : PySem.W.Frag) (mg : Str → Option Value) (base : Heap) (k : Nat) (C : Addr) (m : Str) (sp : Sp) : Prop where
  ex : ∃ (p g : Addr) (fd : FuncData) (ps : List Str), Cls K C ∧ PropOf K C m p g ∧ FnOk P w K mg base CX0 k g fd ps sp ∧ Binds K fd ps []
def PropI (C : Addr) (sp : Sp) (x : V) (H1 : Hp) (Q : VK) (E : XK) : Prop := ∃ a dx fs, x = .ref a ∧ H1 a = some (.ins C dx fs) ∧ sp (.ref a :: []) H1 Q E
section
variable {X : Cx} {k j : Nat} {C : Addr} {m : Str} {sp : Sp} {E : XK} {pos : Pos} {e : Expr} {ta : TE} {σ : L2.St} {H : Hp} {Q : VK}
theorem ppr (c : Prp X.prog X.w X.K X.mg X.base k C m sp) (hr : Room j X.A) (hk : k + 1 ≤ j) (he : PE X e ta) (hab : attributeBase e m X.env (eval e X.env) = eval e X.env) : PE X (.Attribute e m pos) (tProp C sp [] E0 ta) := by
  obtain ⟨p, g, fd, ps, cl, hp, F, hb⟩ := c.ex
  exact pe_prop he cl hp F (hr.mono hk) hb .nil pass0 hab
theorem w_prop (h : ta σ H fun x H1 => PropI C sp x H1 Q E) : tProp C sp [] E ta σ H Q := h
theorem r_prop {F} {a dx : Addr} {fs : List (Str × V)} (h : H a = some (.ins C dx fs)) (q : F (.ref a) H Q E) : PropI C (sp1 F) (.ref a) H Q E := ⟨a, dx, fs, rfl, h, _, rfl, q⟩
def MethI (C : Addr) (m : Str) (sp : Sp) (E : XK) (t : TA) (σ : L2.St) (x : V) (H1 : Hp) (Q : VK) : Prop := ∃ a dx fs, x = .ref a ∧ H1 a = some (.ins C dx fs) ∧ fs.lookup m = none ∧ t σ H1 fun vs H2 => sp (x :: (vs ++ [])) H2 Q E
theorem w_meth {t : TA} (h : ta σ H fun x H1 => MethI C m sp E t σ x H1 Q) : tMeth C m sp [] E ta t σ H Q := h
theorem r_meth {t : TA} {a dx : Addr} {fs : List (Str × V)} (h : H a = some (.ins C dx fs)) (n : fs.lookup m = none) (q : t σ H fun vs H2 => sp (.ref a :: (vs ++ [])) H2 Q E) : MethI C m sp E t σ (.ref a) H Q := ⟨a, dx, fs, rfl, h, n, q⟩
def MakeI (C : Addr) (sp : Sp) (dvs : List V) (E : XK) (vs : List V) (H1 : Hp) (Q : VK) : Prop := ∀ (x dx : Addr), H1 x = none → H1 dx = none → dx ≠ x → sp (.ref x :: (vs ++ dvs)) (upd (upd H1 dx (.own x)) x (.ins C dx [])) (fun v H2 => v = .non ∧ Q (.ref x) H2) E
theorem w_make {t : TA} {dvs : List V} (h : t σ H fun vs H1 => MakeI C sp dvs E vs H1 Q) : tMake C sp dvs E t σ H Q := h
/-- an instance called -/
structure Cli (P : Program) (w : World) (K : PySem.W.Frag) (mg : Str → Option Value) (base : Heap) (k : Nat) (C : Addr) (sp : Sp) : Prop where
  ex : ∃ (g : Addr) (fd : FuncData) (ps : List Str), StX.CallO K C g ∧ FnOk P w K mg base CX0 k g fd ps sp ∧ Binds K fd ps []
def CallI (C : Addr) (sp : Sp) (E : XK) (t : TA) (σ : L2.St) (y : V) (H1 : Hp) (Q : VK) : Prop := ∃ a, y = V.ref a ∧ t σ H1 fun vs H2 => (∃ dx fs, H2 a = some (.ins C dx fs)) ∧ sp (V.ref a :: vs) H2 Q E
def tCallI (C : Addr) (sp : Sp) (E : XK) (tf : TE) (t : TA) : TE := fun σ H Q => tf σ H fun y H1 => CallI C sp E t σ y H1 Q
end
section
variable {X : Cx} {k j : Nat} {C : Addr} {sp : Sp} {pos : Pos} {fe e : Expr} {es : List Expr} {tf : TE} {t : TA}
theorem pcl (c : Cli X.prog X.w X.K X.mg X.base k C sp) (hr : Room j X.A) (hk : k ≤ j) (hf : PE X fe tf) (ha : PA X (e :: es) t)
    (ht : eval (.Call fe (e :: es) [] pos) X.env = (do callWith pos (← eval fe X.env) [] (backTo pos (starEach (e :: es) X.env)) (backToKw pos (keywordEach [] X.env))) := by rfl)
    (he : starEach (e :: es) X.env = (false, eval e X.env) :: starEach es X.env := by rfl) (hpl : (backTo pos (starEach es X.env)).any (·.1) = false := by rfl) : PE X (.Call fe (e :: es) [] pos) (StX.tCallO X C sp E0 tf t) := by
  obtain ⟨g, fd, ps, co, F, hb⟩ := c.ex
  exact StX.pe_callO hf co ((F.raw hb .nil).imp fun vs H Q E h => by rw [List.append_nil]; exact h) (hr.mono hk) pass0 ha ht he hpl
def CallOI (X : Cx) (C : Addr) (sp : Sp) (t : TA) (σ : L2.St) (y : V) (H1 : Hp) (Q : VK) : Prop := ∃ a, y = V.ref a ∧ t σ H1 fun vs H2 => StX.InsC X H2 a C ∧ sp (V.ref a :: vs) H2 Q E0
variable {σ : L2.St} {H : Hp} {Q : VK}
theorem w_callO (h : tf σ H fun y H1 => CallOI X C sp t σ y H1 Q) : StX.tCallO X C sp E0 tf t σ H Q := h
def CallOJ (X : Cx) (C a : Addr) (sp : Sp) (vs : List V) (H2 : Hp) (Q : VK) : Prop := StX.InsC X H2 a C ∧ sp (V.ref a :: vs) H2 Q E0
theorem w_callOI {a : Addr} (h : t σ H fun vs H2 => CallOJ X C a sp vs H2 Q) : CallOI X C sp t σ (.ref a) H Q := ⟨a, rfl, h⟩
theorem r_callO1 {F} {a dx : Addr} {fs : List (Str × V)} {x : V} (hi : H a = some (.ins C dx fs)) (h : F (.ref a) x H Q E0) : CallOJ X C a (sp2 F) [x] H Q := ⟨.inr ⟨dx, fs, hi⟩, _, _, rfl, h⟩
end
/-! own == : x an instance of the class at C, y any value whose type is known -/
section
variable {X : Cx} {n : Nat} {C : Addr} {sp : Sp}
def rOwnEq (K : PySem.W.Frag) (C : Addr) (sp : Sp) : R2 := fun x y H Q => ∃ a dx fs t, x = .ref a ∧ H a = some (.ins C dx fs) ∧ TyX K H y t ∧ PySem.W.notFirst K C t = true ∧ sp [x, y] H (fun v H' => (∃ b, v = .bl b) ∧ Q v H') E0
end
section
variable {X : Cx} {n : Nat} {C : Addr} {sp : Sp}
/-- what == needs of the class at C -/
structure EqOf (P : Program) (w : World) (K : PySem.W.Frag) (mg : Str → Option Value) (base : Heap) (k : Nat) (C : Addr) (sp : Sp) : Prop where
  ex : ∃ (g : Addr) (fd : FuncData) (ps : List Str), PySem.W.findIn K (.ref C) "__eq__" = some (some (.ref g)) ∧ PySem.W.isFn K (.ref g) = true ∧ FnOk P w K mg base CX0 k g fd ps sp ∧ Binds K fd ps []
theorem op_ownEq {j : Nat} (c : EqOf X.prog X.w X.K X.mg X.base n C sp) (hr : Room j X.A) (hn : n ≤ j) : OpR X (compareOp .Eq) (rOwnEq X.K C sp) := by
  obtain ⟨g, fd, ps, hs, hf, F, hb⟩ := c.ex
  intro pins s σ H x y v u Q I rx ry h
  obtain ⟨a, dx, fs, t, rfl, ha, ty, hnf, q⟩ := h
  cases (show v = Value.ref a from rx)
  obtain ⟨mA, O, _⟩ := ins_get I.hok ha
  obtain ⟨od, J, _⟩ := O.look
  obtain ⟨m, hF⟩ := I.fr
  obtain ⟨Pk, kit, hk, _⟩ := kit_of I ry ty
  show wpAny _ _ (richCompare .Eq (.ref a) u) _ _ _
  refine PySem.W.cmp_K (op := .Eq) (tb := t) (hr.mono hn).units0 hF I.ok.mod.kin J (kit.ty _ _ I.kIn hk) hnf hs hf ?_
  refine wpAny_mono (run_fn (us := [.ref a, u]) (vs := [.ref a, y]) (dvs := []) (ds := []) F (hr.mono hn) hb .nil pass0 I (.cons rfl (.cons ry .nil)) q) (fun z s' hz => ?_) fun _ _ x => x
  obtain ⟨zv, H', I', rz, ⟨b, hb⟩, qz⟩ := hz
  subst hb
  cases (show z = Value.bool b from rz)
  exact ⟨.bl b, H', I', rfl, qz⟩
def rEqO (K : PySem.W.Frag) (C : Addr) (sp : Sp) : R2 := fun x y H Q => rEqU K x y H Q ∨ rOwnEq K C sp x y H Q
theorem kEqO (K : PySem.W.Frag) {j : Nat} (c : EqOf X.prog X.w X.K X.mg X.base n C sp) (hr : Room j X.A) (hn : n ≤ j) (h : X.K = K := by rfl) : OpR X (compareOp .Eq) (rEqO K C sp) := by subst h; exact (xEq hr).or (op_ownEq c hr hn)
end
section
variable {K : PySem.W.Frag} {C : Addr} {sp : Sp} {H : Hp} {Q : VK} {x y : V}
theorem w_eqO (h : rEqU K x y H Q) : rEqO K C sp x y H Q := .inl h
theorem r_ownEq {F} {a dx : Addr} {fs : List (Str × V)} {t : Value} (ha : H a = some (.ins C dx fs)) (ty : TyX K H y t) (hn : PySem.W.notFirst K C t = true) (q : F (.ref a) y H (fun v H' => (∃ b, v = .bl b) ∧ Q v H') E0) : rEqO K C (sp2 F) (.ref a) y H Q :=
  .inr ⟨a, dx, fs, t, rfl, ha, ty, hn, _, _, rfl, q⟩
end
end M

/-! ### part H: the head's facts, functions by any address -/
namespace M
open PySem PySem.Spec PyProof.Rows L2 Evl
/-- a def: where its function stands -/
structure DX where
  adr : PySem.W.Frag → Addr
  name : Str
  qual : Str
  params : Arguments
  body : List Stmt
  scope : Scope
  dfl : List He.Dv := []
  clo : Bool := false
/-- the parts of a function; of a closure the names alone -/
def fnA (K : PySem.W.Frag) (a : Addr) (c : Bool) : He.FnW := match K.lookup a with
  | some ⟨_, _, .func q, _⟩ => some (q.name, q.qualname, q.params, q.body, q.scope, q.globals, (if c = true then q.closure.map fun p => (p.1, 0) else q.closure), q.builtins)
  | _ => none
def DX.val (d : DX) : He.FnW := some (d.name, d.qual, d.params, .stmts d.body, d.scope, mainGlobals, (if d.clo = true then [("__class__", 0)] else []), builtinsNs)
def DX.dvs (K : PySem.W.Frag) (d : DX) : List V := d.dfl.map (He.Dv.v K)
def DX.ok (K : PySem.W.Frag) (d : DX) : Bool := PySem.W.keepIn K (.ref (d.adr K)) && (match K.lookup (d.adr K) with
  | some ⟨_, _, .func q, _⟩ => PySem.W.codeIn K q.code d.qual && He.dflB K q.defaults (d.dvs K)
  | _ => false)
theorem DX.fun_ {K : PySem.W.Frag} {d : DX} (n : d.clo = false) (e : fnA K (d.adr K) d.clo = d.val) (c : d.ok K = true) : ∃ fd, FunD K d.name d.qual d.params d.body d.scope (d.dvs K) [] (d.adr K) fd := by
  have c0 := Bool.and_eq_true_iff.mp c
  have c1 := c0.2
  unfold fnA DX.val at e
  rw [n] at e
  simp only [Bool.false_eq_true, if_false] at e
  cases q : K.lookup (d.adr K) with
  | none => rw [q] at c1; cases c1
  | some o =>
    obtain ⟨oc, od, dt, osl⟩ := o
    rw [q] at c1 e
    cases dt with
    | func fd =>
      obtain ⟨m1, m2, m3, m4, m5, m6, m7, m8, m9, m10, m11, m12, m13, m14, m15⟩ := fd
      have e2 : (some (m1, m2, m3, m4, m5, m6, m7, m15) : He.FnW) = some (d.name, d.qual, d.params, .stmts d.body, d.scope, mainGlobals, [], builtinsNs) := e
      simp only [Option.some.injEq, Prod.mk.injEq] at e2
      obtain ⟨g1, g2, g3, g4, g5, g6, g7, g8⟩ := e2
      subst g1 g2 g3 g4 g5 g6 g7 g8
      have c2 := Bool.and_eq_true_iff.mp (show (PySem.W.codeIn K m13 d.qual && He.dflB K m8 (d.dvs K)) = true from c1)
      exact ⟨_, ⟨oc, od, m8, m9, m10, m11, m12, m13, m14, osl, rfl, q, c2.1, He.dflB_ok c2.2, .inl rfl⟩, c0.1⟩
    | _ => cases c1
/-- a def that names super(), as it stands -/
structure FunS (K : PySem.W.Frag) (x qual : Str) (params : Arguments) (body : List Stmt) (scope : Scope) (f : Addr) (fd : FuncData) (cc cda : Addr) : Prop where
  ex : ∃ (oc : Value) (od : Option Addr) (dV kV doc pm : Value) (an : Option Addr) (ct : Value) (osl : Array (Option Value)),
    fd = PySem.W.ksFn x qual params body scope dV kV doc pm an (.ref cda) ct cc ∧ K.lookup f = some ⟨oc, od, .func fd, osl⟩ ∧ PySem.W.codeIn K (.ref cda) qual = true ∧ DflV K dV []
  kp : PySem.W.keepIn K (.ref f) = true
def cellOf (K : PySem.W.Frag) (a : Addr) : Addr := match K.lookup a with
  | some ⟨_, _, .func q, _⟩ => (match q.closure with
    | (_, c) :: _ => c
    | _ => 0)
  | _ => 0
def codeOf (K : PySem.W.Frag) (a : Addr) : Addr := match K.lookup a with
  | some ⟨_, _, .func q, _⟩ => (match q.code with
    | .ref c => c
    | _ => 0)
  | _ => 0
theorem DX.funS_ {K : PySem.W.Frag} {d : DX} (n : d.clo = true) (nd : d.dvs K = []) (e : fnA K (d.adr K) d.clo = d.val) (c : d.ok K = true) : ∃ fd, FunS K d.name d.qual d.params d.body d.scope (d.adr K) fd (cellOf K (d.adr K)) (codeOf K (d.adr K)) := by
  have c0 := Bool.and_eq_true_iff.mp c
  have c1 := c0.2
  unfold fnA DX.val at e
  rw [n] at e
  simp only [if_true] at e
  unfold cellOf codeOf
  cases q : K.lookup (d.adr K) with
  | none => rw [q] at c1; cases c1
  | some o =>
    obtain ⟨oc, od, dt, osl⟩ := o
    rw [q] at c1 e
    cases dt with
    | func fd =>
      obtain ⟨m1, m2, m3, m4, m5, m6, m7, m8, m9, m10, m11, m12, m13, m14, m15⟩ := fd
      have e2 : (some (m1, m2, m3, m4, m5, m6, (m7.map fun p => ((p.1, 0) : Str × Addr)), m15) : He.FnW) = (some (d.name, d.qual, d.params, FuncBody.stmts d.body, d.scope, mainGlobals, [(("__class__" : Str), (0 : Addr))], builtinsNs) : He.FnW) := e
      simp only [Option.some.injEq, Prod.mk.injEq] at e2
      obtain ⟨g1, g2, g3, g4, g5, g6, g7, g8⟩ := e2
      have c2 := Bool.and_eq_true_iff.mp (show (PySem.W.codeIn K m13 d.qual && He.dflB K m8 (d.dvs K)) = true from c1)
      obtain ⟨cda, rfl⟩ : ∃ c, m13 = .ref c := by
        have := c2.1
        unfold PySem.W.codeIn at this
        split at this
        · exact ⟨_, rfl⟩
        · cases this
      have h7 : ∃ c, m7 = [(("__class__" : Str), c)] := by
        rcases m7 with _ | ⟨⟨z1, z2⟩, _ | ⟨y, m7⟩⟩
        · exact absurd (congrArg List.length g7) (by simp)
        · have g8 : z1 = ("__class__" : Str) := congrArg Prod.fst (List.cons.inj g7).1
          exact ⟨z2, by rw [g8]⟩
        · exact absurd (congrArg List.length g7) (by simp)
      obtain ⟨z2, h7⟩ := h7
      subst g1 g2 g3 g4 g5 g6 g8 h7
      have dd := He.dflB_ok c2.2
      rw [nd] at dd
      exact ⟨_, ⟨oc, od, m8, m9, m10, m11, m12, m14, osl, rfl, q, c2.1, dd⟩, c0.1⟩
    | _ => cases c1
abbrev AlM : Type := Bool × List He.FnW
def obsM (fa : List He.Fa) (fn : List DX) (ex : PySem.W.Frag → Bool) (K : PySem.W.Frag) : AlM := ((fa.all fun f => f.ok K) && ((fn.all fun d => d.ok K) && ex K), fn.map fun d => fnA K (d.adr K) d.clo)
def valM (fn : List DX) : AlM := (true, fn.map DX.val)
def SaysM (fa : List He.Fa) (fn : List DX) (ex : PySem.W.Frag → Bool) (K : PySem.W.Frag) : Prop := obsM fa fn ex K = valM fn
/-- the cells of closures, too, and the table of the statics -/
def asX (g : Addr → Option Obj) (n : Nat) : List Addr := cStatics :: (He.asD g n ++ (He.asD g n).flatMap fun a => match g a with
  | some ⟨_, _, .func q, _⟩ => q.closure.map fun p => p.2
  | _ => [])
def obsMG (n : Nat) (fa : List He.Fa) (fn : List DX) (ex : PySem.W.Frag → Bool) (g : Addr → Option Obj) : AlM := obsM fa fn ex (He.frG g (asX g n))
def hookM (n : Nat) (fa : List He.Fa) (fn : List DX) (ex : PySem.W.Frag → Bool) : PySem.W.Hook where
  α := AlM
  obs := fun s => obsMG n fa fn ex s.heap.get?
  val := fun _ => valM fn
  says := fun _ h => ∃ K : PySem.W.Frag, K.In h ∧ SaysM fa fn ex K
  of := fun _ _ e => ⟨_, He.frG_in, e⟩
  keeps := fun _ _ _ ⟨K, hK, c⟩ k => ⟨K, PySem.W.Frag.In.keeps hK k, c⟩
theorem obsMG_eq {n : Nat} {fa : List He.Fa} {fn : List DX} {ex : PySem.W.Frag → Bool} {g : Addr → Option Obj} {s : Shared} (h : ∀ a, g a = s.heap.get? a) : obsMG n fa fn ex g = (hookM n fa fn ex).obs s := by
  rw [show g = s.heap.get? from funext h] <;> rfl
section
variable {fa : List He.Fa} {fn : List DX} {ex : PySem.W.Frag → Bool} {K : PySem.W.Frag}
theorem SaysM.fact (c : SaysM fa fn ex K) (i : Nat) {f : He.Fa} (h : fa[i]? = some f := by rfl) : f.ok K = true :=
  List.all_eq_true.mp (Bool.and_eq_true_iff.mp (show ((fa.all fun f => f.ok K) && ((fn.all fun d => d.ok K) && ex K)) = true from congrArg Prod.fst c)).1 f (List.mem_of_getElem? h)
theorem SaysM.more (c : SaysM fa fn ex K) : ex K = true :=
  (Bool.and_eq_true_iff.mp (Bool.and_eq_true_iff.mp (show ((fa.all fun f => f.ok K) && ((fn.all fun d => d.ok K) && ex K)) = true from congrArg Prod.fst c)).2).2
theorem SaysM.look (c : SaysM fa fn ex K) (i : Nat) {d : DX} (h : fn[i]? = some d := by rfl) : fnA K (d.adr K) d.clo = d.val ∧ d.ok K = true := by
  have c2 := (Bool.and_eq_true_iff.mp (Bool.and_eq_true_iff.mp (show ((fa.all fun f => f.ok K) && ((fn.all fun d => d.ok K) && ex K)) = true from congrArg Prod.fst c)).2).1
  have e : fn.map (fun d => fnA K (d.adr K) d.clo) = fn.map DX.val := congrArg Prod.snd c
  have e2 : (fn.map fun d => fnA K (d.adr K) d.clo)[i]? = (fn.map DX.val)[i]? := by rw [e]
  rw [List.getElem?_map, List.getElem?_map, h] at e2
  exact ⟨Option.some.inj e2, List.all_eq_true.mp c2 d (List.mem_of_getElem? h)⟩
theorem SaysM.def_ (c : SaysM fa fn ex K) (i : Nat) {d : DX} (h : fn[i]? = some d := by rfl) (n : d.clo = false := by rfl) : ∃ fd, FunD K d.name d.qual d.params d.body d.scope (d.dvs K) [] (d.adr K) fd :=
  let ⟨e, c2⟩ := c.look i h
  DX.fun_ n e c2
theorem SaysM.defS (c : SaysM fa fn ex K) (i : Nat) {d : DX} (h : fn[i]? = some d := by rfl) (n : d.clo = true := by rfl) (nd : d.dvs K = [] := by rfl) : ∃ fd, FunS K d.name d.qual d.params d.body d.scope (d.adr K) fd (cellOf K (d.adr K)) (codeOf K (d.adr K)) :=
  let ⟨e, c2⟩ := c.look i h
  DX.funS_ n nd e c2
end
/-! facts beyond He.Fa, told by a Bool -/
/-- the property m of the class x: its object, its getter -/
def prA (x m : Str) (K : PySem.W.Frag) : Addr := He.ma K (He.ga K x) m
def prG (x m : Str) (K : PySem.W.Frag) : Addr := match PySem.W.recIn K (prA x m K) "property" with
  | some (.ref g :: _) => g
  | _ => 0
def propB (x m : Str) (K : PySem.W.Frag) : Bool := decide (PySem.W.findIn K (.ref (He.ga K x)) m = some (some (.ref (prA x m K)))) && (decide (PySem.W.specialIn K (.ref (prA x m K)) "__get__" = some (some (.builtin "property.__get__"))) &&
  (decide (PySem.W.takesIn K (.ref (prA x m K)) = some true) && (match PySem.W.recIn K (prA x m K) "property" with
    | some (.ref g :: _) => true
    | _ => false)))
theorem propB_ok {x m : Str} {K : PySem.W.Frag} (h : propB x m K = true) : PropOf K (He.ga K x) m (prA x m K) (prG x m K) := by
  obtain ⟨h1, h⟩ := Bool.and_eq_true_iff.mp h
  obtain ⟨h2, h⟩ := Bool.and_eq_true_iff.mp h
  obtain ⟨h3, h⟩ := Bool.and_eq_true_iff.mp h
  refine ⟨of_decide_eq_true h1, of_decide_eq_true h2, of_decide_eq_true h3, ?_⟩
  unfold prG
  split at h
  · rename_i g r e
    rw [e]
    exact ⟨_, rfl⟩
  · cases h
/-- an empty tuple stands at an address of the written part -/
def tup0B (K : PySem.W.Frag) (a : Addr) : Bool := match K.lookup a with
  | some ⟨.type c, _, .seq its _, _⟩ => decide (c = "tuple") && decide (its.size = 0)
  | _ => false
theorem tup0B_ok {K : PySem.W.Frag} {a : Addr} (h : tup0B K a = true) (H : Hp) : SqT K H a [] := by
  unfold tup0B at h
  split at h
  · rename_i c od its n sl e
    obtain ⟨h1, h2⟩ := Bool.and_eq_true_iff.mp h
    have h3 : its = #[] := Array.eq_empty_of_size_eq_zero (of_decide_eq_true h2)
    subst h3
    exact .inr ⟨_, #[], n, e, congrArg Value.type (of_decide_eq_true h1), rfl, by decide, .nil⟩
  · cases h
/-- an instance of the class may be called -/
def callB (x : Str) (K : PySem.W.Frag) : Bool := decide (PySem.W.findIn K (.ref (He.ga K x)) "__call__" = some (some (.ref (He.ma K (He.ga K x) "__call__")))) && (PySem.W.isFn K (.ref (He.ma K (He.ga K x) "__call__")) && PySem.W.fnIn K (He.ma K (He.ga K x) "__call__"))
theorem callB_ok {x : Str} {K : PySem.W.Frag} (h : callB x K = true) : StX.CallO K (He.ga K x) (He.ma K (He.ga K x) "__call__") := by
  obtain ⟨h1, h⟩ := Bool.and_eq_true_iff.mp h
  obtain ⟨h2, h3⟩ := Bool.and_eq_true_iff.mp h
  exact ⟨of_decide_eq_true h1, h2, h3⟩
/-- the class of an instance, for isinstance and ==: what TyOf asks -/
def insB (x : Str) (K : PySem.W.Frag) : Bool := decide (PySem.W.findIn K (.ref (He.ga K x)) "__class__" = some (some (.builtin "object.__class__"))) && (decide (PySem.W.specialIn K (.builtin "object.__class__") "__get__" = some (some (.builtin "getset_descriptor.__get__"))) &&
  (decide (PySem.W.takesIn K (.builtin "object.__class__") = some true) && decide (PySem.W.mroIn K (He.ga K x) (.type "object") = some true)))
theorem insB_ok {x : Str} {K : PySem.W.Frag} (h : insB x K = true) (c : Cls K (He.ga K x)) {H : Hp} {a dx : Addr} {fs : List (Str × V)} (e : H a = some (.ins (He.ga K x) dx fs)) : TyX K H (.ref a) (.ref (He.ga K x)) := by
  obtain ⟨h1, h⟩ := Bool.and_eq_true_iff.mp h
  obtain ⟨h2, h⟩ := Bool.and_eq_true_iff.mp h
  obtain ⟨h3, h4⟩ := Bool.and_eq_true_iff.mp h
  exact .base (.ins e c (of_decide_eq_true h1) (of_decide_eq_true h2) (of_decide_eq_true h3) (of_decide_eq_true h4))
/-- isinstance's answers of the class, == of others -/
def kitB (x : Str) (n : String) (b : Bool) (K : PySem.W.Frag) : Bool := decide (PySem.W.kitOne K (.type n) (.ref (He.ga K x)) = some b)
def kitSB (x : Str) (K : PySem.W.Frag) : Bool := decide (PySem.W.kitOne K (.ref (He.ga K x)) (.ref (He.ga K x)) = some true)
def nfB (x : Str) (n : String) (K : PySem.W.Frag) : Bool := PySem.W.notFirst K (He.ga K x) (.type n)
end M

/-! ### part I: a source of draws; frames -/
namespace M
open PySem PySem.Spec PyProof.Rows L2 Evl
/-- all but what stands at a is as it was -/
def Fr (a : Addr) (H H' : Hp) : Prop := ∀ b o, b ≠ a → H b = some o → H' b = some o
theorem Fr.refl (a : Addr) (H : Hp) : Fr a H H := fun _ _ _ h => h
theorem Fr.trans {a : Addr} {H H1 H2 : Hp} (x : Fr a H H1) (y : Fr a H1 H2) : Fr a H H2 := fun b o n h => y b o n (x b o n h)
theorem Fr.of {a : Addr} {H H' : Hp} (e : Ex H H') : Fr a H H' := fun b o _ h => e b o h
theorem Fr.upd {a : Addr} {H : Hp} {o : HO} : Fr a H (upd H a o) := fun b o n h => by rw [upd_ne n]; exact h
/-- a list of three: the digits that are left, the seed, the count -/
def SrcAt (H : Hp) (a : Addr) : Prop := ∃ d s c : Int, H a = some (.lst [.int d, .int s, .int c]) ∧ 0 ≤ d ∧ 0 ≤ s ∧ s < 2147483629 ∧ 0 ≤ c
theorem SrcAt.ex {H H' : Hp} {a : Addr} (e : Ex H H') (h : SrcAt H a) : SrcAt H' a := by
  obtain ⟨d, s, c, h1, h2⟩ := h
  exact ⟨d, s, c, e _ _ h1, h2⟩
theorem SrcAt.ne {H : Hp} {a b : Addr} (h : SrcAt H a) (n : H b = none) : b ≠ a := by
  obtain ⟨d, s, c, h1, _⟩ := h
  rintro rfl
  rw [n] at h1; cases h1
/-- a change of the source alone leaves the tuples -/
theorem Fr.tex {a : Addr} {H H' : Hp} (f : Fr a H H') (h : SrcAt H a) : TEx H H' := fun b xs q => by
  obtain ⟨d, s, c, h1, _⟩ := h
  have hb : b ≠ a := by
    rintro rfl
    rcases q with q | ⟨o', q⟩ <;> rw [h1] at q <;> cases q
  rcases q with q | ⟨o', q⟩
  · exact .inl (f b _ hb q)
  · exact .inr ⟨o', f b _ hb q⟩
theorem fr_t {K : PySem.W.Frag} {a b : Addr} {H H' : Hp} {xs : List V} (f : Fr a H H') (h : SrcAt H a) (s : SqT K H b xs) : SqT K H' b xs := tex_t (f.tex h) s
theorem fr_dp {K : PySem.W.Frag} {a : Addr} {H H' : Hp} {v : V} {d : PyData} (f : Fr a H H') (h : SrcAt H a) (hi : imm d = true) (s : Dp K H v d) : Dp K H' v d := dp_tex (f.tex h) hi s
section
variable {H : Hp} {v : V}
theorem r_set {p : Addr} {xs : List V} {k : Int} {j : Nat} {R : Hp → Prop} (h : H p = some (.lst xs)) (hj : ixN xs.length k = some j) (q : R (upd H p (.lst (xs.set j v)))) : rSetL (.ref p) (.int k) v H R := ⟨p, xs, k, j, rfl, rfl, h, hj, q⟩
theorem r_app {K : PySem.W.Frag} {p : Addr} {xs : List V} {Q : VK} (h : H p = some (.lst xs)) (hz : xs.length < sizeLine) (q : Q .non (upd H p (.lst (xs ++ [v])))) : rAppend (.ref p) [v] H Q := ⟨p, xs, v, rfl, rfl, h, hz, q⟩
end
/-- a built-in method of a list: its receiver stands -/
def BmI (K : PySem.W.Frag) (T : String) (r : V → List V → Hp → VK → Prop) (t : TA) (σ : L2.St) (x : V) (H1 : Hp) (Q : VK) : Prop := tyV K T x H1 ∧ t σ H1 fun xs H2 => r x xs H2 Q
theorem w_bm {K : PySem.W.Frag} {T : String} {r : V → List V → Hp → VK → Prop} {to : TE} {t : TA} {σ : L2.St} {H : Hp} {Q : VK} (h : to σ H fun x H1 => BmI K T r t σ x H1 Q) : tBM K T r to t σ H Q := h
theorem r_bmL {K : PySem.W.Frag} {r : V → List V → Hp → VK → Prop} {t : TA} {σ : L2.St} {p : Addr} {xs : List V} {H : Hp} {Q : VK} (h : SqL K H p xs) (q : t σ H fun vs H2 => r (.ref p) vs H2 Q) : BmI K "list" r t σ (.ref p) H Q := ⟨.inl ⟨rfl, xs, h⟩, q⟩
section
variable {H : Hp} {Q : VK}
theorem r_shr {i j : Int} (h0 : 0 ≤ j) (h : Q (.int (i / 2 ^ j.toNat)) H) : rShr (.int i) (.int j) H Q := ⟨i, j, rfl, rfl, h0, h⟩
theorem r_shl {i j : Int} (hc : CShl i j) (h : Q (.int (i * 2 ^ j.toNat)) H) : rShl (.int i) (.int j) H Q := ⟨i, j, rfl, rfl, hc, h⟩
theorem r_pow {i j : Int} (hc : CPow i j) (h : Q (.int (i ^ j.toNat)) H) : rPow (.int i) (.int j) H Q := ⟨i, j, rfl, rfl, hc, h⟩
end
end M

/-! ### part J: a def whose last statement is super().__init__(..) -/
namespace M
open PySem PySem.Spec PyProof.Rows L2 Evl
namespace MS
open NdefX ClX
theorem execs_app (a b : List Stmt) (env : Env) : execs (a ++ b) env = (do match ← execs a env with | .next => execs b env | f => pure f) := by
  induction a with
  | nil => rw [List.nil_append, execs_nil, pure_bind]
  | cons st a ih =>
    rw [List.cons_append, execs_cons, execs_cons, bind_assoc]
    congr 1
    funext f
    cases f with
    | next => exact ih
    | _ => rw [pure_bind]
/-- what super().__init__ needs of the text: the class at D, its cell cc, the code object cda, the next __init__ at f2 -/
structure SupOf (P : Program) (K : PySem.W.Frag) (mg : Str → Option Value) (D cc cda f2 : Addr) : Prop where
  cell : ∃ cl cld csl, K.lookup cc = some ⟨cl, cld, .cell (some (.ref D)), csl⟩
  cls : ∃ cd, PySem.W.clsIn K D = some cd
  sub : PySem.W.mroIn K D (.ref D) = some true
  code : ∃ ccl cdd vs ccs file tf, K.lookup cda = some ⟨ccl, cdd, .fields vs, ccs⟩ ∧ vs[2]? = some (.str file tf) ∧ ((P.main.file : Str) == file) = true
  gl : mg "super" = none
  any : PySem.W.nsIn K cStatics "thirdparty.any" = some none
  nx : PySem.W.ks_superIn K D D "__init__" = some (some (.ref f2))
  ty : PySem.W.typeIn K (.ref f2) = some (.type "function")
  fi : PySem.W.fnIn K f2 = true
  top : (P.main.scope.names.lookup ("super" : Str)).isSome = false
section
variable {X : Cx} {pins : List (Addr × Obj)} {σ : L2.St} {H : Hp} {s : Shared} {D cc cda f f2 x dx : Addr} {fs : List (Str × V)} {sp2 : Sp} {k2 : Nat} {R : Hp → Prop}
theorem super_stmt {pl : Sem Bool} {ta : TE} {body : List Stmt} {p0 p1 p2 p3 p4 : Pos} {arg : Expr} {fd : FuncData} {of : Obj} {ar : Arg} (U : SupOf X.prog X.K X.mg D cc cda f2) (F2 : FnR X.prog X.w X.K X.mg X.base CX0 k2 f2 sp2) (hr : Room k2 X.A)
    (hks : X.env.kindOf "super" = some .globalImplicit) (hkc : X.env.kindOf "__class__" = some .free) (hfu : X.env.func = some f) (hf : X.K.lookup f = some of) (hfd : of.data = .func fd)
    (hp : (fd.params.posonlyargs ++ fd.params.args).head? = some ar) (har : X.env.scope.names.lookup ar.arg = some .local) (hN : X.N[0]? = some ar.arg) (hco : X.env.code = .ref cda) (hcl : X.env.cells.lookup ("__class__" : Str) = some cc)
    (ha : PE X arg ta) (I : Inv X pins σ H s) (hσ : σ[0]? = some (some (.ref x))) (hx : H x = some (.ins D dx fs))
    (h : ta σ H fun v H2 => sp2 [.ref x, v] H2 (fun _ H3 => R H3) E0)
    (he : starEach [arg] X.env = (false, eval arg X.env) :: starEach [] X.env := by rfl) (hpl : (backTo p3 (starEach ([] : List Expr) X.env)).any (·.1) = false := by rfl)
    (ht : eval (.Call (.Attribute (.Call (.Name "super" p0) [] [] p1) "__init__" p2) [arg] [] p3) X.env = (do
      let ov ← attributeBase (.Call (.Name "super" p0) [] [] p1) "__init__" X.env (eval (.Call (.Name "super" p0) [] [] p1) X.env)
      standAt p2.atName
      let (f, first) ← holding [ov] (getMethod ov "__init__" pl)
      callWith p3 f first (backTo p3 (starEach [arg] X.env)) []) := by rfl)
    (hi : interactive X.env = false := by rfl) (hs : swapsWith (.Call (.Attribute (.Call (.Name "super" p0) [] [] p1) "__init__" p2) [arg] [] p3) none p4.line X.env = pure false := by rfl) :
    PySem.wpAt (model X.prog X.w) X.A (.func body X.env) (exec (.Expr (.Call (.Attribute (.Call (.Name "super" p0) [] [] p1) "__init__" p2) [arg] [] p3) p4) X.env) (fun fl s' => fl = .next ∧ ∃ H', Inv X pins σ H' s' ∧ R H') X.xe s := by
  obtain ⟨cl, cld, csl, hcell⟩ := U.cell
  obtain ⟨cd, hD⟩ := U.cls
  obtain ⟨ccl, cdd, vs, ccs, file, tf, hcode, hvs, hfile⟩ := U.code
  have KX := I.kIn
  obtain ⟨oD, hD1, hD2⟩ : ∃ oD, s.heap.get? D = some oD ∧ oD.data = .cls cd := by
    have hD' := hD
    unfold PySem.W.clsIn at hD'
    split at hD'
    · rename_i c d cd' sl ho
      cases hD'
      exact ⟨_, KX _ _ ho, rfl⟩
    · cases hD'
  obtain ⟨mA, O, _⟩ := ins_get I.hok hx
  obtain ⟨od, J, _⟩ := O.look
  refine ks_wpAt_Expr_any ?_ hi hs
  refine ks_wpAt_MethodCall (pl := pl) ?_ ht
  refine ks_wpAt_super_base (env := X.env) hks hkc rfl hfu (KX _ _ hf) hfd hp hco (KX _ _ hcode) rfl hvs hfile U.top ?_
  obtain ⟨mb, h1, h2⟩ := I.mod.blt
  refine PySem.W.ks_loadName_global I.ok.kind hks (Calls.loadGlobal_builtin (by rw [I.ok.glob]; exact I.mod.glob.keeps I.bk) U.gl (by rw [I.ok.blt]; exact h1.keeps I.bk) ((h2 "super" (by decide)).trans (by decide +kernel)) ⟨rfl, ?_⟩)
  refine wpAny_loadName_free I.ok.kind hkc hcl ⟨_, KX _ _ hcell, rfl⟩ ?_
  obtain ⟨m, hn, hl⟩ := id I.loc
  obtain ⟨u, ru, lo⟩ := hl 0 ar.arg (.ref x) hN hσ (.inl har)
  cases (show u = Value.ref x from ru)
  have hm : m ar.arg = some (.ref x) := by
    rcases lo with ⟨_, hm⟩ | ⟨hk, _⟩
    · exact hm
    · rcases hk with hk | hk
      · have : X.env.scope.names.lookup ar.arg = some .cell := hk
        rw [har] at this; cases this
      · have : X.env.scope.names.lookup ar.arg = some .free := hk
        rw [har] at this; cases this
  refine wpAny_loadName_local I.ok.kind har hn hm ?_
  refine ks_wpAny_isType_cls hD1 hD2 ⟨rfl, ?_⟩
  obtain ⟨hh, g, d, t, os⟩ := s
  refine ks_wpAny_call_super hD1 hD2 J.at_ J.cls (fun c e => ?_) (PySem.W.looks_mroIn KX U.sub) (fun h' e k => ?_)
  · have := J.no
    unfold PySem.W.notCls at this
    rw [e] at this
    exact Bool.noConfusion this
  have I1 := pin_new (t' := t) I k (Nat.le_refl _) e (fun v z => by cases z)
  have KX1 := I1.kIn
  have hnx := U.nx
  unfold PySem.W.ks_superIn at hnx
  rw [hD] at hnx
  obtain ⟨of2, hof, hofc⟩ : ∃ of, h'.get? f2 = some of ∧ of.cls = .type "function" := by
    have ht' : (X.K.lookup f2).map (·.cls) = some (.type "function") := U.ty
    cases z : X.K.lookup f2 with
    | none => rw [z] at ht'; cases ht'
    | some of => rw [z] at ht'; exact ⟨of, KX1 _ _ z, Option.some.inj ht'⟩
  refine ks_wpAny_getMethod_super (l₀ := cd.mro) e (PySem.W.looks_opaque KX1 U.any) ?_ rfl KX1 hnx hof hofc (PySem.W.ks_ne KX J hD) (by decide) ?_
  · exact fun A Q E s k q => wpAny_bind ((PySem.W.looks_clsIn KX1 hD) A _ E s k (wpAny_pure q))
  have I2 := met_new (g := f2) (C := x) I1
  have h' : tCons ta tNil σ H (fun vs H2 => sp2 (.ref x :: vs) H2 (fun _ H3 => R H3) E0) := h
  refine callwith_cm I2 (base_none I1 (Nat.le_refl _)) U.fi (thn ((pa_cons ha pa_nil he).run p3 _ _ σ H _ I2 h') fun us s3 ⟨vs', H2, I3, rv, q2⟩ => ⟨⟨pin_at I3, I3.kIn⟩, ?_⟩) he hpl
  refine thn (run_cm F2 hr pass0 I3 rv q2) fun u s4 ⟨w, H3, I4, _, q3⟩ => ⟨rfl, H3, unpin I4, q3⟩
end
/-- a def whose last statement is super().__init__(arg) keeps its promise -/
theorem fnsup {P : Program} {w : World} {K : PySem.W.Frag} {mg : Str → Option Value} {base : Heap} {name qual self : Str} {params : Arguments} {body pre : List Stmt} {scope : Scope} {f cc cda D f2 : Addr} {fd : FuncData} {N ps : List Str} {k k2 : Nat} {sp sp2 : Sp} {arg : Expr} {p0 p1 p2 p3 p4 : Pos} {ar : Arg}
    (F : FunS K name qual params body scope f fd cc cda) (U : SupOf P K mg D cc cda f2) (F2 : FnR P w K mg base CX0 k2 f2 sp2) (hk : k2 ≤ k)
    (hbody : body = pre ++ [.Expr (.Call (.Attribute (.Call (.Name "super" p0) [] [] p1) "__init__" p2) [arg] [] p3) p4])
    (S : NScope N (self :: ps) ["__class__"] scope) (hks : scope.names.lookup ("super" : Str) = some .globalImplicit)
    (hp : (params.posonlyargs ++ params.args).head? = some ar) (hs : ar.arg = self) (hN : N[0]? = some self)
    (len : ∀ vs H Q E, sp vs H Q E → vs.length = (self :: ps).length)
    (hgo : ∀ (A : Around) (outer : List Env) (s : Shared) (H : Hp) (vs : List V) (Q : VK) (E : XK), Room k (A.deeper (envF ⟨name, qual, params, body, scope, [("__class__", cc)], cda⟩ f s.heap.objs.size)) → sp vs H Q E →
      ∃ t ta, PSs (ncx CX0 P w K mg base N ⟨name, qual, params, body, scope, [("__class__", cc)], cda⟩ f A outer s H E).nox pre t ∧ PE (ncx CX0 P w K mg base N ⟨name, qual, params, body, scope, [("__class__", cc)], cda⟩ f A outer s H E).nox arg ta ∧
        t { nx := fun σ H' => ∃ x dx fs, σ[0]? = some (some (.ref x)) ∧ H' x = some (.ins D dx fs) ∧ ta σ H' fun v H2 => sp2 [.ref x, v] H2 (fun _ H3 => Q .non H3) E0, rt := fun _ _ => False } (startF N vs [some (.ref D)]) H)
    (hst : ∀ (X : Cx), starEach [arg] X.env = (false, eval arg X.env) :: starEach [] X.env := by intro _; rfl) (hpl : ∀ (X : Cx), (backTo p3 (starEach ([] : List Expr) X.env)).any (·.1) = false := by intro _; rfl)
    {pl : Cx → Sem Bool}
    (ht : ∀ (X : Cx), eval (.Call (.Attribute (.Call (.Name "super" p0) [] [] p1) "__init__" p2) [arg] [] p3) X.env = (do
      let ov ← attributeBase (.Call (.Name "super" p0) [] [] p1) "__init__" X.env (eval (.Call (.Name "super" p0) [] [] p1) X.env)
      standAt p2.atName
      let (f, first) ← holding [ov] (getMethod ov "__init__" (pl X))
      callWith p3 f first (backTo p3 (starEach [arg] X.env)) []) := by intro _; rfl)
    (hsw : ∀ (X : Cx), swapsWith (.Call (.Attribute (.Call (.Name "super" p0) [] [] p1) "__init__" p2) [arg] [] p3) none p4.line X.env = pure false := by intro _; rfl) :
    FnOk P w K mg base CX0 (k + 1) f fd (self :: ps) sp := by
  obtain ⟨oc, od, dV, kV, doc, pm, an, ct, osl, rfl, lk, hcd, _⟩ := F.ex
  refine ⟨len, fun A outer s H args us vs Q E hr e0 hb r hsp => ?_⟩
  have KX : K.In s.heap := e0.mod.kin.keeps fun b o e => (e0.bs b o e).1
  have hl := len _ _ _ _ hsp
  have lim : s.heap.NoLimit := e0.mod.nolimit.keeps fun b o e => (e0.bs b o e).1
  obtain ⟨cl, cld, csl, hcell⟩ := U.cell
  refine codeAny_call_function hr.depth (KX _ _ lk) rfl S.co S.gen rfl (PySem.W.codeRec_of KX hcd) (hb _ _ _ _ ?_)
  refine wpAny_newFunctionEnv S.nocell (fun ⟨n, _⟩ hy => S.par n (List.of_mem_zip hy).1) (fun h₁ hns hsb => ⟨lim.fresh _ hsb, ?_⟩) S.kind
  show codeAny _ _ (.func body (envF ⟨name, qual, params, body, scope, [("__class__", cc)], cda⟩ f s.heap.objs.size)) _ _
  refine ks_codeAny_funcAt ?_
  have kp : ∀ b o, s.heap.get? b = some o → h₁.get? b = some o := fun b o e => hsb.extBut b o (Nat.ne_of_lt (Heap.lt_size e)) (Heap.get?_push_of_some _ e)
  have hcc : H cc = none := (e0.bs _ _ (e0.mod.kin _ _ hcell)).2
  have look1 : ∀ y c, List.lookup y [(("__class__" : Str), cc)] = some c → y = "__class__" ∧ c = cc := fun y c e => by
    unfold List.lookup at e
    split at e
    · rename_i q
      cases e
      exact ⟨beq_iff_eq.mp q, rfl⟩
    · cases e
  have C : CellsAt [(("__class__" : Str), cc)] ["__class__"] [some (.ref D)] s.heap H := by
    refine ⟨rfl, fun y c e => ?_, fun x y c e e' => ?_, fun i y e => ?_⟩
    · obtain ⟨_, rfl⟩ := look1 y c e
      exact ⟨hcc, _, ⟨_, KX _ _ hcell, rfl⟩⟩
    · exact (look1 _ _ e).1.trans (look1 _ _ e').1.symm
    · rcases i with _ | i
      · cases e
        refine ⟨cc, by unfold List.lookup; rw [beq_self_eq_true], fun v e => ?_⟩
        cases e
        exact ⟨.ref D, rfl, ⟨_, KX _ _ hcell, rfl⟩⟩
      · cases e
  have hroom := hr.deeper (envF ⟨name, qual, params, body, scope, [("__class__", cc)], cda⟩ f s.heap.objs.size)
  obtain ⟨t, ta, h1, h2, h3⟩ := hgo A outer s H vs Q E hroom hsp
  have I : Inv (ncx CX0 P w K mg base N ⟨name, qual, params, body, scope, [("__class__", cc)], cda⟩ f A outer s H E) [] (startF N vs [some (.ref D)]) H { s with heap := h₁, toks := s.toks + ((self :: ps).zip us).length } := inv_startN S hr.hd e0 hl r C hns kp
  have ebody : execs body (envF ⟨name, qual, params, body, scope, [("__class__", cc)], cda⟩ f s.heap.objs.size) = execs (pre ++ [.Expr (.Call (.Attribute (.Call (.Name "super" p0) [] [] p1) "__init__" p2) [arg] [] p3) p4]) (envF ⟨name, qual, params, body, scope, [("__class__", cc)], cda⟩ f s.heap.objs.size) := congrArg (fun b => execs b _) hbody
  rw [ebody, execs_app]
  refine _root_.PySem.wpAt_bind (_root_.PySem.wpAt_of_wpAny (wpAny_mono (h1.nox.run [] _ _ H _ I h3) (fun fl s' hs' => ?_) fun e s' he => he))
  have fin : ∀ {σ' : L2.St} {H' : Hp} {v : V} {u : Value} {s' : Shared}, Inv (ncx CX0 P w K mg base N ⟨name, qual, params, body, scope, [("__class__", cc)], cda⟩ f A outer s H E) [] σ' H' s' → L2.RelV v u → Q v H' → CE outer P w H s Q u s' :=
    fun {σ' H' v u s'} J rv q => ⟨v, H', J.os, J.bare, J.base, J.hok, rv, q⟩
  cases fl with
  | ret u =>
    obtain ⟨_, _, _, _, _, q⟩ := hs'
    exact q.elim
  | next =>
    obtain ⟨σ', H', J, x, dx, fs, hσ, hx, hta⟩ := hs'
    refine ks_wpAt_execs_cons (ks_wpAt_mono (super_stmt (X := ncx CX0 P w K mg base N ⟨name, qual, params, body, scope, [("__class__", cc)], cda⟩ f A outer s H E) (f := f) (cda := cda) (cc := cc) (D := D) (R := fun H3 => Q .non H3) U F2 (hroom.mono hk) hks (S.frk _ List.mem_cons_self) rfl lk rfl hp (by rw [hs]; exact S.par _ List.mem_cons_self) (by rw [hs]; exact hN) rfl (by show List.lookup ("__class__" : Str) [(("__class__" : Str), cc)] = some cc; unfold List.lookup; rw [beq_self_eq_true]) h2.nox J hσ hx hta (hst _) (hpl _) (ht _) (by show interactive (envF ⟨name, qual, params, body, scope, [("__class__", cc)], cda⟩ f s.heap.objs.size) = false; unfold interactive; rw [show (envF ⟨name, qual, params, body, scope, [("__class__", cc)], cda⟩ f s.heap.objs.size).scope.kind = .function from S.kind]; first | rfl | decide) (hsw _)) (fun fl2 s2 h4 => ?_) fun e s2 h4 => h4)
    obtain ⟨rfl, H3, J3, q3⟩ := h4
    exact _root_.PySem.wpAt_of_wpAny (wpAny_pure (fin (v := .non) (u := Value.none) J3 rfl q3))
  | brk =>
    obtain ⟨_, _, _, q⟩ := hs'
    exact q.elim
  | cont =>
    obtain ⟨_, _, _, q⟩ := hs'
    exact q.elim
end MS
open MS
/-- what the text must have for super().__init__, told by a Bool -/
def cellB (K : PySem.W.Frag) (c D : Addr) : Bool := match K.lookup c with
  | some ⟨_, _, .cell (some (.ref d)), _⟩ => d == D
  | _ => false
theorem cellB_ok {K : PySem.W.Frag} {c D : Addr} (h : cellB K c D = true) : ∃ cl cld csl, K.lookup c = some ⟨cl, cld, .cell (some (.ref D)), csl⟩ := by
  unfold cellB at h
  split at h
  · rename_i e
    rw [beq_iff_eq.mp h] at e
    exact ⟨_, _, _, e⟩
  · cases h
def codeB (mf : Str) (K : PySem.W.Frag) (c : Addr) : Bool := match K.lookup c with
  | some ⟨_, _, .fields vs, _⟩ => (match (vs[2]? : Option Value) with
    | some (Value.str f _) => mf == f
    | _ => false)
  | _ => false
theorem codeB_ok {mf : Str} {K : PySem.W.Frag} {c : Addr} (h : codeB mf K c = true) : ∃ ccl cdd vs ccs file tf, K.lookup c = some ⟨ccl, cdd, .fields vs, ccs⟩ ∧ vs[2]? = some (.str file tf) ∧ (mf == file) = true := by
  unfold codeB at h
  split at h
  · rename_i e
    split at h
    · rename_i e2
      exact ⟨_, _, _, _, _, _, e, e2, h⟩
    · cases h
  · cases h
def someNone (o : Option (Option Value)) : Bool := match o with
  | some none => true
  | _ => false
theorem someNone_ok {o : Option (Option Value)} (h : someNone o = true) : o = some none := by
  unfold someNone at h
  split at h
  · rfl
  · cases h
def supB0 (mf : Str) (K : PySem.W.Frag) (D f f2 : Addr) : Bool := cellB K (cellOf K f) D && ((PySem.W.clsIn K D).isSome && (decide (PySem.W.mroIn K D (.ref D) = some true) && (codeB mf K (codeOf K f) && (someNone (PySem.W.nsIn K cStatics "thirdparty.any") &&
  (He.eqO (PySem.W.ks_superIn K D D "__init__") (some (some (.ref f2))) && (decide (PySem.W.typeIn K (.ref f2) = some (.type "function")) && PySem.W.fnIn K f2))))))
theorem supB0_ok {P : Program} {K : PySem.W.Frag} {mg : Str → Option Value} {D f f2 : Addr} (mf : Str) (pf : ((P.main.file : Str) == mf) = true) (top : (P.main.scope.names.lookup ("super" : Str)).isSome = false) (gl : mg "super" = none) (h : supB0 mf K D f f2 = true) : SupOf P K mg D (cellOf K f) (codeOf K f) f2 := by
  unfold supB0 at h
  simp only [Bool.and_eq_true] at h
  obtain ⟨h1, h2, h3, h4, h5, h6, h7, h8⟩ := h
  refine ⟨cellB_ok h1, Option.isSome_iff_exists.mp h2, of_decide_eq_true h3, ?_, gl, someNone_ok h5, He.eqO_ok h6, of_decide_eq_true h7, h8, top⟩
  rw [beq_iff_eq.mp pf]
  exact codeB_ok h4
theorem FunS.bindsN {K : PySem.W.Frag} {x qual : Str} {params : Arguments} {body : List Stmt} {scope : Scope} {f cc cda : Addr} {fd : FuncData} {ps : List Str} (F : FunS K x qual params body scope f fd cc cda)
    (h : ∀ (kV doc pm : Value) (an : Option Addr) (cdv ct : Value) (us : List Value), us.length = ps.length → bindArgs (PySem.W.ksFn x qual params body scope .none kV doc pm an cdv ct cc) ⟨us, []⟩ = pure (ps.zip us)) : Binds K fd ps [] := by
  obtain ⟨oc, od, dV, kV, doc, pm, an, ct, osl, rfl, lk, hcd, hD⟩ := F.ex
  rcases hD with ⟨_, rfl⟩ | ⟨e, _⟩
  · exact .all (h kV doc pm an (.ref cda) ct)
  · exact absurd rfl e
end M

/-! ### part K: the greatest of three ints, the least of a list, truth of an instance -/
namespace M
open PySem PySem.Spec PyProof.Rows L2 Evl
section
variable {X : Cx} {H : Hp} {Q : VK}
def rMax3U : List V → Hp → VK → Prop := fun xs H Q => ∃ i j k, xs = [.int i, .int j, .int k] ∧ Q (.int (max (max i j) k)) H
theorem xMax3 (hc : X.calm = true) : CallR X (.builtin "max") rMax3U := by
  intro pins s σ H xs us Q I r h
  obtain ⟨i, j, k, rfl, q⟩ := h
  have m2 : ∀ a b : Int, nuMax2 (.int a) (.int b) = some (.int (max a b)) := fun a b => by
    show Option.map _ (some (decide (a < b))) = _
    by_cases c : a < b
    · rw [decide_eq_true c, Int.max_eq_right (by omega)]; rfl
    · rw [decide_eq_false c, Int.max_eq_left (by omega)]; rfl
  exact call_max3Nu hc pins s σ H _ us Q I r ⟨_, _, _, _, rfl, by unfold nuMax3; rw [m2]; exact m2 _ _, q⟩
theorem r_max3 {i j k : Int} (q : Q (.int (max (max i j) k)) H) : rMax3U [.int i, .int j, .int k] H Q := ⟨i, j, k, rfl, q⟩
theorem kMinL (K : PySem.W.Frag) (hc : X.calm = true) (h : X.K = K := by rfl) : CallR X (.builtin "min") (rMin K) := by subst h; exact cr_min hc
theorem kMaxL (K : PySem.W.Frag) (hc : X.calm = true) (h : X.K = K := by rfl) : CallR X (.builtin "max") (rMax K) := by subst h; exact cr_max hc
theorem r_minL {K : PySem.W.Frag} {a : Addr} {ns : List Int} (h : SqL K H a (vI ns)) (hn : 0 < ns.length) (q : ∀ m, m ∈ ns → (∀ y, y ∈ ns → m ≤ y) → Q (.int m) H) : rMin K [.ref a] H Q := ⟨a, ns, rfl, h, hn, q⟩
theorem r_maxL {K : PySem.W.Frag} {a : Addr} {ns : List Int} (h : SqL K H a (vI ns)) (hn : 0 < ns.length) (q : ∀ m, m ∈ ns → (∀ y, y ∈ ns → y ≤ m) → Q (.int m) H) : rMax K [.ref a] H Q := ⟨a, ns, rfl, h, hn, q⟩
end
end M

/-! ### part L: static methods of a class -/
namespace M
open PySem PySem.Spec PyProof.Rows L2 Evl
def smF (x m : Str) (K : PySem.W.Frag) : Addr := match PySem.W.recIn K (He.ma K (He.ga K x) m) "staticmethod" with
  | some (.ref f :: _) => f
  | _ => 0
structure SMet (K : PySem.W.Frag) (C : Addr) (m : Str) (p g : Addr) : Prop where
  rd : ClX.CRead K C (.type "type")
  at_ : PySem.W.findCls K (.ref C) (.type "type") m = some (.get (.builtin "staticmethod.__get__") (.ref p) .none (.ref C))
  rc : ∃ rest, PySem.W.recIn K p "staticmethod" = some (.ref g :: rest)
  kp : PySem.W.keepIn K (.ref g) = true
def smB (x m : Str) (K : PySem.W.Frag) : Bool := (match PySem.W.findCls K (.ref (He.ga K x)) (.type "type") m with
    | some (.get (.builtin g) (.ref p) .none (.ref D)) => decide (g = "staticmethod.__get__") && (decide (p = He.ma K (He.ga K x) m) && decide (D = He.ga K x))
    | _ => false) && ((match PySem.W.recIn K (He.ma K (He.ga K x) m) "staticmethod" with
    | some (.ref _ :: _) => true
    | _ => false) && (PySem.W.keepIn K (.ref (smF x m K)) && (PySem.W.readsIn K (He.ga K x) (.type "type") && He.eqO (PySem.W.specialIn K (.ref (He.ga K x)) "__getattribute__") (some (some (.builtin "type.__getattribute__"))))))
theorem smB_ok {x m : Str} {K : PySem.W.Frag} (h : smB x m K = true) : SMet K (He.ga K x) m (He.ma K (He.ga K x) m) (smF x m K) := by
  obtain ⟨h1, h⟩ := Bool.and_eq_true_iff.mp h
  obtain ⟨h2, h⟩ := Bool.and_eq_true_iff.mp h
  obtain ⟨h3, h⟩ := Bool.and_eq_true_iff.mp h
  obtain ⟨h4, h5⟩ := Bool.and_eq_true_iff.mp h
  refine ⟨⟨h4, He.eqO_ok h5⟩, ?_, ?_, h3⟩
  · clear h2 h3
    split at h1
    · rename_i g p D e
      obtain ⟨k1, k⟩ := Bool.and_eq_true_iff.mp h1
      obtain ⟨k2, k3⟩ := Bool.and_eq_true_iff.mp k
      rw [e, of_decide_eq_true k1, of_decide_eq_true k2, of_decide_eq_true k3]
    · cases h1
  · unfold smF
    split at h2
    · rename_i f r e
      exact ⟨r, by rw [e]⟩
    · cases h2
/-- C.m(..), m a staticmethod of the class at C -/
def tSMeth (C : Addr) (sp : Sp) (E : XK) (ta : TE) (t : TA) : TE := fun σ H Q => ta σ H fun x H1 => x = .ref C ∧ t σ H1 fun vs H2 => sp vs H2 Q E
theorem w_smeth {C : Addr} {sp : Sp} {E : XK} {t : TA} {σ : L2.St} {H : Hp} {Q : VK} (h : t σ H fun vs H2 => sp vs H2 Q E) : tSMeth C sp E (tC (.ref C)) t σ H Q := ⟨rfl, h⟩
structure Stm (P : Program) (w : World) (K : PySem.W.Frag) (mg : Str → Option Value) (base : Heap) (k : Nat) (C : Addr) (m : Str) (sp : Sp) : Prop where
  ex : ∃ (p g : Addr) (fd : FuncData) (ps : List Str), SMet K C m p g ∧ FnOk P w K mg base CX0 k g fd ps sp ∧ Binds K fd ps []
section
variable {X : Cx} {CX : CXT} {k j : Nat} {C p g : Addr} {sp : Sp} {E : XK} {o e : Expr} {es : List Expr} {m : Str} {pos apos : Pos} {ta : TE} {t : TA} {pl : Sem Bool}
theorem pe_smeth (he : PE X o ta) (c : SMet X.K C m p g) (F : FnR X.prog X.w X.K X.mg X.base CX k g sp) (hr : Room k X.A) (hx : Passes CX X E) (ha : PA X (e :: es) t)
    (hst : starEach (e :: es) X.env = (false, eval e X.env) :: starEach es X.env := by rfl) (hpl : (backTo pos (starEach es X.env)).any (·.1) = false := by rfl)
    (ht : eval (.Call (.Attribute o m apos) (e :: es) [] pos) X.env = (do
      let ov ← eval o X.env
      standAt apos.atName
      let (f, first) ← holding [ov] (getMethod ov m pl)
      callWith pos f first (backTo pos (starEach (e :: es) X.env)) (backToKw pos (keywordEach [] X.env))) := by rfl) :
    PE X (.Call (.Attribute o m apos) (e :: es) [] pos) (tSMeth C sp E ta t) := by
  refine ⟨fun pins s σ H Q I h => ?_⟩
  refine PySem.W.methodCall_KW (pl := pl) (thn (he.run pins s σ H _ I h) fun u s1 ⟨x, H1, I1, rx, ex, q⟩ => ?_) ht
  subst ex
  obtain rfl : u = Value.ref C := rx
  obtain ⟨rest, hp⟩ := c.rc
  refine PySem.W.method_cls I1.kIn c.rd.ga (PySem.W.cls_bind I1.kIn c.rd.rd c.at_ ?_)
  refine wpAny_call (PySem.W.sm_get (s := { s1 with toks := s1.toks + 1 }) I1.kIn hp (PySem.W.handed_on rfl ?_))
  have I2 := I1.tok (s1.toks + 1)
  refine PySem.W.callWith_K (h₀ := X.base) I.ok.mod.kin c.kp (thn (ha.run pos pins _ σ H1 _ I2 q) fun us s3 ⟨vs, H2, I3, rv, q2⟩ => ⟨I3.kIn, ?_⟩) hst hpl
  exact wpAny_call (run_fnR F hr hx I3 rv q2)
theorem psm (c : Stm X.prog X.w X.K X.mg X.base k C m sp) (hr : Room j X.A) (hk : k ≤ j) (he : PE X o ta) (ha : PA X (e :: es) t)
    (hst : starEach (e :: es) X.env = (false, eval e X.env) :: starEach es X.env := by rfl) (hpl : (backTo pos (starEach es X.env)).any (·.1) = false := by rfl)
    (ht : eval (.Call (.Attribute o m apos) (e :: es) [] pos) X.env = (do
      let ov ← eval o X.env
      standAt apos.atName
      let (f, first) ← holding [ov] (getMethod ov m pl)
      callWith pos f first (backTo pos (starEach (e :: es) X.env)) (backToKw pos (keywordEach [] X.env))) := by rfl) :
    PE X (.Call (.Attribute o m apos) (e :: es) [] pos) (tSMeth C sp E0 ta t) := by
  obtain ⟨p, g, fd, ps, sm, F, hb⟩ := c.ex
  exact pe_smeth (pl := pl) he sm ((F.raw hb .nil).imp fun vs H Q E h => by rw [List.append_nil]; exact h) (hr.mono hk) pass0 ha hst hpl ht
end
end M

namespace M
open PySem PySem.Spec PyProof.Rows L2 Evl MS
--@import HandS.Text
--@import HandS.Iter
--@import HandS.Walk
/-! texts: comparing, joining, splitting, reading and writing numbers, walking the signs -/
def rLeU : R2 := fun x y H Q => rI0 (fun i j => .bl (decide (i ≤ j))) x y H Q ∨ ∃ i j, x = .str i ∧ y = .str j ∧ Q (.bl (!decide (j.cps.toList < i.cps.toList))) H
theorem xLeS {X : Cx} : OpR X (compareOp .LtE) rLeU := op_le.or op_le_str
def rJoin (K : PySem.W.Frag) : V → List V → Hp → VK → Prop := fun x xs H Q => ∃ a p, ∃ ys : List Str, x = .str a ∧ xs = [.ref p] ∧ (SqL K H p (ys.map V.str) ∨ SqT K H p (ys.map V.str)) ∧ (ys.map (·.length)).sum + ys.length * a.length ≤ 16777216 ∧ Q (.str (Txt.join a ys)) H
def rSplit : V → List V → Hp → VK → Prop := fun x xs H Q => ∃ a b, x = .str a ∧ xs = [.str b] ∧ (b.length == 0) = false ∧ a.length + 2 ≤ sizeLine ∧ rNewStrs (Txt.split a b) H Q
section
variable {X : Cx} {o e : Expr} {to te : TE} {apos pos : Pos}
theorem kJoin (K : PySem.W.Frag) (ho : PE X o to) (he : PE X e te) (hs : starEach [e] X.env = [(false, eval e X.env)] := by rfl) (hbase : attributeBase o "join" X.env (eval o X.env) = eval o X.env := by rfl) (hline : (apos.endLine == pos.line) = true := by rfl) (h : X.K = K := by rfl) :
    PE X (.Call (.Attribute o "join" apos) [e] [] pos) (tM1 (rJoin K) to te) := by subst h; exact pe_join ho he hs hbase hline
theorem xSplit (ho : PE X o to) (he : PE X e te) (hs : starEach [e] X.env = [(false, eval e X.env)] := by rfl) (hbase : attributeBase o "split" X.env (eval o X.env) = eval o X.env := by rfl) (hline : (apos.endLine == pos.line) = true := by rfl) :
    PE X (.Call (.Attribute o "split" apos) [e] [] pos) (tM1 rSplit to te) := pe_split ho he hs hbase hline
end
def rIntS : List V → Hp → VK → Prop := fun xs H Q => ∃ a n, xs = [.str a] ∧ PySem.intText? a = some n ∧ a.length ≤ 640 ∧ Q (.int n) H
theorem xIntS {X : Cx} : CallR X (.type "int") rIntS := call_int_str
def rStrI : List V → Hp → VK → Prop := fun xs H Q => ∃ i, xs = [.int i] ∧ i.natAbs.log2 < 1920 ∧ Q (.str (toString i)) H
theorem xStrI {X : Cx} : CallR X (.type "str") rStrI := call_str_int
def rLenS : List V → Hp → VK → Prop := fun xs H Q => ∃ z, xs = [.str z] ∧ z.length ≤ sizeLine ∧ Q (.int z.length) H
theorem xLenS {X : Cx} : CallR X (.builtin "len") rLenS := call_len_str
theorem kFldAug (K : PySem.W.Frag) {X : Cx} {o value : Expr} {f : Str} {op : Operator} {pos tpos : Pos} {ta tv : TE} {rd : V → V → Hp → VK → Prop} (ha : PE X o ta) (hv : PE X value tv) (hop : InOp X op rd) (h : X.K = K := by rfl) : PS X (.AugAssign (.Attribute o f tpos) op value pos) (sFldAug K ta tv rd f) := by
  subst h
  exact ps_fldaug ha hv hop
section
variable {K : PySem.W.Frag} {H : Hp} {Q : VK} {σ : L2.St}
theorem r_leUI {i j : Int} (h : Q (.bl (decide (i ≤ j))) H) : rLeU (.int i) (.int j) H Q := .inl ⟨i, j, rfl, rfl, h⟩
theorem r_leUS {i j : Str} (h : Q (.bl (!decide (j.cps.toList < i.cps.toList))) H) : rLeU (.str i) (.str j) H Q := .inr ⟨i, j, rfl, rfl, h⟩
theorem w_m1 {r : V → List V → Hp → VK → Prop} {to te : TE} (h : to σ H fun x H1 => (∃ a, x = .str a) ∧ te σ H1 fun y H2 => r x [y] H2 Q) : tM1 r to te σ H Q := h
theorem r_joinL {a : Str} {p : Addr} {ys : List Str} (h : SqL K H p (ys.map V.str)) (hz : (ys.map (·.length)).sum + ys.length * a.length ≤ 16777216) (q : Q (.str (Txt.join a ys)) H) : rJoin K (.str a) [.ref p] H Q := ⟨a, p, ys, rfl, rfl, .inl h, hz, q⟩
theorem r_split {a b : Str} (hb : (b.length == 0) = false) (hz : a.length + 2 ≤ sizeLine) (q : ∀ p H1, H p = none → Ex H H1 → H1 p = some (.lst ((Txt.split a b).map V.str)) → Q (.ref p) H1) : rSplit (.str a) [.str b] H Q :=
  ⟨a, b, rfl, rfl, hb, hz, fun p hp => q p _ hp (Ex.new hp) upd_same⟩
theorem r_strI {i : Int} (hz : i.natAbs.log2 < 1920) (q : Q (.str (toString i)) H) : rStrI [.int i] H Q := ⟨i, rfl, hz, q⟩
theorem r_intS {a : Str} {n : Int} (hn : PySem.intText? a = some n) (hz : a.length ≤ 640) (q : Q (.int n) H) : rIntS [.str a] H Q := ⟨a, n, rfl, hn, hz, q⟩
theorem r_lenS {a : Str} (hz : a.length ≤ sizeLine) (q : Q (.int a.length) H) : rLenS [.str a] H Q := ⟨a, rfl, hz, q⟩
theorem r_ixS {z : Str} {i : Int} {c : Nat} (hz : z.length ≤ sizeLine) (ha : atI z.cps.toList i = some c) (q : Q (.str ⟨#[c]⟩) H) : rIx K (.str z) (.int i) H Q := .inr (.inr ⟨z, i, c, rfl, rfl, hz, ha, q⟩)
theorem w_fldAug {a C dx dx' : Addr} {fs fs' : List (Str × V)} {ta tv : TE} {rd : V → V → Hp → VK → Prop} {f : Str} {D : Ends}
    (h : ta σ H fun x H1 => ∃ a C dx fs v, x = .ref a ∧ H1 a = some (.ins C dx fs) ∧ Cls K C ∧ NoAttr K C f ∧ fs.lookup f = some v ∧ tv σ H1 fun y H2 => rd v y H2 fun z H3 => ∃ dx' fs', H3 a = some (.ins C dx' fs') ∧ fs'.length < 1000 ∧ D.nx σ (upd H3 a (.ins C dx' (putF f z fs')))) : sFldAug K ta tv rd f D σ H := h
theorem i_str {te : TE} {R : It → Hp → Prop} (h : te σ H fun v H1 => ∃ x, v = .str x ∧ R (Its x) H1) : iStr te σ H R := h
/-- a comprehension over a text's signs -/
theorem lcJ_str {z : Str} {j : Nat} {te : TE} {vs : List Nat} (v : Nat → V) (hn : z.cps.size ≤ 100000) (σ' : V → L2.St) (hσ : ∀ x, (wipe σ vs).set j (some x) = σ' x) (hw : ∀ x, wipe ((wipe σ vs).set j (some x)) vs = wipe σ vs)
    (he : ∀ (c : Nat) (H1 : Hp) (Q' : VK), Ex H H1 → c ∈ z.cps.toList → (∀ H2, Ex H1 H2 → Q' (v c) H2) → te (σ' (.str ⟨#[c]⟩)) H1 Q')
    (hq : ∀ p H2, H p = none → Ex H H2 → H2 p = some (.lst (z.cps.toList.map v)) → Q (.ref p) H2) : LcJ (Its z) (gName j) tYes te vs σ H Q := fun D hD => by
  have hsz : z.cps.toList.length = z.cps.size := Array.length_toList
  have key := lc_it (J := Its z) (n := z.cps.size) (G := fun _ => True) (Y := fun i H x H' => H' = H ∧ ∃ c, z.cps[i]? = some c ∧ x = .str ⟨#[c]⟩) ⟨fun _ _ hi _ => hi, fun _ _ => Nat.le_refl _, fun _ _ _ _ _ _ y => y⟩
    (g := gName j) (tt := tYes) (te := te) (vs := vs) (σ := σ) (H1 := H) (D := D) (Qd := Q (.ref D)) (fun i H' => Ex H H' ∧ H' D = some (.lst ((z.cps.toList.take i).map v))) ⟨Ex.new hD, upd_same⟩ (fun _ _ _ _ => trivial) ?_ (fun H' p => hq D H' hD p.1 (by
      have e := p.2
      rwa [← hsz, List.take_length] at e))
  · exact key
  · rintro i x H' H'' hi p ⟨rfl, c, hc, rfl⟩
    refine ⟨hw _, ?_⟩
    show te ((wipe σ vs).set j _) H'' _
    rw [hσ]
    have hcl : z.cps.toList[i]? = some c := by rw [Array.getElem?_toList]; exact hc
    refine he c H'' _ p.1 (List.mem_of_getElem? hcl) fun H2 e2 => ⟨(z.cps.toList.take i).map v, e2 D _ p.2, sz_lt (by rw [List.length_map, List.length_take]; omega), Ex.mut (p.1.trans e2) hD, ?_⟩
    rw [List.take_add_one, hcl, List.map_append]
    exact upd_same
end

end M
namespace M
open PySem PySem.Spec PyProof.Rows L2 Evl MS
def top (i : Nat) : Stmt := PySem.Challenge.pw_rosterneed_k26_whole_least_needs.main.body.getD i (.Pass ⟨0, 0, 0, 0⟩)
def mainFile : Str := PySem.Challenge.pw_rosterneed_k26_whole_least_needs.main.file
abbrev s_is_integer : Stmt := top 12
def d_is_integer : DX := ⟨fun K => He.ga K "is_integer", "is_integer", "is_integer", defArgs s_is_integer, defBody s_is_integer, defScope s_is_integer, [], false⟩
abbrev s_is_count : Stmt := top 13
def d_is_count : DX := ⟨fun K => He.ga K "is_count", "is_count", "is_count", defArgs s_is_count, defBody s_is_count, defScope s_is_count, [], false⟩
abbrev s_is_listed : Stmt := top 14
def d_is_listed : DX := ⟨fun K => He.ga K "is_listed", "is_listed", "is_listed", defArgs s_is_listed, defBody s_is_listed, defScope s_is_listed, [], false⟩
abbrev s_is_counts : Stmt := top 15
def d_is_counts : DX := ⟨fun K => He.ga K "is_counts", "is_counts", "is_counts", defArgs s_is_counts, defBody s_is_counts, defScope s_is_counts, [], false⟩
abbrev s_deep : Stmt := top 16
def d_deep : DX := ⟨fun K => He.ga K "deep", "deep", "deep", defArgs s_deep, defBody s_deep, defScope s_deep, [], false⟩
abbrev s_end_of : Stmt := top 23
def d_end_of : DX := ⟨fun K => He.ga K "end_of", "end_of", "end_of", defArgs s_end_of, defBody s_end_of, defScope s_end_of, [], false⟩
abbrev s_value_at : Stmt := top 24
def d_value_at : DX := ⟨fun K => He.ga K "value_at", "value_at", "value_at", defArgs s_value_at, defBody s_value_at, defScope s_value_at, [], false⟩
abbrev s_short_loop : Stmt := top 25
def d_short_loop : DX := ⟨fun K => He.ga K "short_loop", "short_loop", "short_loop", defArgs s_short_loop, defBody s_short_loop, defScope s_short_loop, [], false⟩
abbrev s_plain_form : Stmt := top 26
def d_plain_form : DX := ⟨fun K => He.ga K "plain_form", "plain_form", "plain_form", defArgs s_plain_form, defBody s_plain_form, defScope s_plain_form, [], false⟩
abbrev s_is_rising : Stmt := top 37
def d_is_rising : DX := ⟨fun K => He.ga K "is_rising", "is_rising", "is_rising", defArgs s_is_rising, defBody s_is_rising, defScope s_is_rising, [], false⟩
abbrev s_checked_table : Stmt := top 38
def d_checked_table : DX := ⟨fun K => He.ga K "checked_table", "checked_table", "checked_table", defArgs s_checked_table, defBody s_checked_table, defScope s_checked_table, [], false⟩
abbrev s_is_deed : Stmt := top 49
def d_is_deed : DX := ⟨fun K => He.ga K "is_deed", "is_deed", "is_deed", defArgs s_is_deed, defBody s_is_deed, defScope s_is_deed, [], false⟩
abbrev s_is_deeds : Stmt := top 50
def d_is_deeds : DX := ⟨fun K => He.ga K "is_deeds", "is_deeds", "is_deeds", defArgs s_is_deeds, defBody s_is_deeds, defScope s_is_deeds, [], false⟩
abbrev s_is_ways : Stmt := top 51
def d_is_ways : DX := ⟨fun K => He.ga K "is_ways", "is_ways", "is_ways", defArgs s_is_ways, defBody s_is_ways, defScope s_is_ways, [], false⟩
abbrev s_is_way_numbers : Stmt := top 52
def d_is_way_numbers : DX := ⟨fun K => He.ga K "is_way_numbers", "is_way_numbers", "is_way_numbers", defArgs s_is_way_numbers, defBody s_is_way_numbers, defScope s_is_way_numbers, [], false⟩
abbrev s_is_course : Stmt := top 53
def d_is_course : DX := ⟨fun K => He.ga K "is_course", "is_course", "is_course", defArgs s_is_course, defBody s_is_course, defScope s_is_course, [], false⟩
abbrev s_takes_ahead : Stmt := top 54
def d_takes_ahead : DX := ⟨fun K => He.ga K "takes_ahead", "takes_ahead", "takes_ahead", defArgs s_takes_ahead, defBody s_takes_ahead, defScope s_takes_ahead, [], false⟩
abbrev s_check_inlet : Stmt := top 55
def d_check_inlet : DX := ⟨fun K => He.ga K "check_inlet", "check_inlet", "check_inlet", defArgs s_check_inlet, defBody s_check_inlet, defScope s_check_inlet, [], false⟩
abbrev s_need_on : Stmt := top 56
def d_need_on : DX := ⟨fun K => He.ga K "need_on", "need_on", "need_on", defArgs s_need_on, defBody s_need_on, defScope s_need_on, [], false⟩
abbrev s_extreme : Stmt := top 61
def d_extreme : DX := ⟨fun K => He.ga K "extreme", "extreme", "extreme", defArgs s_extreme, defBody s_extreme, defScope s_extreme, [], false⟩
abbrev s_least : Stmt := top 62
def d_least : DX := ⟨fun K => He.ga K "least", "least", "least", defArgs s_least, defBody s_least, defScope s_least, [], false⟩
abbrev s_best_course : Stmt := top 63
def d_best_course : DX := ⟨fun K => He.ga K "best_course", "best_course", "best_course", defArgs s_best_course, defBody s_best_course, defScope s_best_course, [], false⟩
abbrev s_course_of : Stmt := top 64
def d_course_of : DX := ⟨fun K => He.ga K "course_of", "course_of", "course_of", defArgs s_course_of, defBody s_course_of, defScope s_course_of, [], false⟩
abbrev s__law_source : Stmt := top 66
def d__law_source : DX := ⟨fun K => He.ga K "_law_source", "_law_source", "_law_source", defArgs s__law_source, defBody s__law_source, defScope s__law_source, [], false⟩
abbrev s__law_pick : Stmt := top 67
def d__law_pick : DX := ⟨fun K => He.ga K "_law_pick", "_law_pick", "_law_pick", defArgs s__law_pick, defBody s__law_pick, defScope s__law_pick, [], false⟩
abbrev s__law_is_integer : Stmt := top 68
def d__law_is_integer : DX := ⟨fun K => He.ga K "_law_is_integer", "_law_is_integer", "_law_is_integer", defArgs s__law_is_integer, defBody s__law_is_integer, defScope s__law_is_integer, [], false⟩
abbrev s__law_is_count : Stmt := top 69
def d__law_is_count : DX := ⟨fun K => He.ga K "_law_is_count", "_law_is_count", "_law_is_count", defArgs s__law_is_count, defBody s__law_is_count, defScope s__law_is_count, [], false⟩
abbrev s__law_le : Stmt := top 70
def d__law_le : DX := ⟨fun K => He.ga K "_law_le", "_law_le", "_law_le", defArgs s__law_le, defBody s__law_le, defScope s__law_le, [], false⟩
abbrev s__law_end : Stmt := top 71
def d__law_end : DX := ⟨fun K => He.ga K "_law_end", "_law_end", "_law_end", defArgs s__law_end, defBody s__law_end, defScope s__law_end, [], false⟩
abbrev s__law_at : Stmt := top 72
def d__law_at : DX := ⟨fun K => He.ga K "_law_at", "_law_at", "_law_at", defArgs s__law_at, defBody s__law_at, defScope s__law_at, [], false⟩
abbrev s__law_gcd : Stmt := top 73
def d__law_gcd : DX := ⟨fun K => He.ga K "_law_gcd", "_law_gcd", "_law_gcd", defArgs s__law_gcd, defBody s__law_gcd, defScope s__law_gcd, [], false⟩
abbrev s__law_plain : Stmt := top 74
def d__law_plain : DX := ⟨fun K => He.ga K "_law_plain", "_law_plain", "_law_plain", defArgs s__law_plain, defBody s__law_plain, defScope s__law_plain, [], false⟩
abbrev s__law_fit : Stmt := top 75
def d__law_fit : DX := ⟨fun K => He.ga K "_law_fit", "_law_fit", "_law_fit", defArgs s__law_fit, defBody s__law_fit, defScope s__law_fit, [], false⟩
abbrev s__law_above : Stmt := top 76
def d__law_above : DX := ⟨fun K => He.ga K "_law_above", "_law_above", "_law_above", defArgs s__law_above, defBody s__law_above, defScope s__law_above, [], false⟩
abbrev s__law_same : Stmt := top 77
def d__law_same : DX := ⟨fun K => He.ga K "_law_same", "_law_same", "_law_same", defArgs s__law_same, defBody s__law_same, defScope s__law_same, [], false⟩
abbrev s__law_deeds : Stmt := top 78
def d__law_deeds : DX := ⟨fun K => He.ga K "_law_deeds", "_law_deeds", "_law_deeds", defArgs s__law_deeds, defBody s__law_deeds, defScope s__law_deeds, [], false⟩
abbrev s__law_maker : Stmt := top 79
def d__law_maker : DX := ⟨fun K => He.ga K "_law_maker", "_law_maker", "_law_maker", defArgs s__law_maker, defBody s__law_maker, defScope s__law_maker, [], false⟩
abbrev s__law_made : Stmt := top 80
def d__law_made : DX := ⟨fun K => He.ga K "_law_made", "_law_made", "_law_made", defArgs s__law_made, defBody s__law_made, defScope s__law_made, [], false⟩
abbrev s__law_ahead : Stmt := top 81
def d__law_ahead : DX := ⟨fun K => He.ga K "_law_ahead", "_law_ahead", "_law_ahead", defArgs s__law_ahead, defBody s__law_ahead, defScope s__law_ahead, [], false⟩
abbrev s__law_on : Stmt := top 82
def d__law_on : DX := ⟨fun K => He.ga K "_law_on", "_law_on", "_law_on", defArgs s__law_on, defBody s__law_on, defScope s__law_on, [], false⟩
abbrev s__law_extreme : Stmt := top 83
def d__law_extreme : DX := ⟨fun K => He.ga K "_law_extreme", "_law_extreme", "_law_extreme", defArgs s__law_extreme, defBody s__law_extreme, defScope s__law_extreme, [], false⟩
abbrev s__law_need_at : Stmt := top 84
def d__law_need_at : DX := ⟨fun K => He.ga K "_law_need_at", "_law_need_at", "_law_need_at", defArgs s__law_need_at, defBody s__law_need_at, defScope s__law_need_at, [], false⟩
abbrev s__law_is_told_course : Stmt := top 85
def d__law_is_told_course : DX := ⟨fun K => He.ga K "_law_is_told_course", "_law_is_told_course", "_law_is_told_course", defArgs s__law_is_told_course, defBody s__law_is_told_course, defScope s__law_is_told_course, [], false⟩
abbrev s__law_long_maker : Stmt := top 86
def d__law_long_maker : DX := ⟨fun K => He.ga K "_law_long_maker", "_law_long_maker", "_law_long_maker", defArgs s__law_long_maker, defBody s__law_long_maker, defScope s__law_long_maker, [], false⟩
abbrev s__law_course : Stmt := top 87
def d__law_course : DX := ⟨fun K => He.ga K "_law_course", "_law_course", "_law_course", defArgs s__law_course, defBody s__law_course, defScope s__law_course, [], false⟩
abbrev s_law : Stmt := top 88
def d_law : DX := ⟨fun K => He.ga K "law", "law", "law", defArgs s_law, defBody s_law, defScope s_law, [], false⟩
abbrev s_Table_init : Stmt := inClass (top 39) 0
def d_Table_init : DX := ⟨fun K => He.ma K (He.ga K "Table") "__init__", "__init__", "Table.__init__", defArgs s_Table_init, defBody s_Table_init, defScope s_Table_init, [.adr (He.dflAt ("Table", some "__init__") 0), .int 0], false⟩
abbrev s_Table_call : Stmt := inClass (top 39) 3
def d_Table_call : DX := ⟨fun K => He.ma K (He.ga K "Table") "__call__", "__call__", "Table.__call__", defArgs s_Table_call, defBody s_Table_call, defScope s_Table_call, [], false⟩
abbrev s_Maker_init : Stmt := inClass (top 57) 0
def d_Maker_init : DX := ⟨fun K => He.ma K (He.ga K "Maker") "__init__", "__init__", "Maker.__init__", defArgs s_Maker_init, defBody s_Maker_init, defScope s_Maker_init, [], false⟩
abbrev s_Maker_need : Stmt := inClass (top 57) 2
def d_Maker_need : DX := ⟨fun K => He.ma K (He.ga K "Maker") "need", "need", "Maker.need", defArgs s_Maker_need, defBody s_Maker_need, defScope s_Maker_need, [], false⟩
abbrev s_Rounds_init : Stmt := inClass (top 60) 0
def d_Rounds_init : DX := ⟨fun K => He.ma K (He.ga K "Rounds") "__init__", "__init__", "Rounds.__init__", defArgs s_Rounds_init, defBody s_Rounds_init, defScope s_Rounds_init, [], false⟩
abbrev s_Rounds_is_better : Stmt := inClass (top 60) 1
def d_Rounds_is_better : DX := ⟨fun K => He.ma K (He.ga K "Rounds") "is_better", "is_better", "Rounds.is_better", defArgs s_Rounds_is_better, defBody s_Rounds_is_better, defScope s_Rounds_is_better, [], false⟩
abbrev s_Rounds_fill : Stmt := inClass (top 60) 2
def d_Rounds_fill : DX := ⟨fun K => He.ma K (He.ga K "Rounds") "fill", "fill", "Rounds.fill", defArgs s_Rounds_fill, defBody s_Rounds_fill, defScope s_Rounds_fill, [], false⟩
abbrev s_Rounds_last_round : Stmt := inClass (top 60) 3
def d_Rounds_last_round : DX := ⟨fun K => He.ma K (He.ga K "Rounds") "last_round", "last_round", "Rounds.last_round", defArgs s_Rounds_last_round, defBody s_Rounds_last_round, defScope s_Rounds_last_round, [], false⟩
abbrev s_Rounds_rounds_to : Stmt := inClass (top 60) 4
def d_Rounds_rounds_to : DX := ⟨fun K => He.ma K (He.ga K "Rounds") "rounds_to", "rounds_to", "Rounds.rounds_to", defArgs s_Rounds_rounds_to, defBody s_Rounds_rounds_to, defScope s_Rounds_rounds_to, [], false⟩
abbrev s_Rounds_lasting : Stmt := inClass (top 60) 5
def d_Rounds_lasting : DX := ⟨fun K => He.ma K (He.ga K "Rounds") "lasting", "lasting", "Rounds.lasting", defArgs s_Rounds_lasting, defBody s_Rounds_lasting, defScope s_Rounds_lasting, [], false⟩
def fn0 : List DX := [d_is_integer, d_is_count, d_is_listed, d_is_counts, d_deep, d_end_of, d_value_at, d_short_loop, d_plain_form, d_is_rising, d_checked_table, d_is_deed]
def fn1 : List DX := [d_is_deeds, d_is_ways, d_is_way_numbers, d_is_course, d_takes_ahead, d_check_inlet, d_need_on, d_extreme, d_least, d_best_course, d_course_of, d__law_source]
def fn2 : List DX := [d__law_pick, d__law_is_integer, d__law_is_count, d__law_le, d__law_end, d__law_at, d__law_gcd, d__law_plain, d__law_fit, d__law_above, d__law_same, d__law_deeds]
def fn3 : List DX := [d__law_maker, d__law_made, d__law_ahead, d__law_on, d__law_extreme, d__law_need_at, d__law_is_told_course, d__law_long_maker, d__law_course, d_law, d_Table_init, d_Table_call]
def fn4 : List DX := [d_Maker_init, d_Maker_need, d_Rounds_init, d_Rounds_is_better, d_Rounds_fill, d_Rounds_last_round, d_Rounds_rounds_to, d_Rounds_lasting]
def fn : List DX := fn0 ++ fn1 ++ fn2 ++ fn3 ++ fn4
def fa0 : List He.Fa := [.free "abs", .free "all", .free "any", .free "bool", .free "enumerate", .free "int", .free "isinstance", .free "len", .free "list", .free "max", .free "min", .free "range"]
def fa1 : List He.Fa := [.free "str", .free "tuple", .glo "is_integer", .glo "is_count", .glo "is_listed", .glo "is_counts", .glo "deep", .glo "end_of", .glo "value_at", .glo "short_loop", .glo "plain_form", .glo "is_rising"]
def fa2 : List He.Fa := [.glo "checked_table", .glo "is_deed", .glo "is_deeds", .glo "is_ways", .glo "is_way_numbers", .glo "is_course", .glo "takes_ahead", .glo "check_inlet", .glo "need_on", .glo "extreme", .glo "least", .glo "best_course"]
def fa3 : List He.Fa := [.glo "course_of", .glo "_law_source", .glo "_law_pick", .glo "_law_is_integer", .glo "_law_is_count", .glo "_law_le", .glo "_law_end", .glo "_law_at", .glo "_law_gcd", .glo "_law_plain", .glo "_law_fit", .glo "_law_above"]
def fa4 : List He.Fa := [.glo "_law_same", .glo "_law_deeds", .glo "_law_maker", .glo "_law_made", .glo "_law_ahead", .glo "_law_on", .glo "_law_extreme", .glo "_law_need_at", .glo "_law_is_told_course", .glo "_law_long_maker", .glo "_law_course", .glo "law"]
def fa5 : List He.Fa := [.meth "Table" "__init__", .meth "Table" "__call__", .meth "Maker" "__init__", .meth "Maker" "need", .meth "Rounds" "__init__", .meth "Rounds" "is_better", .meth "Rounds" "fill", .meth "Rounds" "last_round", .meth "Rounds" "rounds_to", .meth "Rounds" "lasting", .glo "Table", .cls "Table"]
def fa6 : List He.Fa := [.mkr "Table", .noat "Table" "head", .noat "Table" "loop", .noat "Table" "rise", .glo "Maker", .cls "Maker", .mkr "Maker", .noat "Maker" "inlets", .noat "Maker" "begin", .noat "Maker" "ways", .glo "Rounds", .cls "Rounds"]
def fa7 : List He.Fa := [.mkr "Rounds", .noat "Rounds" "most", .noat "Rounds" "begun", .noat "Rounds" "taken", .noat "Rounds" "ways", .noat "Rounds" "stops", .noat "Rounds" "giving", .noat "Rounds" "totals", .int "MOST_INLETS" 3, .int "MOST_WAYS" 4, .int "MOST_DEEDS" 600, .int "MOST_DEEDS_EACH" 24]
def fa8 : List He.Fa := [.int "MOST_FIRST" 200, .int "MOST_THEN" 40, .int "MOST_PIECE" 2000, .str "GIVE" "give"]
def fa : List He.Fa := fa0 ++ fa1 ++ fa2 ++ fa3 ++ fa4 ++ fa5 ++ fa6 ++ fa7 ++ fa8
def exL0 : List (PySem.W.Frag → Bool) := [(insB "Table"), (kitSB "Table"), (fun K => PySem.W.notFirst K (He.ga K "Table") (.ref (He.ga K "Table"))), (fun K => He.eqO (PySem.W.findIn K (.ref (He.ga K "Table")) "__ne__") (some (some (.builtin "object.__ne__")))), (fun K => decide (PySem.W.mroIn K (He.ga K "Table") (.type "object") = some true)), (kitB "Table" "tuple" false), (nfB "Table" "tuple"), (kitB "Table" "list" false), (nfB "Table" "list"), (kitB "Table" "int" false), (nfB "Table" "int"), (kitB "Table" "NoneType" false)]
def exL1 : List (PySem.W.Frag → Bool) := [(nfB "Table" "NoneType"), (kitB "Table" "str" false), (nfB "Table" "str"), (kitB "Table" "bool" false), (nfB "Table" "bool"), (insB "Maker"), (kitSB "Maker"), (fun K => PySem.W.notFirst K (He.ga K "Maker") (.ref (He.ga K "Maker"))), (fun K => He.eqO (PySem.W.findIn K (.ref (He.ga K "Maker")) "__ne__") (some (some (.builtin "object.__ne__")))), (fun K => decide (PySem.W.mroIn K (He.ga K "Maker") (.type "object") = some true)), (kitB "Maker" "tuple" false), (nfB "Maker" "tuple")]
def exL2 : List (PySem.W.Frag → Bool) := [(kitB "Maker" "list" false), (nfB "Maker" "list"), (kitB "Maker" "int" false), (nfB "Maker" "int"), (kitB "Maker" "NoneType" false), (nfB "Maker" "NoneType"), (kitB "Maker" "str" false), (nfB "Maker" "str"), (kitB "Maker" "bool" false), (nfB "Maker" "bool"), (insB "Rounds"), (kitSB "Rounds")]
def exL3 : List (PySem.W.Frag → Bool) := [(fun K => PySem.W.notFirst K (He.ga K "Rounds") (.ref (He.ga K "Rounds"))), (fun K => He.eqO (PySem.W.findIn K (.ref (He.ga K "Rounds")) "__ne__") (some (some (.builtin "object.__ne__")))), (fun K => decide (PySem.W.mroIn K (He.ga K "Rounds") (.type "object") = some true)), (kitB "Rounds" "tuple" false), (nfB "Rounds" "tuple"), (kitB "Rounds" "list" false), (nfB "Rounds" "list"), (kitB "Rounds" "int" false), (nfB "Rounds" "int"), (kitB "Rounds" "NoneType" false), (nfB "Rounds" "NoneType"), (kitB "Rounds" "str" false)]
def exL4 : List (PySem.W.Frag → Bool) := [(nfB "Rounds" "str"), (kitB "Rounds" "bool" false), (nfB "Rounds" "bool"), (callB "Table"), (fun K => tup0B K (He.dflAt ("Table", some "__init__") 0 K))]
def exL : List (PySem.W.Frag → Bool) := exL0 ++ exL1 ++ exL2 ++ exL3 ++ exL4
def exB (K : PySem.W.Frag) : Bool := exL.all fun f => f K
/-- what the top has left -/
structure Env (P : Program) (K : PySem.W.Frag) (mg : Str → Option Value) : Prop where
  ex : ∃ h : Heap, K.In h ∧ h.Ns mainGlobals mg
  c : SaysM fa fn exB K
  pf : ((P.main.file : Str) == mainFile) = true ∧ (P.main.scope.names.lookup ("super" : Str)).isSome = false
theorem Env.x {P : Program} {K : PySem.W.Frag} {mg : Str → Option Value} (E : Env P K mg) (i : Nat) {f : PySem.W.Frag → Bool} (h : exL[i]? = some f) : f K = true := List.all_eq_true.mp (show (exL.all fun f => f K) = true from E.c.more) f (List.mem_of_getElem? h)
theorem Env.f_abs {P : Program} {K : PySem.W.Frag} {mg : Str → Option Value} (E : Env P K mg) : mg "abs" = none := by obtain ⟨h, X, G⟩ := E.ex; exact He.free_ok X G (E.c.fact 0 (f := .free "abs") rfl)
theorem Env.f_all {P : Program} {K : PySem.W.Frag} {mg : Str → Option Value} (E : Env P K mg) : mg "all" = none := by obtain ⟨h, X, G⟩ := E.ex; exact He.free_ok X G (E.c.fact 1 (f := .free "all") rfl)
theorem Env.f_any {P : Program} {K : PySem.W.Frag} {mg : Str → Option Value} (E : Env P K mg) : mg "any" = none := by obtain ⟨h, X, G⟩ := E.ex; exact He.free_ok X G (E.c.fact 2 (f := .free "any") rfl)
theorem Env.f_bool {P : Program} {K : PySem.W.Frag} {mg : Str → Option Value} (E : Env P K mg) : mg "bool" = none := by obtain ⟨h, X, G⟩ := E.ex; exact He.free_ok X G (E.c.fact 3 (f := .free "bool") rfl)
theorem Env.f_enumerate {P : Program} {K : PySem.W.Frag} {mg : Str → Option Value} (E : Env P K mg) : mg "enumerate" = none := by obtain ⟨h, X, G⟩ := E.ex; exact He.free_ok X G (E.c.fact 4 (f := .free "enumerate") rfl)
theorem Env.f_int {P : Program} {K : PySem.W.Frag} {mg : Str → Option Value} (E : Env P K mg) : mg "int" = none := by obtain ⟨h, X, G⟩ := E.ex; exact He.free_ok X G (E.c.fact 5 (f := .free "int") rfl)
theorem Env.f_isinstance {P : Program} {K : PySem.W.Frag} {mg : Str → Option Value} (E : Env P K mg) : mg "isinstance" = none := by obtain ⟨h, X, G⟩ := E.ex; exact He.free_ok X G (E.c.fact 6 (f := .free "isinstance") rfl)
theorem Env.f_len {P : Program} {K : PySem.W.Frag} {mg : Str → Option Value} (E : Env P K mg) : mg "len" = none := by obtain ⟨h, X, G⟩ := E.ex; exact He.free_ok X G (E.c.fact 7 (f := .free "len") rfl)
theorem Env.f_list {P : Program} {K : PySem.W.Frag} {mg : Str → Option Value} (E : Env P K mg) : mg "list" = none := by obtain ⟨h, X, G⟩ := E.ex; exact He.free_ok X G (E.c.fact 8 (f := .free "list") rfl)
theorem Env.f_max {P : Program} {K : PySem.W.Frag} {mg : Str → Option Value} (E : Env P K mg) : mg "max" = none := by obtain ⟨h, X, G⟩ := E.ex; exact He.free_ok X G (E.c.fact 9 (f := .free "max") rfl)
theorem Env.f_min {P : Program} {K : PySem.W.Frag} {mg : Str → Option Value} (E : Env P K mg) : mg "min" = none := by obtain ⟨h, X, G⟩ := E.ex; exact He.free_ok X G (E.c.fact 10 (f := .free "min") rfl)
theorem Env.f_range {P : Program} {K : PySem.W.Frag} {mg : Str → Option Value} (E : Env P K mg) : mg "range" = none := by obtain ⟨h, X, G⟩ := E.ex; exact He.free_ok X G (E.c.fact 11 (f := .free "range") rfl)
theorem Env.f_str {P : Program} {K : PySem.W.Frag} {mg : Str → Option Value} (E : Env P K mg) : mg "str" = none := by obtain ⟨h, X, G⟩ := E.ex; exact He.free_ok X G (E.c.fact 12 (f := .free "str") rfl)
theorem Env.f_tuple {P : Program} {K : PySem.W.Frag} {mg : Str → Option Value} (E : Env P K mg) : mg "tuple" = none := by obtain ⟨h, X, G⟩ := E.ex; exact He.free_ok X G (E.c.fact 13 (f := .free "tuple") rfl)
theorem Env.g_is_integer {P : Program} {K : PySem.W.Frag} {mg : Str → Option Value} (E : Env P K mg) : mg "is_integer" = some (.ref (He.ga K "is_integer")) := by obtain ⟨h, X, G⟩ := E.ex; exact He.glo_ok X G (E.c.fact 14 (f := .glo "is_integer") rfl)
theorem Env.g_is_count {P : Program} {K : PySem.W.Frag} {mg : Str → Option Value} (E : Env P K mg) : mg "is_count" = some (.ref (He.ga K "is_count")) := by obtain ⟨h, X, G⟩ := E.ex; exact He.glo_ok X G (E.c.fact 15 (f := .glo "is_count") rfl)
theorem Env.g_is_listed {P : Program} {K : PySem.W.Frag} {mg : Str → Option Value} (E : Env P K mg) : mg "is_listed" = some (.ref (He.ga K "is_listed")) := by obtain ⟨h, X, G⟩ := E.ex; exact He.glo_ok X G (E.c.fact 16 (f := .glo "is_listed") rfl)
theorem Env.g_is_counts {P : Program} {K : PySem.W.Frag} {mg : Str → Option Value} (E : Env P K mg) : mg "is_counts" = some (.ref (He.ga K "is_counts")) := by obtain ⟨h, X, G⟩ := E.ex; exact He.glo_ok X G (E.c.fact 17 (f := .glo "is_counts") rfl)
theorem Env.g_deep {P : Program} {K : PySem.W.Frag} {mg : Str → Option Value} (E : Env P K mg) : mg "deep" = some (.ref (He.ga K "deep")) := by obtain ⟨h, X, G⟩ := E.ex; exact He.glo_ok X G (E.c.fact 18 (f := .glo "deep") rfl)
theorem Env.g_end_of {P : Program} {K : PySem.W.Frag} {mg : Str → Option Value} (E : Env P K mg) : mg "end_of" = some (.ref (He.ga K "end_of")) := by obtain ⟨h, X, G⟩ := E.ex; exact He.glo_ok X G (E.c.fact 19 (f := .glo "end_of") rfl)
theorem Env.g_value_at {P : Program} {K : PySem.W.Frag} {mg : Str → Option Value} (E : Env P K mg) : mg "value_at" = some (.ref (He.ga K "value_at")) := by obtain ⟨h, X, G⟩ := E.ex; exact He.glo_ok X G (E.c.fact 20 (f := .glo "value_at") rfl)
theorem Env.g_short_loop {P : Program} {K : PySem.W.Frag} {mg : Str → Option Value} (E : Env P K mg) : mg "short_loop" = some (.ref (He.ga K "short_loop")) := by obtain ⟨h, X, G⟩ := E.ex; exact He.glo_ok X G (E.c.fact 21 (f := .glo "short_loop") rfl)
theorem Env.g_plain_form {P : Program} {K : PySem.W.Frag} {mg : Str → Option Value} (E : Env P K mg) : mg "plain_form" = some (.ref (He.ga K "plain_form")) := by obtain ⟨h, X, G⟩ := E.ex; exact He.glo_ok X G (E.c.fact 22 (f := .glo "plain_form") rfl)
theorem Env.g_is_rising {P : Program} {K : PySem.W.Frag} {mg : Str → Option Value} (E : Env P K mg) : mg "is_rising" = some (.ref (He.ga K "is_rising")) := by obtain ⟨h, X, G⟩ := E.ex; exact He.glo_ok X G (E.c.fact 23 (f := .glo "is_rising") rfl)
theorem Env.g_checked_table {P : Program} {K : PySem.W.Frag} {mg : Str → Option Value} (E : Env P K mg) : mg "checked_table" = some (.ref (He.ga K "checked_table")) := by obtain ⟨h, X, G⟩ := E.ex; exact He.glo_ok X G (E.c.fact 24 (f := .glo "checked_table") rfl)
theorem Env.g_is_deed {P : Program} {K : PySem.W.Frag} {mg : Str → Option Value} (E : Env P K mg) : mg "is_deed" = some (.ref (He.ga K "is_deed")) := by obtain ⟨h, X, G⟩ := E.ex; exact He.glo_ok X G (E.c.fact 25 (f := .glo "is_deed") rfl)
theorem Env.g_is_deeds {P : Program} {K : PySem.W.Frag} {mg : Str → Option Value} (E : Env P K mg) : mg "is_deeds" = some (.ref (He.ga K "is_deeds")) := by obtain ⟨h, X, G⟩ := E.ex; exact He.glo_ok X G (E.c.fact 26 (f := .glo "is_deeds") rfl)
theorem Env.g_is_ways {P : Program} {K : PySem.W.Frag} {mg : Str → Option Value} (E : Env P K mg) : mg "is_ways" = some (.ref (He.ga K "is_ways")) := by obtain ⟨h, X, G⟩ := E.ex; exact He.glo_ok X G (E.c.fact 27 (f := .glo "is_ways") rfl)
theorem Env.g_is_way_numbers {P : Program} {K : PySem.W.Frag} {mg : Str → Option Value} (E : Env P K mg) : mg "is_way_numbers" = some (.ref (He.ga K "is_way_numbers")) := by obtain ⟨h, X, G⟩ := E.ex; exact He.glo_ok X G (E.c.fact 28 (f := .glo "is_way_numbers") rfl)
theorem Env.g_is_course {P : Program} {K : PySem.W.Frag} {mg : Str → Option Value} (E : Env P K mg) : mg "is_course" = some (.ref (He.ga K "is_course")) := by obtain ⟨h, X, G⟩ := E.ex; exact He.glo_ok X G (E.c.fact 29 (f := .glo "is_course") rfl)
theorem Env.g_takes_ahead {P : Program} {K : PySem.W.Frag} {mg : Str → Option Value} (E : Env P K mg) : mg "takes_ahead" = some (.ref (He.ga K "takes_ahead")) := by obtain ⟨h, X, G⟩ := E.ex; exact He.glo_ok X G (E.c.fact 30 (f := .glo "takes_ahead") rfl)
theorem Env.g_check_inlet {P : Program} {K : PySem.W.Frag} {mg : Str → Option Value} (E : Env P K mg) : mg "check_inlet" = some (.ref (He.ga K "check_inlet")) := by obtain ⟨h, X, G⟩ := E.ex; exact He.glo_ok X G (E.c.fact 31 (f := .glo "check_inlet") rfl)
theorem Env.g_need_on {P : Program} {K : PySem.W.Frag} {mg : Str → Option Value} (E : Env P K mg) : mg "need_on" = some (.ref (He.ga K "need_on")) := by obtain ⟨h, X, G⟩ := E.ex; exact He.glo_ok X G (E.c.fact 32 (f := .glo "need_on") rfl)
theorem Env.g_extreme {P : Program} {K : PySem.W.Frag} {mg : Str → Option Value} (E : Env P K mg) : mg "extreme" = some (.ref (He.ga K "extreme")) := by obtain ⟨h, X, G⟩ := E.ex; exact He.glo_ok X G (E.c.fact 33 (f := .glo "extreme") rfl)
theorem Env.g_least {P : Program} {K : PySem.W.Frag} {mg : Str → Option Value} (E : Env P K mg) : mg "least" = some (.ref (He.ga K "least")) := by obtain ⟨h, X, G⟩ := E.ex; exact He.glo_ok X G (E.c.fact 34 (f := .glo "least") rfl)
theorem Env.g_best_course {P : Program} {K : PySem.W.Frag} {mg : Str → Option Value} (E : Env P K mg) : mg "best_course" = some (.ref (He.ga K "best_course")) := by obtain ⟨h, X, G⟩ := E.ex; exact He.glo_ok X G (E.c.fact 35 (f := .glo "best_course") rfl)
theorem Env.g_course_of {P : Program} {K : PySem.W.Frag} {mg : Str → Option Value} (E : Env P K mg) : mg "course_of" = some (.ref (He.ga K "course_of")) := by obtain ⟨h, X, G⟩ := E.ex; exact He.glo_ok X G (E.c.fact 36 (f := .glo "course_of") rfl)
theorem Env.g__law_source {P : Program} {K : PySem.W.Frag} {mg : Str → Option Value} (E : Env P K mg) : mg "_law_source" = some (.ref (He.ga K "_law_source")) := by obtain ⟨h, X, G⟩ := E.ex; exact He.glo_ok X G (E.c.fact 37 (f := .glo "_law_source") rfl)
theorem Env.g__law_pick {P : Program} {K : PySem.W.Frag} {mg : Str → Option Value} (E : Env P K mg) : mg "_law_pick" = some (.ref (He.ga K "_law_pick")) := by obtain ⟨h, X, G⟩ := E.ex; exact He.glo_ok X G (E.c.fact 38 (f := .glo "_law_pick") rfl)
theorem Env.g__law_is_integer {P : Program} {K : PySem.W.Frag} {mg : Str → Option Value} (E : Env P K mg) : mg "_law_is_integer" = some (.ref (He.ga K "_law_is_integer")) := by obtain ⟨h, X, G⟩ := E.ex; exact He.glo_ok X G (E.c.fact 39 (f := .glo "_law_is_integer") rfl)
theorem Env.g__law_is_count {P : Program} {K : PySem.W.Frag} {mg : Str → Option Value} (E : Env P K mg) : mg "_law_is_count" = some (.ref (He.ga K "_law_is_count")) := by obtain ⟨h, X, G⟩ := E.ex; exact He.glo_ok X G (E.c.fact 40 (f := .glo "_law_is_count") rfl)
theorem Env.g__law_le {P : Program} {K : PySem.W.Frag} {mg : Str → Option Value} (E : Env P K mg) : mg "_law_le" = some (.ref (He.ga K "_law_le")) := by obtain ⟨h, X, G⟩ := E.ex; exact He.glo_ok X G (E.c.fact 41 (f := .glo "_law_le") rfl)
theorem Env.g__law_end {P : Program} {K : PySem.W.Frag} {mg : Str → Option Value} (E : Env P K mg) : mg "_law_end" = some (.ref (He.ga K "_law_end")) := by obtain ⟨h, X, G⟩ := E.ex; exact He.glo_ok X G (E.c.fact 42 (f := .glo "_law_end") rfl)
theorem Env.g__law_at {P : Program} {K : PySem.W.Frag} {mg : Str → Option Value} (E : Env P K mg) : mg "_law_at" = some (.ref (He.ga K "_law_at")) := by obtain ⟨h, X, G⟩ := E.ex; exact He.glo_ok X G (E.c.fact 43 (f := .glo "_law_at") rfl)
theorem Env.g__law_gcd {P : Program} {K : PySem.W.Frag} {mg : Str → Option Value} (E : Env P K mg) : mg "_law_gcd" = some (.ref (He.ga K "_law_gcd")) := by obtain ⟨h, X, G⟩ := E.ex; exact He.glo_ok X G (E.c.fact 44 (f := .glo "_law_gcd") rfl)
theorem Env.g__law_plain {P : Program} {K : PySem.W.Frag} {mg : Str → Option Value} (E : Env P K mg) : mg "_law_plain" = some (.ref (He.ga K "_law_plain")) := by obtain ⟨h, X, G⟩ := E.ex; exact He.glo_ok X G (E.c.fact 45 (f := .glo "_law_plain") rfl)
theorem Env.g__law_fit {P : Program} {K : PySem.W.Frag} {mg : Str → Option Value} (E : Env P K mg) : mg "_law_fit" = some (.ref (He.ga K "_law_fit")) := by obtain ⟨h, X, G⟩ := E.ex; exact He.glo_ok X G (E.c.fact 46 (f := .glo "_law_fit") rfl)
theorem Env.g__law_above {P : Program} {K : PySem.W.Frag} {mg : Str → Option Value} (E : Env P K mg) : mg "_law_above" = some (.ref (He.ga K "_law_above")) := by obtain ⟨h, X, G⟩ := E.ex; exact He.glo_ok X G (E.c.fact 47 (f := .glo "_law_above") rfl)
theorem Env.g__law_same {P : Program} {K : PySem.W.Frag} {mg : Str → Option Value} (E : Env P K mg) : mg "_law_same" = some (.ref (He.ga K "_law_same")) := by obtain ⟨h, X, G⟩ := E.ex; exact He.glo_ok X G (E.c.fact 48 (f := .glo "_law_same") rfl)
theorem Env.g__law_deeds {P : Program} {K : PySem.W.Frag} {mg : Str → Option Value} (E : Env P K mg) : mg "_law_deeds" = some (.ref (He.ga K "_law_deeds")) := by obtain ⟨h, X, G⟩ := E.ex; exact He.glo_ok X G (E.c.fact 49 (f := .glo "_law_deeds") rfl)
theorem Env.g__law_maker {P : Program} {K : PySem.W.Frag} {mg : Str → Option Value} (E : Env P K mg) : mg "_law_maker" = some (.ref (He.ga K "_law_maker")) := by obtain ⟨h, X, G⟩ := E.ex; exact He.glo_ok X G (E.c.fact 50 (f := .glo "_law_maker") rfl)
theorem Env.g__law_made {P : Program} {K : PySem.W.Frag} {mg : Str → Option Value} (E : Env P K mg) : mg "_law_made" = some (.ref (He.ga K "_law_made")) := by obtain ⟨h, X, G⟩ := E.ex; exact He.glo_ok X G (E.c.fact 51 (f := .glo "_law_made") rfl)
theorem Env.g__law_ahead {P : Program} {K : PySem.W.Frag} {mg : Str → Option Value} (E : Env P K mg) : mg "_law_ahead" = some (.ref (He.ga K "_law_ahead")) := by obtain ⟨h, X, G⟩ := E.ex; exact He.glo_ok X G (E.c.fact 52 (f := .glo "_law_ahead") rfl)
theorem Env.g__law_on {P : Program} {K : PySem.W.Frag} {mg : Str → Option Value} (E : Env P K mg) : mg "_law_on" = some (.ref (He.ga K "_law_on")) := by obtain ⟨h, X, G⟩ := E.ex; exact He.glo_ok X G (E.c.fact 53 (f := .glo "_law_on") rfl)
theorem Env.g__law_extreme {P : Program} {K : PySem.W.Frag} {mg : Str → Option Value} (E : Env P K mg) : mg "_law_extreme" = some (.ref (He.ga K "_law_extreme")) := by obtain ⟨h, X, G⟩ := E.ex; exact He.glo_ok X G (E.c.fact 54 (f := .glo "_law_extreme") rfl)
theorem Env.g__law_need_at {P : Program} {K : PySem.W.Frag} {mg : Str → Option Value} (E : Env P K mg) : mg "_law_need_at" = some (.ref (He.ga K "_law_need_at")) := by obtain ⟨h, X, G⟩ := E.ex; exact He.glo_ok X G (E.c.fact 55 (f := .glo "_law_need_at") rfl)
theorem Env.g__law_is_told_course {P : Program} {K : PySem.W.Frag} {mg : Str → Option Value} (E : Env P K mg) : mg "_law_is_told_course" = some (.ref (He.ga K "_law_is_told_course")) := by obtain ⟨h, X, G⟩ := E.ex; exact He.glo_ok X G (E.c.fact 56 (f := .glo "_law_is_told_course") rfl)
theorem Env.g__law_long_maker {P : Program} {K : PySem.W.Frag} {mg : Str → Option Value} (E : Env P K mg) : mg "_law_long_maker" = some (.ref (He.ga K "_law_long_maker")) := by obtain ⟨h, X, G⟩ := E.ex; exact He.glo_ok X G (E.c.fact 57 (f := .glo "_law_long_maker") rfl)
theorem Env.g__law_course {P : Program} {K : PySem.W.Frag} {mg : Str → Option Value} (E : Env P K mg) : mg "_law_course" = some (.ref (He.ga K "_law_course")) := by obtain ⟨h, X, G⟩ := E.ex; exact He.glo_ok X G (E.c.fact 58 (f := .glo "_law_course") rfl)
theorem Env.g_law {P : Program} {K : PySem.W.Frag} {mg : Str → Option Value} (E : Env P K mg) : mg "law" = some (.ref (He.ga K "law")) := by obtain ⟨h, X, G⟩ := E.ex; exact He.glo_ok X G (E.c.fact 59 (f := .glo "law") rfl)
theorem Env.m_Table_init {P : Program} {K : PySem.W.Frag} {mg : Str → Option Value} (E : Env P K mg) : Meth K (He.ga K "Table") "__init__" (He.ma K (He.ga K "Table") "__init__") := He.meth_ok (E.c.fact 60 (f := .meth "Table" "__init__") rfl)
theorem Env.m_Table_call {P : Program} {K : PySem.W.Frag} {mg : Str → Option Value} (E : Env P K mg) : Meth K (He.ga K "Table") "__call__" (He.ma K (He.ga K "Table") "__call__") := He.meth_ok (E.c.fact 61 (f := .meth "Table" "__call__") rfl)
theorem Env.m_Maker_init {P : Program} {K : PySem.W.Frag} {mg : Str → Option Value} (E : Env P K mg) : Meth K (He.ga K "Maker") "__init__" (He.ma K (He.ga K "Maker") "__init__") := He.meth_ok (E.c.fact 62 (f := .meth "Maker" "__init__") rfl)
theorem Env.m_Maker_need {P : Program} {K : PySem.W.Frag} {mg : Str → Option Value} (E : Env P K mg) : Meth K (He.ga K "Maker") "need" (He.ma K (He.ga K "Maker") "need") := He.meth_ok (E.c.fact 63 (f := .meth "Maker" "need") rfl)
theorem Env.m_Rounds_init {P : Program} {K : PySem.W.Frag} {mg : Str → Option Value} (E : Env P K mg) : Meth K (He.ga K "Rounds") "__init__" (He.ma K (He.ga K "Rounds") "__init__") := He.meth_ok (E.c.fact 64 (f := .meth "Rounds" "__init__") rfl)
theorem Env.m_Rounds_is_better {P : Program} {K : PySem.W.Frag} {mg : Str → Option Value} (E : Env P K mg) : Meth K (He.ga K "Rounds") "is_better" (He.ma K (He.ga K "Rounds") "is_better") := He.meth_ok (E.c.fact 65 (f := .meth "Rounds" "is_better") rfl)
theorem Env.m_Rounds_fill {P : Program} {K : PySem.W.Frag} {mg : Str → Option Value} (E : Env P K mg) : Meth K (He.ga K "Rounds") "fill" (He.ma K (He.ga K "Rounds") "fill") := He.meth_ok (E.c.fact 66 (f := .meth "Rounds" "fill") rfl)
theorem Env.m_Rounds_last_round {P : Program} {K : PySem.W.Frag} {mg : Str → Option Value} (E : Env P K mg) : Meth K (He.ga K "Rounds") "last_round" (He.ma K (He.ga K "Rounds") "last_round") := He.meth_ok (E.c.fact 67 (f := .meth "Rounds" "last_round") rfl)
theorem Env.m_Rounds_rounds_to {P : Program} {K : PySem.W.Frag} {mg : Str → Option Value} (E : Env P K mg) : Meth K (He.ga K "Rounds") "rounds_to" (He.ma K (He.ga K "Rounds") "rounds_to") := He.meth_ok (E.c.fact 68 (f := .meth "Rounds" "rounds_to") rfl)
theorem Env.m_Rounds_lasting {P : Program} {K : PySem.W.Frag} {mg : Str → Option Value} (E : Env P K mg) : Meth K (He.ga K "Rounds") "lasting" (He.ma K (He.ga K "Rounds") "lasting") := He.meth_ok (E.c.fact 69 (f := .meth "Rounds" "lasting") rfl)
theorem Env.g_Table {P : Program} {K : PySem.W.Frag} {mg : Str → Option Value} (E : Env P K mg) : mg "Table" = some (.ref (He.ga K "Table")) := by obtain ⟨h, X, G⟩ := E.ex; exact He.glo_ok X G (E.c.fact 70 (f := .glo "Table") rfl)
theorem Env.c_Table {P : Program} {K : PySem.W.Frag} {mg : Str → Option Value} (E : Env P K mg) : Cls K (He.ga K "Table") := He.cls_ok (E.c.fact 71 (f := .cls "Table") rfl)
theorem Env.mk_Table {P : Program} {K : PySem.W.Frag} {mg : Str → Option Value} (E : Env P K mg) : Mk K (He.ga K "Table") (He.ma K (He.ga K "Table") "__init__") := He.mkr_ok (E.c.fact 72 (f := .mkr "Table") rfl)
theorem Env.na_Table_head {P : Program} {K : PySem.W.Frag} {mg : Str → Option Value} (E : Env P K mg) : NoAttr K (He.ga K "Table") "head" := He.noat_ok (E.c.fact 73 (f := .noat "Table" "head") rfl)
theorem Env.na_Table_loop {P : Program} {K : PySem.W.Frag} {mg : Str → Option Value} (E : Env P K mg) : NoAttr K (He.ga K "Table") "loop" := He.noat_ok (E.c.fact 74 (f := .noat "Table" "loop") rfl)
theorem Env.na_Table_rise {P : Program} {K : PySem.W.Frag} {mg : Str → Option Value} (E : Env P K mg) : NoAttr K (He.ga K "Table") "rise" := He.noat_ok (E.c.fact 75 (f := .noat "Table" "rise") rfl)
theorem Env.ins_Table {P : Program} {K : PySem.W.Frag} {mg : Str → Option Value} (E : Env P K mg) : insB "Table" K = true := (E.x 0 (f := insB "Table") rfl)
theorem Env.kit_Table_self {P : Program} {K : PySem.W.Frag} {mg : Str → Option Value} (E : Env P K mg) : PySem.W.kitOne K (.ref (He.ga K "Table")) (.ref (He.ga K "Table")) = some true := of_decide_eq_true (E.x 1 (f := kitSB "Table") rfl)
theorem Env.nf_Table_self {P : Program} {K : PySem.W.Frag} {mg : Str → Option Value} (E : Env P K mg) : PySem.W.notFirst K (He.ga K "Table") (.ref (He.ga K "Table")) = true := (E.x 2 (f := fun K => PySem.W.notFirst K (He.ga K "Table") (.ref (He.ga K "Table"))) rfl)
theorem Env.ne_Table {P : Program} {K : PySem.W.Frag} {mg : Str → Option Value} (E : Env P K mg) : PySem.W.findIn K (.ref (He.ga K "Table")) "__ne__" = some (some (.builtin "object.__ne__")) := He.eqO_ok (E.x 3 (f := fun K => He.eqO (PySem.W.findIn K (.ref (He.ga K "Table")) "__ne__") (some (some (.builtin "object.__ne__")))) rfl)
theorem Env.mo_Table {P : Program} {K : PySem.W.Frag} {mg : Str → Option Value} (E : Env P K mg) : PySem.W.mroIn K (He.ga K "Table") (.type "object") = some true := of_decide_eq_true (E.x 4 (f := fun K => decide (PySem.W.mroIn K (He.ga K "Table") (.type "object") = some true)) rfl)
theorem Env.kit_Table_tuple {P : Program} {K : PySem.W.Frag} {mg : Str → Option Value} (E : Env P K mg) : PySem.W.kitOne K (.type "tuple") (.ref (He.ga K "Table")) = some false := of_decide_eq_true (E.x 5 (f := kitB "Table" "tuple" false) rfl)
theorem Env.nf_Table_tuple {P : Program} {K : PySem.W.Frag} {mg : Str → Option Value} (E : Env P K mg) : PySem.W.notFirst K (He.ga K "Table") (.type "tuple") = true := (E.x 6 (f := nfB "Table" "tuple") rfl)
theorem Env.kit_Table_list {P : Program} {K : PySem.W.Frag} {mg : Str → Option Value} (E : Env P K mg) : PySem.W.kitOne K (.type "list") (.ref (He.ga K "Table")) = some false := of_decide_eq_true (E.x 7 (f := kitB "Table" "list" false) rfl)
theorem Env.nf_Table_list {P : Program} {K : PySem.W.Frag} {mg : Str → Option Value} (E : Env P K mg) : PySem.W.notFirst K (He.ga K "Table") (.type "list") = true := (E.x 8 (f := nfB "Table" "list") rfl)
theorem Env.kit_Table_int {P : Program} {K : PySem.W.Frag} {mg : Str → Option Value} (E : Env P K mg) : PySem.W.kitOne K (.type "int") (.ref (He.ga K "Table")) = some false := of_decide_eq_true (E.x 9 (f := kitB "Table" "int" false) rfl)
theorem Env.nf_Table_int {P : Program} {K : PySem.W.Frag} {mg : Str → Option Value} (E : Env P K mg) : PySem.W.notFirst K (He.ga K "Table") (.type "int") = true := (E.x 10 (f := nfB "Table" "int") rfl)
theorem Env.kit_Table_NoneType {P : Program} {K : PySem.W.Frag} {mg : Str → Option Value} (E : Env P K mg) : PySem.W.kitOne K (.type "NoneType") (.ref (He.ga K "Table")) = some false := of_decide_eq_true (E.x 11 (f := kitB "Table" "NoneType" false) rfl)
theorem Env.nf_Table_NoneType {P : Program} {K : PySem.W.Frag} {mg : Str → Option Value} (E : Env P K mg) : PySem.W.notFirst K (He.ga K "Table") (.type "NoneType") = true := (E.x 12 (f := nfB "Table" "NoneType") rfl)
theorem Env.kit_Table_str {P : Program} {K : PySem.W.Frag} {mg : Str → Option Value} (E : Env P K mg) : PySem.W.kitOne K (.type "str") (.ref (He.ga K "Table")) = some false := of_decide_eq_true (E.x 13 (f := kitB "Table" "str" false) rfl)
theorem Env.nf_Table_str {P : Program} {K : PySem.W.Frag} {mg : Str → Option Value} (E : Env P K mg) : PySem.W.notFirst K (He.ga K "Table") (.type "str") = true := (E.x 14 (f := nfB "Table" "str") rfl)
theorem Env.kit_Table_bool {P : Program} {K : PySem.W.Frag} {mg : Str → Option Value} (E : Env P K mg) : PySem.W.kitOne K (.type "bool") (.ref (He.ga K "Table")) = some false := of_decide_eq_true (E.x 15 (f := kitB "Table" "bool" false) rfl)
theorem Env.nf_Table_bool {P : Program} {K : PySem.W.Frag} {mg : Str → Option Value} (E : Env P K mg) : PySem.W.notFirst K (He.ga K "Table") (.type "bool") = true := (E.x 16 (f := nfB "Table" "bool") rfl)
theorem Env.g_Maker {P : Program} {K : PySem.W.Frag} {mg : Str → Option Value} (E : Env P K mg) : mg "Maker" = some (.ref (He.ga K "Maker")) := by obtain ⟨h, X, G⟩ := E.ex; exact He.glo_ok X G (E.c.fact 76 (f := .glo "Maker") rfl)
theorem Env.c_Maker {P : Program} {K : PySem.W.Frag} {mg : Str → Option Value} (E : Env P K mg) : Cls K (He.ga K "Maker") := He.cls_ok (E.c.fact 77 (f := .cls "Maker") rfl)
theorem Env.mk_Maker {P : Program} {K : PySem.W.Frag} {mg : Str → Option Value} (E : Env P K mg) : Mk K (He.ga K "Maker") (He.ma K (He.ga K "Maker") "__init__") := He.mkr_ok (E.c.fact 78 (f := .mkr "Maker") rfl)
theorem Env.na_Maker_inlets {P : Program} {K : PySem.W.Frag} {mg : Str → Option Value} (E : Env P K mg) : NoAttr K (He.ga K "Maker") "inlets" := He.noat_ok (E.c.fact 79 (f := .noat "Maker" "inlets") rfl)
theorem Env.na_Maker_begin {P : Program} {K : PySem.W.Frag} {mg : Str → Option Value} (E : Env P K mg) : NoAttr K (He.ga K "Maker") "begin" := He.noat_ok (E.c.fact 80 (f := .noat "Maker" "begin") rfl)
theorem Env.na_Maker_ways {P : Program} {K : PySem.W.Frag} {mg : Str → Option Value} (E : Env P K mg) : NoAttr K (He.ga K "Maker") "ways" := He.noat_ok (E.c.fact 81 (f := .noat "Maker" "ways") rfl)
theorem Env.ins_Maker {P : Program} {K : PySem.W.Frag} {mg : Str → Option Value} (E : Env P K mg) : insB "Maker" K = true := (E.x 17 (f := insB "Maker") rfl)
theorem Env.kit_Maker_self {P : Program} {K : PySem.W.Frag} {mg : Str → Option Value} (E : Env P K mg) : PySem.W.kitOne K (.ref (He.ga K "Maker")) (.ref (He.ga K "Maker")) = some true := of_decide_eq_true (E.x 18 (f := kitSB "Maker") rfl)
theorem Env.nf_Maker_self {P : Program} {K : PySem.W.Frag} {mg : Str → Option Value} (E : Env P K mg) : PySem.W.notFirst K (He.ga K "Maker") (.ref (He.ga K "Maker")) = true := (E.x 19 (f := fun K => PySem.W.notFirst K (He.ga K "Maker") (.ref (He.ga K "Maker"))) rfl)
theorem Env.ne_Maker {P : Program} {K : PySem.W.Frag} {mg : Str → Option Value} (E : Env P K mg) : PySem.W.findIn K (.ref (He.ga K "Maker")) "__ne__" = some (some (.builtin "object.__ne__")) := He.eqO_ok (E.x 20 (f := fun K => He.eqO (PySem.W.findIn K (.ref (He.ga K "Maker")) "__ne__") (some (some (.builtin "object.__ne__")))) rfl)
theorem Env.mo_Maker {P : Program} {K : PySem.W.Frag} {mg : Str → Option Value} (E : Env P K mg) : PySem.W.mroIn K (He.ga K "Maker") (.type "object") = some true := of_decide_eq_true (E.x 21 (f := fun K => decide (PySem.W.mroIn K (He.ga K "Maker") (.type "object") = some true)) rfl)
theorem Env.kit_Maker_tuple {P : Program} {K : PySem.W.Frag} {mg : Str → Option Value} (E : Env P K mg) : PySem.W.kitOne K (.type "tuple") (.ref (He.ga K "Maker")) = some false := of_decide_eq_true (E.x 22 (f := kitB "Maker" "tuple" false) rfl)
theorem Env.nf_Maker_tuple {P : Program} {K : PySem.W.Frag} {mg : Str → Option Value} (E : Env P K mg) : PySem.W.notFirst K (He.ga K "Maker") (.type "tuple") = true := (E.x 23 (f := nfB "Maker" "tuple") rfl)
theorem Env.kit_Maker_list {P : Program} {K : PySem.W.Frag} {mg : Str → Option Value} (E : Env P K mg) : PySem.W.kitOne K (.type "list") (.ref (He.ga K "Maker")) = some false := of_decide_eq_true (E.x 24 (f := kitB "Maker" "list" false) rfl)
theorem Env.nf_Maker_list {P : Program} {K : PySem.W.Frag} {mg : Str → Option Value} (E : Env P K mg) : PySem.W.notFirst K (He.ga K "Maker") (.type "list") = true := (E.x 25 (f := nfB "Maker" "list") rfl)
theorem Env.kit_Maker_int {P : Program} {K : PySem.W.Frag} {mg : Str → Option Value} (E : Env P K mg) : PySem.W.kitOne K (.type "int") (.ref (He.ga K "Maker")) = some false := of_decide_eq_true (E.x 26 (f := kitB "Maker" "int" false) rfl)
theorem Env.nf_Maker_int {P : Program} {K : PySem.W.Frag} {mg : Str → Option Value} (E : Env P K mg) : PySem.W.notFirst K (He.ga K "Maker") (.type "int") = true := (E.x 27 (f := nfB "Maker" "int") rfl)
theorem Env.kit_Maker_NoneType {P : Program} {K : PySem.W.Frag} {mg : Str → Option Value} (E : Env P K mg) : PySem.W.kitOne K (.type "NoneType") (.ref (He.ga K "Maker")) = some false := of_decide_eq_true (E.x 28 (f := kitB "Maker" "NoneType" false) rfl)
theorem Env.nf_Maker_NoneType {P : Program} {K : PySem.W.Frag} {mg : Str → Option Value} (E : Env P K mg) : PySem.W.notFirst K (He.ga K "Maker") (.type "NoneType") = true := (E.x 29 (f := nfB "Maker" "NoneType") rfl)
theorem Env.kit_Maker_str {P : Program} {K : PySem.W.Frag} {mg : Str → Option Value} (E : Env P K mg) : PySem.W.kitOne K (.type "str") (.ref (He.ga K "Maker")) = some false := of_decide_eq_true (E.x 30 (f := kitB "Maker" "str" false) rfl)
theorem Env.nf_Maker_str {P : Program} {K : PySem.W.Frag} {mg : Str → Option Value} (E : Env P K mg) : PySem.W.notFirst K (He.ga K "Maker") (.type "str") = true := (E.x 31 (f := nfB "Maker" "str") rfl)
theorem Env.kit_Maker_bool {P : Program} {K : PySem.W.Frag} {mg : Str → Option Value} (E : Env P K mg) : PySem.W.kitOne K (.type "bool") (.ref (He.ga K "Maker")) = some false := of_decide_eq_true (E.x 32 (f := kitB "Maker" "bool" false) rfl)
theorem Env.nf_Maker_bool {P : Program} {K : PySem.W.Frag} {mg : Str → Option Value} (E : Env P K mg) : PySem.W.notFirst K (He.ga K "Maker") (.type "bool") = true := (E.x 33 (f := nfB "Maker" "bool") rfl)
theorem Env.g_Rounds {P : Program} {K : PySem.W.Frag} {mg : Str → Option Value} (E : Env P K mg) : mg "Rounds" = some (.ref (He.ga K "Rounds")) := by obtain ⟨h, X, G⟩ := E.ex; exact He.glo_ok X G (E.c.fact 82 (f := .glo "Rounds") rfl)
theorem Env.c_Rounds {P : Program} {K : PySem.W.Frag} {mg : Str → Option Value} (E : Env P K mg) : Cls K (He.ga K "Rounds") := He.cls_ok (E.c.fact 83 (f := .cls "Rounds") rfl)
theorem Env.mk_Rounds {P : Program} {K : PySem.W.Frag} {mg : Str → Option Value} (E : Env P K mg) : Mk K (He.ga K "Rounds") (He.ma K (He.ga K "Rounds") "__init__") := He.mkr_ok (E.c.fact 84 (f := .mkr "Rounds") rfl)
theorem Env.na_Rounds_most {P : Program} {K : PySem.W.Frag} {mg : Str → Option Value} (E : Env P K mg) : NoAttr K (He.ga K "Rounds") "most" := He.noat_ok (E.c.fact 85 (f := .noat "Rounds" "most") rfl)
theorem Env.na_Rounds_begun {P : Program} {K : PySem.W.Frag} {mg : Str → Option Value} (E : Env P K mg) : NoAttr K (He.ga K "Rounds") "begun" := He.noat_ok (E.c.fact 86 (f := .noat "Rounds" "begun") rfl)
theorem Env.na_Rounds_taken {P : Program} {K : PySem.W.Frag} {mg : Str → Option Value} (E : Env P K mg) : NoAttr K (He.ga K "Rounds") "taken" := He.noat_ok (E.c.fact 87 (f := .noat "Rounds" "taken") rfl)
theorem Env.na_Rounds_ways {P : Program} {K : PySem.W.Frag} {mg : Str → Option Value} (E : Env P K mg) : NoAttr K (He.ga K "Rounds") "ways" := He.noat_ok (E.c.fact 88 (f := .noat "Rounds" "ways") rfl)
theorem Env.na_Rounds_stops {P : Program} {K : PySem.W.Frag} {mg : Str → Option Value} (E : Env P K mg) : NoAttr K (He.ga K "Rounds") "stops" := He.noat_ok (E.c.fact 89 (f := .noat "Rounds" "stops") rfl)
theorem Env.na_Rounds_giving {P : Program} {K : PySem.W.Frag} {mg : Str → Option Value} (E : Env P K mg) : NoAttr K (He.ga K "Rounds") "giving" := He.noat_ok (E.c.fact 90 (f := .noat "Rounds" "giving") rfl)
theorem Env.na_Rounds_totals {P : Program} {K : PySem.W.Frag} {mg : Str → Option Value} (E : Env P K mg) : NoAttr K (He.ga K "Rounds") "totals" := He.noat_ok (E.c.fact 91 (f := .noat "Rounds" "totals") rfl)
theorem Env.ins_Rounds {P : Program} {K : PySem.W.Frag} {mg : Str → Option Value} (E : Env P K mg) : insB "Rounds" K = true := (E.x 34 (f := insB "Rounds") rfl)
theorem Env.kit_Rounds_self {P : Program} {K : PySem.W.Frag} {mg : Str → Option Value} (E : Env P K mg) : PySem.W.kitOne K (.ref (He.ga K "Rounds")) (.ref (He.ga K "Rounds")) = some true := of_decide_eq_true (E.x 35 (f := kitSB "Rounds") rfl)
theorem Env.nf_Rounds_self {P : Program} {K : PySem.W.Frag} {mg : Str → Option Value} (E : Env P K mg) : PySem.W.notFirst K (He.ga K "Rounds") (.ref (He.ga K "Rounds")) = true := (E.x 36 (f := fun K => PySem.W.notFirst K (He.ga K "Rounds") (.ref (He.ga K "Rounds"))) rfl)
theorem Env.ne_Rounds {P : Program} {K : PySem.W.Frag} {mg : Str → Option Value} (E : Env P K mg) : PySem.W.findIn K (.ref (He.ga K "Rounds")) "__ne__" = some (some (.builtin "object.__ne__")) := He.eqO_ok (E.x 37 (f := fun K => He.eqO (PySem.W.findIn K (.ref (He.ga K "Rounds")) "__ne__") (some (some (.builtin "object.__ne__")))) rfl)
theorem Env.mo_Rounds {P : Program} {K : PySem.W.Frag} {mg : Str → Option Value} (E : Env P K mg) : PySem.W.mroIn K (He.ga K "Rounds") (.type "object") = some true := of_decide_eq_true (E.x 38 (f := fun K => decide (PySem.W.mroIn K (He.ga K "Rounds") (.type "object") = some true)) rfl)
theorem Env.kit_Rounds_tuple {P : Program} {K : PySem.W.Frag} {mg : Str → Option Value} (E : Env P K mg) : PySem.W.kitOne K (.type "tuple") (.ref (He.ga K "Rounds")) = some false := of_decide_eq_true (E.x 39 (f := kitB "Rounds" "tuple" false) rfl)
theorem Env.nf_Rounds_tuple {P : Program} {K : PySem.W.Frag} {mg : Str → Option Value} (E : Env P K mg) : PySem.W.notFirst K (He.ga K "Rounds") (.type "tuple") = true := (E.x 40 (f := nfB "Rounds" "tuple") rfl)
theorem Env.kit_Rounds_list {P : Program} {K : PySem.W.Frag} {mg : Str → Option Value} (E : Env P K mg) : PySem.W.kitOne K (.type "list") (.ref (He.ga K "Rounds")) = some false := of_decide_eq_true (E.x 41 (f := kitB "Rounds" "list" false) rfl)
theorem Env.nf_Rounds_list {P : Program} {K : PySem.W.Frag} {mg : Str → Option Value} (E : Env P K mg) : PySem.W.notFirst K (He.ga K "Rounds") (.type "list") = true := (E.x 42 (f := nfB "Rounds" "list") rfl)
theorem Env.kit_Rounds_int {P : Program} {K : PySem.W.Frag} {mg : Str → Option Value} (E : Env P K mg) : PySem.W.kitOne K (.type "int") (.ref (He.ga K "Rounds")) = some false := of_decide_eq_true (E.x 43 (f := kitB "Rounds" "int" false) rfl)
theorem Env.nf_Rounds_int {P : Program} {K : PySem.W.Frag} {mg : Str → Option Value} (E : Env P K mg) : PySem.W.notFirst K (He.ga K "Rounds") (.type "int") = true := (E.x 44 (f := nfB "Rounds" "int") rfl)
theorem Env.kit_Rounds_NoneType {P : Program} {K : PySem.W.Frag} {mg : Str → Option Value} (E : Env P K mg) : PySem.W.kitOne K (.type "NoneType") (.ref (He.ga K "Rounds")) = some false := of_decide_eq_true (E.x 45 (f := kitB "Rounds" "NoneType" false) rfl)
theorem Env.nf_Rounds_NoneType {P : Program} {K : PySem.W.Frag} {mg : Str → Option Value} (E : Env P K mg) : PySem.W.notFirst K (He.ga K "Rounds") (.type "NoneType") = true := (E.x 46 (f := nfB "Rounds" "NoneType") rfl)
theorem Env.kit_Rounds_str {P : Program} {K : PySem.W.Frag} {mg : Str → Option Value} (E : Env P K mg) : PySem.W.kitOne K (.type "str") (.ref (He.ga K "Rounds")) = some false := of_decide_eq_true (E.x 47 (f := kitB "Rounds" "str" false) rfl)
theorem Env.nf_Rounds_str {P : Program} {K : PySem.W.Frag} {mg : Str → Option Value} (E : Env P K mg) : PySem.W.notFirst K (He.ga K "Rounds") (.type "str") = true := (E.x 48 (f := nfB "Rounds" "str") rfl)
theorem Env.kit_Rounds_bool {P : Program} {K : PySem.W.Frag} {mg : Str → Option Value} (E : Env P K mg) : PySem.W.kitOne K (.type "bool") (.ref (He.ga K "Rounds")) = some false := of_decide_eq_true (E.x 49 (f := kitB "Rounds" "bool" false) rfl)
theorem Env.nf_Rounds_bool {P : Program} {K : PySem.W.Frag} {mg : Str → Option Value} (E : Env P K mg) : PySem.W.notFirst K (He.ga K "Rounds") (.type "bool") = true := (E.x 50 (f := nfB "Rounds" "bool") rfl)
theorem Env.call_Table {P : Program} {K : PySem.W.Frag} {mg : Str → Option Value} (E : Env P K mg) : StX.CallO K (He.ga K "Table") (He.ma K (He.ga K "Table") "__call__") := callB_ok (E.x 51 (f := callB "Table") rfl)
theorem Env.k_MOST_INLETS {P : Program} {K : PySem.W.Frag} {mg : Str → Option Value} (E : Env P K mg) : ∃ t, mg "MOST_INLETS" = some (.int 3 t) := by obtain ⟨h, X, G⟩ := E.ex; exact He.int_ok X G (E.c.fact 92 (f := .int "MOST_INLETS" 3) rfl)
theorem Env.k_MOST_WAYS {P : Program} {K : PySem.W.Frag} {mg : Str → Option Value} (E : Env P K mg) : ∃ t, mg "MOST_WAYS" = some (.int 4 t) := by obtain ⟨h, X, G⟩ := E.ex; exact He.int_ok X G (E.c.fact 93 (f := .int "MOST_WAYS" 4) rfl)
theorem Env.k_MOST_DEEDS {P : Program} {K : PySem.W.Frag} {mg : Str → Option Value} (E : Env P K mg) : ∃ t, mg "MOST_DEEDS" = some (.int 600 t) := by obtain ⟨h, X, G⟩ := E.ex; exact He.int_ok X G (E.c.fact 94 (f := .int "MOST_DEEDS" 600) rfl)
theorem Env.k_MOST_DEEDS_EACH {P : Program} {K : PySem.W.Frag} {mg : Str → Option Value} (E : Env P K mg) : ∃ t, mg "MOST_DEEDS_EACH" = some (.int 24 t) := by obtain ⟨h, X, G⟩ := E.ex; exact He.int_ok X G (E.c.fact 95 (f := .int "MOST_DEEDS_EACH" 24) rfl)
theorem Env.k_MOST_FIRST {P : Program} {K : PySem.W.Frag} {mg : Str → Option Value} (E : Env P K mg) : ∃ t, mg "MOST_FIRST" = some (.int 200 t) := by obtain ⟨h, X, G⟩ := E.ex; exact He.int_ok X G (E.c.fact 96 (f := .int "MOST_FIRST" 200) rfl)
theorem Env.k_MOST_THEN {P : Program} {K : PySem.W.Frag} {mg : Str → Option Value} (E : Env P K mg) : ∃ t, mg "MOST_THEN" = some (.int 40 t) := by obtain ⟨h, X, G⟩ := E.ex; exact He.int_ok X G (E.c.fact 97 (f := .int "MOST_THEN" 40) rfl)
theorem Env.k_MOST_PIECE {P : Program} {K : PySem.W.Frag} {mg : Str → Option Value} (E : Env P K mg) : ∃ t, mg "MOST_PIECE" = some (.int 2000 t) := by obtain ⟨h, X, G⟩ := E.ex; exact He.int_ok X G (E.c.fact 98 (f := .int "MOST_PIECE" 2000) rfl)
theorem Env.k_GIVE {P : Program} {K : PySem.W.Frag} {mg : Str → Option Value} (E : Env P K mg) : ∃ t, mg "GIVE" = some (.str "give" t) := by obtain ⟨h, X, G⟩ := E.ex; exact He.str_ok X G (E.c.fact 99 (f := .str "GIVE" "give") rfl)
theorem Env.t0_Table {P : Program} {K : PySem.W.Frag} {mg : Str → Option Value} (E : Env P K mg) : ∀ H, SqT K H (He.dflAt ("Table", some "__init__") 0 K) [] := tup0B_ok (E.x 52 (f := fun K => tup0B K (He.dflAt ("Table", some "__init__") 0 K)) rfl)
theorem Env.dd_is_integer {P : Program} {K : PySem.W.Frag} {mg : Str → Option Value} (E : Env P K mg) : ∃ fd, FunD K "is_integer" "is_integer" (defArgs s_is_integer) (defBody s_is_integer) (defScope s_is_integer) (d_is_integer.dvs K) [] (d_is_integer.adr K) fd := E.c.def_ 0 (d := d_is_integer) rfl
theorem Env.dd_is_count {P : Program} {K : PySem.W.Frag} {mg : Str → Option Value} (E : Env P K mg) : ∃ fd, FunD K "is_count" "is_count" (defArgs s_is_count) (defBody s_is_count) (defScope s_is_count) (d_is_count.dvs K) [] (d_is_count.adr K) fd := E.c.def_ 1 (d := d_is_count) rfl
theorem Env.dd_is_listed {P : Program} {K : PySem.W.Frag} {mg : Str → Option Value} (E : Env P K mg) : ∃ fd, FunD K "is_listed" "is_listed" (defArgs s_is_listed) (defBody s_is_listed) (defScope s_is_listed) (d_is_listed.dvs K) [] (d_is_listed.adr K) fd := E.c.def_ 2 (d := d_is_listed) rfl
theorem Env.dd_is_counts {P : Program} {K : PySem.W.Frag} {mg : Str → Option Value} (E : Env P K mg) : ∃ fd, FunD K "is_counts" "is_counts" (defArgs s_is_counts) (defBody s_is_counts) (defScope s_is_counts) (d_is_counts.dvs K) [] (d_is_counts.adr K) fd := E.c.def_ 3 (d := d_is_counts) rfl
theorem Env.dd_deep {P : Program} {K : PySem.W.Frag} {mg : Str → Option Value} (E : Env P K mg) : ∃ fd, FunD K "deep" "deep" (defArgs s_deep) (defBody s_deep) (defScope s_deep) (d_deep.dvs K) [] (d_deep.adr K) fd := E.c.def_ 4 (d := d_deep) rfl
theorem Env.dd_end_of {P : Program} {K : PySem.W.Frag} {mg : Str → Option Value} (E : Env P K mg) : ∃ fd, FunD K "end_of" "end_of" (defArgs s_end_of) (defBody s_end_of) (defScope s_end_of) (d_end_of.dvs K) [] (d_end_of.adr K) fd := E.c.def_ 5 (d := d_end_of) rfl
theorem Env.dd_value_at {P : Program} {K : PySem.W.Frag} {mg : Str → Option Value} (E : Env P K mg) : ∃ fd, FunD K "value_at" "value_at" (defArgs s_value_at) (defBody s_value_at) (defScope s_value_at) (d_value_at.dvs K) [] (d_value_at.adr K) fd := E.c.def_ 6 (d := d_value_at) rfl
theorem Env.dd_short_loop {P : Program} {K : PySem.W.Frag} {mg : Str → Option Value} (E : Env P K mg) : ∃ fd, FunD K "short_loop" "short_loop" (defArgs s_short_loop) (defBody s_short_loop) (defScope s_short_loop) (d_short_loop.dvs K) [] (d_short_loop.adr K) fd := E.c.def_ 7 (d := d_short_loop) rfl
theorem Env.dd_plain_form {P : Program} {K : PySem.W.Frag} {mg : Str → Option Value} (E : Env P K mg) : ∃ fd, FunD K "plain_form" "plain_form" (defArgs s_plain_form) (defBody s_plain_form) (defScope s_plain_form) (d_plain_form.dvs K) [] (d_plain_form.adr K) fd := E.c.def_ 8 (d := d_plain_form) rfl
theorem Env.dd_is_rising {P : Program} {K : PySem.W.Frag} {mg : Str → Option Value} (E : Env P K mg) : ∃ fd, FunD K "is_rising" "is_rising" (defArgs s_is_rising) (defBody s_is_rising) (defScope s_is_rising) (d_is_rising.dvs K) [] (d_is_rising.adr K) fd := E.c.def_ 9 (d := d_is_rising) rfl
theorem Env.dd_checked_table {P : Program} {K : PySem.W.Frag} {mg : Str → Option Value} (E : Env P K mg) : ∃ fd, FunD K "checked_table" "checked_table" (defArgs s_checked_table) (defBody s_checked_table) (defScope s_checked_table) (d_checked_table.dvs K) [] (d_checked_table.adr K) fd := E.c.def_ 10 (d := d_checked_table) rfl
theorem Env.dd_is_deed {P : Program} {K : PySem.W.Frag} {mg : Str → Option Value} (E : Env P K mg) : ∃ fd, FunD K "is_deed" "is_deed" (defArgs s_is_deed) (defBody s_is_deed) (defScope s_is_deed) (d_is_deed.dvs K) [] (d_is_deed.adr K) fd := E.c.def_ 11 (d := d_is_deed) rfl
theorem Env.dd_is_deeds {P : Program} {K : PySem.W.Frag} {mg : Str → Option Value} (E : Env P K mg) : ∃ fd, FunD K "is_deeds" "is_deeds" (defArgs s_is_deeds) (defBody s_is_deeds) (defScope s_is_deeds) (d_is_deeds.dvs K) [] (d_is_deeds.adr K) fd := E.c.def_ 12 (d := d_is_deeds) rfl
theorem Env.dd_is_ways {P : Program} {K : PySem.W.Frag} {mg : Str → Option Value} (E : Env P K mg) : ∃ fd, FunD K "is_ways" "is_ways" (defArgs s_is_ways) (defBody s_is_ways) (defScope s_is_ways) (d_is_ways.dvs K) [] (d_is_ways.adr K) fd := E.c.def_ 13 (d := d_is_ways) rfl
theorem Env.dd_is_way_numbers {P : Program} {K : PySem.W.Frag} {mg : Str → Option Value} (E : Env P K mg) : ∃ fd, FunD K "is_way_numbers" "is_way_numbers" (defArgs s_is_way_numbers) (defBody s_is_way_numbers) (defScope s_is_way_numbers) (d_is_way_numbers.dvs K) [] (d_is_way_numbers.adr K) fd := E.c.def_ 14 (d := d_is_way_numbers) rfl
theorem Env.dd_is_course {P : Program} {K : PySem.W.Frag} {mg : Str → Option Value} (E : Env P K mg) : ∃ fd, FunD K "is_course" "is_course" (defArgs s_is_course) (defBody s_is_course) (defScope s_is_course) (d_is_course.dvs K) [] (d_is_course.adr K) fd := E.c.def_ 15 (d := d_is_course) rfl
theorem Env.dd_takes_ahead {P : Program} {K : PySem.W.Frag} {mg : Str → Option Value} (E : Env P K mg) : ∃ fd, FunD K "takes_ahead" "takes_ahead" (defArgs s_takes_ahead) (defBody s_takes_ahead) (defScope s_takes_ahead) (d_takes_ahead.dvs K) [] (d_takes_ahead.adr K) fd := E.c.def_ 16 (d := d_takes_ahead) rfl
theorem Env.dd_check_inlet {P : Program} {K : PySem.W.Frag} {mg : Str → Option Value} (E : Env P K mg) : ∃ fd, FunD K "check_inlet" "check_inlet" (defArgs s_check_inlet) (defBody s_check_inlet) (defScope s_check_inlet) (d_check_inlet.dvs K) [] (d_check_inlet.adr K) fd := E.c.def_ 17 (d := d_check_inlet) rfl
theorem Env.dd_need_on {P : Program} {K : PySem.W.Frag} {mg : Str → Option Value} (E : Env P K mg) : ∃ fd, FunD K "need_on" "need_on" (defArgs s_need_on) (defBody s_need_on) (defScope s_need_on) (d_need_on.dvs K) [] (d_need_on.adr K) fd := E.c.def_ 18 (d := d_need_on) rfl
theorem Env.dd_extreme {P : Program} {K : PySem.W.Frag} {mg : Str → Option Value} (E : Env P K mg) : ∃ fd, FunD K "extreme" "extreme" (defArgs s_extreme) (defBody s_extreme) (defScope s_extreme) (d_extreme.dvs K) [] (d_extreme.adr K) fd := E.c.def_ 19 (d := d_extreme) rfl
theorem Env.dd_least {P : Program} {K : PySem.W.Frag} {mg : Str → Option Value} (E : Env P K mg) : ∃ fd, FunD K "least" "least" (defArgs s_least) (defBody s_least) (defScope s_least) (d_least.dvs K) [] (d_least.adr K) fd := E.c.def_ 20 (d := d_least) rfl
theorem Env.dd_best_course {P : Program} {K : PySem.W.Frag} {mg : Str → Option Value} (E : Env P K mg) : ∃ fd, FunD K "best_course" "best_course" (defArgs s_best_course) (defBody s_best_course) (defScope s_best_course) (d_best_course.dvs K) [] (d_best_course.adr K) fd := E.c.def_ 21 (d := d_best_course) rfl
theorem Env.dd_course_of {P : Program} {K : PySem.W.Frag} {mg : Str → Option Value} (E : Env P K mg) : ∃ fd, FunD K "course_of" "course_of" (defArgs s_course_of) (defBody s_course_of) (defScope s_course_of) (d_course_of.dvs K) [] (d_course_of.adr K) fd := E.c.def_ 22 (d := d_course_of) rfl
theorem Env.dd__law_source {P : Program} {K : PySem.W.Frag} {mg : Str → Option Value} (E : Env P K mg) : ∃ fd, FunD K "_law_source" "_law_source" (defArgs s__law_source) (defBody s__law_source) (defScope s__law_source) (d__law_source.dvs K) [] (d__law_source.adr K) fd := E.c.def_ 23 (d := d__law_source) rfl
theorem Env.dd__law_pick {P : Program} {K : PySem.W.Frag} {mg : Str → Option Value} (E : Env P K mg) : ∃ fd, FunD K "_law_pick" "_law_pick" (defArgs s__law_pick) (defBody s__law_pick) (defScope s__law_pick) (d__law_pick.dvs K) [] (d__law_pick.adr K) fd := E.c.def_ 24 (d := d__law_pick) rfl
theorem Env.dd__law_is_integer {P : Program} {K : PySem.W.Frag} {mg : Str → Option Value} (E : Env P K mg) : ∃ fd, FunD K "_law_is_integer" "_law_is_integer" (defArgs s__law_is_integer) (defBody s__law_is_integer) (defScope s__law_is_integer) (d__law_is_integer.dvs K) [] (d__law_is_integer.adr K) fd := E.c.def_ 25 (d := d__law_is_integer) rfl
theorem Env.dd__law_is_count {P : Program} {K : PySem.W.Frag} {mg : Str → Option Value} (E : Env P K mg) : ∃ fd, FunD K "_law_is_count" "_law_is_count" (defArgs s__law_is_count) (defBody s__law_is_count) (defScope s__law_is_count) (d__law_is_count.dvs K) [] (d__law_is_count.adr K) fd := E.c.def_ 26 (d := d__law_is_count) rfl
theorem Env.dd__law_le {P : Program} {K : PySem.W.Frag} {mg : Str → Option Value} (E : Env P K mg) : ∃ fd, FunD K "_law_le" "_law_le" (defArgs s__law_le) (defBody s__law_le) (defScope s__law_le) (d__law_le.dvs K) [] (d__law_le.adr K) fd := E.c.def_ 27 (d := d__law_le) rfl
theorem Env.dd__law_end {P : Program} {K : PySem.W.Frag} {mg : Str → Option Value} (E : Env P K mg) : ∃ fd, FunD K "_law_end" "_law_end" (defArgs s__law_end) (defBody s__law_end) (defScope s__law_end) (d__law_end.dvs K) [] (d__law_end.adr K) fd := E.c.def_ 28 (d := d__law_end) rfl
theorem Env.dd__law_at {P : Program} {K : PySem.W.Frag} {mg : Str → Option Value} (E : Env P K mg) : ∃ fd, FunD K "_law_at" "_law_at" (defArgs s__law_at) (defBody s__law_at) (defScope s__law_at) (d__law_at.dvs K) [] (d__law_at.adr K) fd := E.c.def_ 29 (d := d__law_at) rfl
theorem Env.dd__law_gcd {P : Program} {K : PySem.W.Frag} {mg : Str → Option Value} (E : Env P K mg) : ∃ fd, FunD K "_law_gcd" "_law_gcd" (defArgs s__law_gcd) (defBody s__law_gcd) (defScope s__law_gcd) (d__law_gcd.dvs K) [] (d__law_gcd.adr K) fd := E.c.def_ 30 (d := d__law_gcd) rfl
theorem Env.dd__law_plain {P : Program} {K : PySem.W.Frag} {mg : Str → Option Value} (E : Env P K mg) : ∃ fd, FunD K "_law_plain" "_law_plain" (defArgs s__law_plain) (defBody s__law_plain) (defScope s__law_plain) (d__law_plain.dvs K) [] (d__law_plain.adr K) fd := E.c.def_ 31 (d := d__law_plain) rfl
theorem Env.dd__law_fit {P : Program} {K : PySem.W.Frag} {mg : Str → Option Value} (E : Env P K mg) : ∃ fd, FunD K "_law_fit" "_law_fit" (defArgs s__law_fit) (defBody s__law_fit) (defScope s__law_fit) (d__law_fit.dvs K) [] (d__law_fit.adr K) fd := E.c.def_ 32 (d := d__law_fit) rfl
theorem Env.dd__law_above {P : Program} {K : PySem.W.Frag} {mg : Str → Option Value} (E : Env P K mg) : ∃ fd, FunD K "_law_above" "_law_above" (defArgs s__law_above) (defBody s__law_above) (defScope s__law_above) (d__law_above.dvs K) [] (d__law_above.adr K) fd := E.c.def_ 33 (d := d__law_above) rfl
theorem Env.dd__law_same {P : Program} {K : PySem.W.Frag} {mg : Str → Option Value} (E : Env P K mg) : ∃ fd, FunD K "_law_same" "_law_same" (defArgs s__law_same) (defBody s__law_same) (defScope s__law_same) (d__law_same.dvs K) [] (d__law_same.adr K) fd := E.c.def_ 34 (d := d__law_same) rfl
theorem Env.dd__law_deeds {P : Program} {K : PySem.W.Frag} {mg : Str → Option Value} (E : Env P K mg) : ∃ fd, FunD K "_law_deeds" "_law_deeds" (defArgs s__law_deeds) (defBody s__law_deeds) (defScope s__law_deeds) (d__law_deeds.dvs K) [] (d__law_deeds.adr K) fd := E.c.def_ 35 (d := d__law_deeds) rfl
theorem Env.dd__law_maker {P : Program} {K : PySem.W.Frag} {mg : Str → Option Value} (E : Env P K mg) : ∃ fd, FunD K "_law_maker" "_law_maker" (defArgs s__law_maker) (defBody s__law_maker) (defScope s__law_maker) (d__law_maker.dvs K) [] (d__law_maker.adr K) fd := E.c.def_ 36 (d := d__law_maker) rfl
theorem Env.dd__law_made {P : Program} {K : PySem.W.Frag} {mg : Str → Option Value} (E : Env P K mg) : ∃ fd, FunD K "_law_made" "_law_made" (defArgs s__law_made) (defBody s__law_made) (defScope s__law_made) (d__law_made.dvs K) [] (d__law_made.adr K) fd := E.c.def_ 37 (d := d__law_made) rfl
theorem Env.dd__law_ahead {P : Program} {K : PySem.W.Frag} {mg : Str → Option Value} (E : Env P K mg) : ∃ fd, FunD K "_law_ahead" "_law_ahead" (defArgs s__law_ahead) (defBody s__law_ahead) (defScope s__law_ahead) (d__law_ahead.dvs K) [] (d__law_ahead.adr K) fd := E.c.def_ 38 (d := d__law_ahead) rfl
theorem Env.dd__law_on {P : Program} {K : PySem.W.Frag} {mg : Str → Option Value} (E : Env P K mg) : ∃ fd, FunD K "_law_on" "_law_on" (defArgs s__law_on) (defBody s__law_on) (defScope s__law_on) (d__law_on.dvs K) [] (d__law_on.adr K) fd := E.c.def_ 39 (d := d__law_on) rfl
theorem Env.dd__law_extreme {P : Program} {K : PySem.W.Frag} {mg : Str → Option Value} (E : Env P K mg) : ∃ fd, FunD K "_law_extreme" "_law_extreme" (defArgs s__law_extreme) (defBody s__law_extreme) (defScope s__law_extreme) (d__law_extreme.dvs K) [] (d__law_extreme.adr K) fd := E.c.def_ 40 (d := d__law_extreme) rfl
theorem Env.dd__law_need_at {P : Program} {K : PySem.W.Frag} {mg : Str → Option Value} (E : Env P K mg) : ∃ fd, FunD K "_law_need_at" "_law_need_at" (defArgs s__law_need_at) (defBody s__law_need_at) (defScope s__law_need_at) (d__law_need_at.dvs K) [] (d__law_need_at.adr K) fd := E.c.def_ 41 (d := d__law_need_at) rfl
theorem Env.dd__law_is_told_course {P : Program} {K : PySem.W.Frag} {mg : Str → Option Value} (E : Env P K mg) : ∃ fd, FunD K "_law_is_told_course" "_law_is_told_course" (defArgs s__law_is_told_course) (defBody s__law_is_told_course) (defScope s__law_is_told_course) (d__law_is_told_course.dvs K) [] (d__law_is_told_course.adr K) fd := E.c.def_ 42 (d := d__law_is_told_course) rfl
theorem Env.dd__law_long_maker {P : Program} {K : PySem.W.Frag} {mg : Str → Option Value} (E : Env P K mg) : ∃ fd, FunD K "_law_long_maker" "_law_long_maker" (defArgs s__law_long_maker) (defBody s__law_long_maker) (defScope s__law_long_maker) (d__law_long_maker.dvs K) [] (d__law_long_maker.adr K) fd := E.c.def_ 43 (d := d__law_long_maker) rfl
theorem Env.dd__law_course {P : Program} {K : PySem.W.Frag} {mg : Str → Option Value} (E : Env P K mg) : ∃ fd, FunD K "_law_course" "_law_course" (defArgs s__law_course) (defBody s__law_course) (defScope s__law_course) (d__law_course.dvs K) [] (d__law_course.adr K) fd := E.c.def_ 44 (d := d__law_course) rfl
theorem Env.dd_law {P : Program} {K : PySem.W.Frag} {mg : Str → Option Value} (E : Env P K mg) : ∃ fd, FunD K "law" "law" (defArgs s_law) (defBody s_law) (defScope s_law) (d_law.dvs K) [] (d_law.adr K) fd := E.c.def_ 45 (d := d_law) rfl
theorem Env.dd_Table_init {P : Program} {K : PySem.W.Frag} {mg : Str → Option Value} (E : Env P K mg) : ∃ fd, FunD K "__init__" "Table.__init__" (defArgs s_Table_init) (defBody s_Table_init) (defScope s_Table_init) (d_Table_init.dvs K) [] (d_Table_init.adr K) fd := E.c.def_ 46 (d := d_Table_init) rfl
theorem Env.dd_Table_call {P : Program} {K : PySem.W.Frag} {mg : Str → Option Value} (E : Env P K mg) : ∃ fd, FunD K "__call__" "Table.__call__" (defArgs s_Table_call) (defBody s_Table_call) (defScope s_Table_call) (d_Table_call.dvs K) [] (d_Table_call.adr K) fd := E.c.def_ 47 (d := d_Table_call) rfl
theorem Env.dd_Maker_init {P : Program} {K : PySem.W.Frag} {mg : Str → Option Value} (E : Env P K mg) : ∃ fd, FunD K "__init__" "Maker.__init__" (defArgs s_Maker_init) (defBody s_Maker_init) (defScope s_Maker_init) (d_Maker_init.dvs K) [] (d_Maker_init.adr K) fd := E.c.def_ 48 (d := d_Maker_init) rfl
theorem Env.dd_Maker_need {P : Program} {K : PySem.W.Frag} {mg : Str → Option Value} (E : Env P K mg) : ∃ fd, FunD K "need" "Maker.need" (defArgs s_Maker_need) (defBody s_Maker_need) (defScope s_Maker_need) (d_Maker_need.dvs K) [] (d_Maker_need.adr K) fd := E.c.def_ 49 (d := d_Maker_need) rfl
theorem Env.dd_Rounds_init {P : Program} {K : PySem.W.Frag} {mg : Str → Option Value} (E : Env P K mg) : ∃ fd, FunD K "__init__" "Rounds.__init__" (defArgs s_Rounds_init) (defBody s_Rounds_init) (defScope s_Rounds_init) (d_Rounds_init.dvs K) [] (d_Rounds_init.adr K) fd := E.c.def_ 50 (d := d_Rounds_init) rfl
theorem Env.dd_Rounds_is_better {P : Program} {K : PySem.W.Frag} {mg : Str → Option Value} (E : Env P K mg) : ∃ fd, FunD K "is_better" "Rounds.is_better" (defArgs s_Rounds_is_better) (defBody s_Rounds_is_better) (defScope s_Rounds_is_better) (d_Rounds_is_better.dvs K) [] (d_Rounds_is_better.adr K) fd := E.c.def_ 51 (d := d_Rounds_is_better) rfl
theorem Env.dd_Rounds_fill {P : Program} {K : PySem.W.Frag} {mg : Str → Option Value} (E : Env P K mg) : ∃ fd, FunD K "fill" "Rounds.fill" (defArgs s_Rounds_fill) (defBody s_Rounds_fill) (defScope s_Rounds_fill) (d_Rounds_fill.dvs K) [] (d_Rounds_fill.adr K) fd := E.c.def_ 52 (d := d_Rounds_fill) rfl
theorem Env.dd_Rounds_last_round {P : Program} {K : PySem.W.Frag} {mg : Str → Option Value} (E : Env P K mg) : ∃ fd, FunD K "last_round" "Rounds.last_round" (defArgs s_Rounds_last_round) (defBody s_Rounds_last_round) (defScope s_Rounds_last_round) (d_Rounds_last_round.dvs K) [] (d_Rounds_last_round.adr K) fd := E.c.def_ 53 (d := d_Rounds_last_round) rfl
theorem Env.dd_Rounds_rounds_to {P : Program} {K : PySem.W.Frag} {mg : Str → Option Value} (E : Env P K mg) : ∃ fd, FunD K "rounds_to" "Rounds.rounds_to" (defArgs s_Rounds_rounds_to) (defBody s_Rounds_rounds_to) (defScope s_Rounds_rounds_to) (d_Rounds_rounds_to.dvs K) [] (d_Rounds_rounds_to.adr K) fd := E.c.def_ 54 (d := d_Rounds_rounds_to) rfl
theorem Env.dd_Rounds_lasting {P : Program} {K : PySem.W.Frag} {mg : Str → Option Value} (E : Env P K mg) : ∃ fd, FunD K "lasting" "Rounds.lasting" (defArgs s_Rounds_lasting) (defBody s_Rounds_lasting) (defScope s_Rounds_lasting) (d_Rounds_lasting.dvs K) [] (d_Rounds_lasting.adr K) fd := E.c.def_ 55 (d := d_Rounds_lasting) rfl

end M
namespace M
open PySem PySem.Spec PyProof.Rows L2 Evl MS
def nmL0 : List Str := ["_wall", "RosterneedError", "WrongThing", "WrongWord", "TooMany", "BadCount", "BadInlet", "BadCourse", "BadTable", "BadMaker", "is_integer", "is_count", "is_listed", "is_counts", "deep", "at_most", "greater_of", "lesser_of", "common_divisor", "common_multiple", "end_of", "value_at", "short_loop", "plain_form", "formed"]
def nmL1 : List Str := ["until_never", "first_beyond", "behind_raw", "later_start", "joined_values", "joined_raw", "counts_below", "turned_raw", "is_rising", "checked_table", "Table", "table_from", "is_deed", "is_deeds", "is_ways", "is_way_numbers", "is_course", "takes_ahead", "check_inlet", "need_on", "Maker", "Rounds", "extreme", "least", "best_course"]
def nmL2 : List Str := ["course_of", "_law_source", "_law_pick", "_law_is_integer", "_law_is_count", "_law_le", "_law_end", "_law_at", "_law_gcd", "_law_plain", "_law_fit", "_law_above", "_law_same", "_law_deeds", "_law_maker", "_law_made", "_law_ahead", "_law_on", "_law_extreme", "_law_need_at", "_law_is_told_course", "_law_long_maker", "_law_course", "GIVE", "MOST_INLETS"]
def nmL3 : List Str := ["MOST_WAYS", "MOST_DEEDS", "MOST_DEEDS_EACH", "MOST_FIRST", "MOST_THEN", "MOST_PIECE"]
def nmL : List Str := nmL0 ++ nmL1 ++ nmL2 ++ nmL3
abbrev R : PySem.W.OpenRow := PySem.W.OpenLaw.row PySem.Challenge.rw_rosterneed_k26_whole_least_needs
abbrev hk : PySem.W.Hook := hookM 6 fa fn exB
def ob (s : PySem.W.SharedT) : AlM := obsMG 6 fa fn exB (HandSHeadRun.getT s)
theorem ob_eq (s : PySem.W.SharedT) : ob s = hk.obs s.abs := obsMG_eq (HandSHeadRun.getT_eq s)
theorem run (w : World) : HandSHeadRun.RunEq R (PySem.W.view R.prog [88]) hk ob 6000 nmL w := by
  intro os
  kernel_rfl
end M

namespace M
open PySem PySem.Spec PyProof.Rows L2 Evl MS
local macro_rules | `(tactic| walk_at "ex") => `(tactic| first
  | exact Ex.refl _ | with_reducible assumption | (refine' Ex.trans ?a ?b; (case b => with_reducible assumption); (case a => walk_at "ex")))
local macro_rules | `(tactic| walk_at "hp") => `(tactic| first
  | with_reducible assumption
  | (with_reducible refine' st_of ?a; (case a => with_reducible assumption))
  | (with_reducible refine' sq_of ?a; (case a => with_reducible assumption))
  | (with_reducible refine' ex_t ?a ?b; (case a => with_reducible assumption); (case b => walk_at "hp"))
  | (with_reducible refine' ex_l ?a ?b; (case a => with_reducible assumption); (case b => walk_at "hp"))
  | (with_reducible refine' ex_e ?a ?b; (case a => with_reducible assumption); (case b => walk_at "hp")))
local macro_rules | `(tactic| walk_at "om") => `(tactic| first
  | with_reducible assumption | omega | (simp only [List.length_map, List.length_nil, List.length_cons, List.length_append, List.length_range] <;> omega))
local macro_rules | `(tactic| walk_at "sz") => `(tactic| first
  | (refine sz_of ?_; omega) | exact sz_of (by simp only [List.length_map, List.length_nil, List.length_cons, List.length_append, List.length_range] <;> omega))
local macro_rules | `(tactic| walk_at "ty") => `(tactic| first
  | exact .base (.int _) | exact .base .non | exact .base (.bl _) | exact .base (.str _) | (with_reducible refine' SqT.ty ?a; (case a => walk_at "hp")) | (with_reducible refine' SqL.ty ?a; (case a => walk_at "hp")) | (with_reducible refine' dp_ty ?a; (case a => with_reducible assumption)))
local macro_rules | `(tactic| walk_at "vv") => `(tactic| first | refine w_v0 ?_ | refine w_v1 ?_ | refine w_v2 ?_ | refine w_v3 ?_ | refine w_v4 ?_ | refine w_v5 ?_ | refine w_v6 ?_ | refine w_v7 ?_ | refine w_v8 ?_ | refine w_v9 ?_ | refine w_v10 ?_ | refine w_v11 ?_ | refine w_v12 ?_ | refine w_v13 ?_ | refine w_v14 ?_ | refine w_v15 ?_)
local macro_rules | `(tactic| walk_at "nn") => `(tactic| first | refine w_n0 ?_ | refine w_n1 ?_ | refine w_n2 ?_ | refine w_n3 ?_ | refine w_n4 ?_ | refine w_n5 ?_ | refine w_n6 ?_ | refine w_n7 ?_ | refine w_n8 ?_ | refine w_n9 ?_ | refine w_n10 ?_ | refine w_n11 ?_ | refine w_n12 ?_ | refine w_n13 ?_ | refine w_n14 ?_ | refine w_n15 ?_)
local macro_rules | `(tactic| walk_at "w1") => `(tactic| with_reducible first
  | refine w_cons ?_ | (refine w_vv ?_; walk_at "vv") | refine w_nil ?_ | refine w_op ?_ | refine w_c ?_ | refine w_cb ?_ | refine w_seq ?_ | refine w_asg ?_ | (refine w_nn ?_; walk_at "nn")
  | refine w_test ?_ | refine w_exbl2 ?_ | refine w_ifS ?_ | refine w_ret ?_
  | refine w_call ?_ | refine w_call1 ?_ | refine w_call2 ?_ | refine w_call3 ?_
  | refine w_and ?_ | refine w_or ?_ | refine w_not ?_ | refine w_andV ?_ | refine w_orV ?_ | refine w_notV ?_ | refine w_ifE ?_ | refine w_un ?_ | refine w_tB ?_ | refine w_tru ?_ | refine r_truB ?_ | refine r_truI ?_
  | refine w_tup ?_ | refine w_lst ?_ | refine w_sl ?_ | refine w_part ?_ | refine w_noPart ?_ | refine w_exint ?_ | refine w_drop ?_ | refine w_next ?_ | refine w_yes ?_
  | refine w_gcons ?_ | refine w_gnil ?_ | refine iteT ?_ | refine iteF ?_
  | refine w_lcJ ?_ | refine w_forJ ?_ | refine i_r1 ?_ | refine i_r2 ?_ | refine w_fld ?_ | refine w_fldS ?_ | refine w_prop ?_ | refine w_meth ?_ | refine w_make ?_ | refine w_callO ?_ | refine w_callOI ?_ | refine w_bm ?_ | refine w_retN ?_ | refine w_chain ?_ | refine w_break ?_ | refine w_gsub ?_ | refine w_par ?_ | refine w_call4 ?_ | refine w_call5 ?_)
local macro_rules | `(tactic| walk_at "w2") => `(tactic| first
  | with_reducible (first | refine r_addI ?_ | refine r_subI ?_ | refine r_eqI ?_ | refine r_neI ?_ | refine r_lt ?_ | refine r_le ?_ | refine r_gt ?_ | refine r_ge ?_ | refine r_neg ?_)
  | with_reducible (first | refine r_eqO ?_ | refine r_neO ?_ | refine r_eqB ?_ | refine r_isO ?_ | refine r_isNotO ?_ | refine r_isI ?_ | refine r_isN ?_ | refine r_isR ?_ | refine r_isNotI ?_ | refine r_isNotN ?_ | refine r_isNotR ?_)
  | with_reducible (first | refine r_int ?_ | refine r_abs ?_ | refine r_max2 ?_ | refine r_min2 ?_ | refine r_boolB ?_)
  | ((with_reducible refine' r_lenTI ?a ?q); (case a => walk_at "hp"))
  | ((with_reducible refine' r_lenLI ?a ?q); (case a => walk_at "hp"))
  | ((with_reducible refine' r_lenT ?a ?q); (case a => walk_at "hp"))
  | ((with_reducible refine' r_lenL ?a ?q); (case a => walk_at "hp"))
  | ((with_reducible refine' w_gtup ?a ?b ?q); (case a => walk_at "hp"); (case b => rfl))
  | ((with_reducible refine' r_modI ?a ?q); (case a => walk_at "om"))
  | ((with_reducible refine' r_divI ?a ?b ?q); (case a => walk_at "om"); (case b => walk_at "om"))
  | ((with_reducible refine' r_ixTI ?a ?b ?c ?q); (case a => walk_at "hp"); (case b => walk_at "om"); (case c => walk_at "om"))
  | ((with_reducible refine' r_ixTN ?a ?b ?c ?q); (case a => walk_at "hp"); (case b => walk_at "om"); (case c => walk_at "om"))
  | ((with_reducible refine' r_ixLI ?a ?b ?c ?q); (case a => walk_at "hp"); (case b => walk_at "om"); (case c => walk_at "om"))
  | ((with_reducible refine' r_ixLN ?a ?b ?c ?q); (case a => walk_at "hp"); (case b => walk_at "om"); (case c => walk_at "om"))
  | ((with_reducible refine' r_lenEI ?a ?q); (case a => walk_at "hp"))
  | ((with_reducible refine' r_ixEI ?a ?b ?c ?q); (case a => walk_at "hp"); (case b => walk_at "om"); (case c => walk_at "om"))
  | ((with_reducible refine' r_ixEN ?a ?b ?c ?q); (case a => walk_at "hp"); (case b => walk_at "om"); (case c => walk_at "om"))
  | ((with_reducible refine' r_ixT ?a ?b ?q); (case a => walk_at "hp"); (case b => exact rfl))
  | ((with_reducible refine' r_ixL ?a ?b ?q); (case a => walk_at "hp"); (case b => exact rfl))
  | ((with_reducible refine' r_shr ?a ?q); (case a => walk_at "om"))
  | ((with_reducible refine' r_pow ?a ?q); (case a => (exact ⟨by decide, by decide, by decide⟩)))
  | ((with_reducible refine' r_bmL ?a ?q); (case a => walk_at "hp"))
  | ((with_reducible refine' r_mulI ?a ?q); (case a => first | (left; walk_at "om") | (right; walk_at "om")))
  | ((with_reducible refine' r_eqT ?a ?b ?q); (case a => walk_at "hp"); (case b => walk_at "hp"))
  | ((with_reducible refine' r_neT ?a ?b ?q); (case a => walk_at "hp"); (case b => walk_at "hp"))
  | ((with_reducible refine' i_x1 ?a ?q); (case a => omega))
  | ((with_reducible refine' i_x2 ?a ?q); (case a => omega))
  | ((with_reducible refine' i_xT ?a ?q); (case a => walk_at "hp"))
  | ((with_reducible refine' i_xL ?a ?q); (case a => walk_at "hp"))
  | ((with_reducible refine' r_slTto ?a ?b ?q); (case a => walk_at "hp"); (case b => walk_at "om"))
  | ((with_reducible refine' r_slTfrom ?a ?b ?q); (case a => walk_at "hp"); (case b => walk_at "om"))
  | ((with_reducible refine' r_slLto ?a ?b ?q); (case a => walk_at "hp"); (case b => walk_at "om"))
  | ((with_reducible refine' r_slLfrom ?a ?b ?q); (case a => walk_at "hp"); (case b => walk_at "om"))
  | ((with_reducible refine' r_slLmid ?a ?b ?c ?d ?q); (case a => walk_at "hp"); (case b => walk_at "om"); (case c => walk_at "om"); (case d => walk_at "om"))
  | ((with_reducible refine' r_tupT ?a ?q); (case a => walk_at "hp"))
  | ((with_reducible refine' r_tupL ?a ?q); (case a => walk_at "hp"))
  | ((with_reducible refine' r_lstT ?a ?q); (case a => walk_at "hp"))
  | ((with_reducible refine' r_lstL ?a ?q); (case a => walk_at "hp"))
  | ((with_reducible refine' w_newT ?a ?q); (case a => walk_at "sz"))
  | ((with_reducible refine' w_newL ?a ?q); (case a => walk_at "sz"))
  | ((with_reducible refine' r_isi (b := true) ?a ?b ?q); (case a => walk_at "ty"); (case b => exact rfl))
  | ((with_reducible refine' r_isi (b := false) ?a ?b ?q); (case a => walk_at "ty"); (case b => exact rfl))
  | ((with_reducible refine' r_isiT (b := true) ?a ?b ?c ?q); (case a => walk_at "hp"); (case b => walk_at "ty"); (case c => exact rfl))
  | ((with_reducible refine' r_isiT (b := false) ?a ?b ?c ?q); (case a => walk_at "hp"); (case b => walk_at "ty"); (case c => exact rfl))
  | ((with_reducible refine' w_dT ?a ?q); (case a => walk_at "om"))
  | ((with_reducible refine' w_dF ?a ?q); (case a => walk_at "om"))
  | ((with_reducible refine' w_nT ?a ?q); (case a => walk_at "om"))
  | ((with_reducible refine' w_nF ?a ?q); (case a => walk_at "om"))
  | ((with_reducible refine' w_bT ?a ?q); (case a => exact rfl))
  | ((with_reducible refine' w_bF ?a ?q); (case a => exact rfl)))
local macro_rules | `(tactic| walk_at "w") => `(tactic| repeat (first | walk_at "w1" | walk_at "w2"))

section
def dIsInt : PyData → Bool
  | .int _ => true
  | _ => false
def dIsCount : PyData → Bool
  | .int i => decide (0 ≤ i)
  | _ => false
def dIsSeq : PyData → Bool
  | .list _ => true
  | .tuple _ => true
  | _ => false
theorem dp_nodict {K : PySem.W.Frag} {H : Hp} {v : V} {x : List (PyData × PyData)} (h : Dp K H v (.dict x)) : False := nomatch h
abbrev N_is_integer : List Str := ["thing"]
theorem sc_is_integer : FnScope N_is_integer ["thing"] (defScope s_is_integer) := ⟨rfl, rfl, rfl, by decide +kernel, rfl, by decide +kernel, by decide +kernel⟩
theorem ok_is_integer {P : Program} {w : World} {K : PySem.W.Frag} {mg : Str → Option Value} {base : Heap} (E : Env P K mg) : Fn P w K mg base CX0 1 "is_integer" (sp1 fun v H Q _ => ∃ d, Dp K H v d ∧ RetD K (.bool (dIsInt d)) H Q) := by
  obtain ⟨fd, F⟩ := E.dd_is_integer
  refine Fn.mk0 F E.g_is_integer sc_is_integer sp1_len (fun _ _ _ _ _ _ us hl => match us, hl with | [_], _ => rfl) (fun cdv A outer s H vs Q X hr h => ?_)
  have nd := sc_is_integer.nd
  obtain ⟨v0, rfl, h⟩ := h
  refine ⟨_, (pss_one (ps_ret (pe_and (pe_callB (kIsi K) (by rfl) E.f_isinstance (by decide +kernel) (pa_cons (pv 0) (pa_cons (pe_bltn (v := .ty "int") (by rfl) E.f_int (by decide +kernel) rfl) pa_nil))) (pe_one (pe_not (pe_callB (kIsi K) (by rfl) E.f_isinstance (by decide +kernel) (pa_cons (pv 0) (pa_cons (pe_bltn (v := .ty "bool") (by rfl) E.f_bool (by decide +kernel) rfl) pa_nil)))))))), ?_⟩
  change (_ : TS) _ [some v0] H
  try dsimp only [cxOf, Cx.nox, Cx.blk]
  obtain ⟨d, hd, k⟩ := h
  cases d with
  | dict x => exact (dp_nodict hd).elim
  | int i => cases hd; walk_at "w"; exact k.bl (by walk_at "ex")
  | _ => cases hd <;> (walk_at "w"; exact k.bl (by walk_at "ex"))
abbrev N_is_count : List Str := ["thing"]
theorem sc_is_count : FnScope N_is_count ["thing"] (defScope s_is_count) := ⟨rfl, rfl, rfl, by decide +kernel, rfl, by decide +kernel, by decide +kernel⟩
theorem ok_is_count {P : Program} {w : World} {K : PySem.W.Frag} {mg : Str → Option Value} {base : Heap} (E : Env P K mg) : Fn P w K mg base CX0 2 "is_count" (sp1 fun v H Q _ => ∃ d, Dp K H v d ∧ RetD K (.bool (dIsCount d)) H Q) := by
  obtain ⟨fd, F⟩ := E.dd_is_count
  refine Fn.mk0 F E.g_is_count sc_is_count sp1_len (fun _ _ _ _ _ _ us hl => match us, hl with | [_], _ => rfl) (fun cdv A outer s H vs Q X hr h => ?_)
  have nd := sc_is_count.nd
  obtain ⟨v0, rfl, h⟩ := h
  refine ⟨_, (pss_one (ps_ret (pe_and (pc (ok_is_integer E) hr (by decide) pass0 rfl (pa_cons (pv 0) pa_nil)) (pe_one (pe_cmpR op_ge (pv 0) (pe_int) (nomark _)))))), ?_⟩
  change (_ : TS) _ [some v0] H
  try dsimp only [cxOf, Cx.nox, Cx.blk]
  obtain ⟨d, hd, k⟩ := h
  walk_at "w"
  refine ⟨d, hd, fun v H1 e1 d1 => ?_⟩
  obtain rfl := dp_toBl d1
  cases d with
  | int i =>
    cases hd
    walk_at "w"
    exact k.bl (by walk_at "ex")
  | _ => walk_at "w"; exact k.bl (by walk_at "ex")
/-- data, or a dict -/
def DpX (K : PySem.W.Frag) (H : Hp) (v : V) (d : PyData) : Prop := Dp K H v d ∨ (d = .dict [] ∧ ∃ a kvs, v = .ref a ∧ H a = some (.dK kvs))
instance {K : PySem.W.Frag} {H : Hp} {v : V} {d : PyData} : Coe (Dp K H v d) (DpX K H v d) := ⟨.inl⟩
abbrev N_is_listed : List Str := ["thing"]
theorem sc_is_listed : FnScope N_is_listed ["thing"] (defScope s_is_listed) := ⟨rfl, rfl, rfl, by decide +kernel, rfl, by decide +kernel, by decide +kernel⟩
theorem ok_is_listed {P : Program} {w : World} {K : PySem.W.Frag} {mg : Str → Option Value} {base : Heap} (E : Env P K mg) : Fn P w K mg base CX0 1 "is_listed" (sp1 fun v H Q _ => ∃ d, DpX K H v d ∧ RetD K (.bool (dIsSeq d)) H Q) := by
  obtain ⟨fd, F⟩ := E.dd_is_listed
  refine Fn.mk0 F E.g_is_listed sc_is_listed sp1_len (fun _ _ _ _ _ _ us hl => match us, hl with | [_], _ => rfl) (fun cdv A outer s H vs Q X hr h => ?_)
  have nd := sc_is_listed.nd
  obtain ⟨v0, rfl, h⟩ := h
  refine ⟨_, (pss_one (ps_ret (pe_callB (kIsiT K) (by rfl) E.f_isinstance (by decide +kernel) (pa_cons (pv 0) (pa_cons (pe_tup (pa_cons (pe_bltn (v := .ty "tuple") (by rfl) E.f_tuple (by decide +kernel) rfl) (pa_cons (pe_bltn (v := .ty "list") (by rfl) E.f_list (by decide +kernel) rfl) pa_nil))) pa_nil))))), ?_⟩
  change (_ : TS) _ [some v0] H
  try dsimp only [cxOf, Cx.nox, Cx.blk]
  obtain ⟨d, hd | ⟨rfl, a, kvs, rfl, hk⟩, k⟩ := h
  case' inr =>
    walk_at "w"
    intro p H1 n1 e1 h1
    refine r_isiT (b := false) h1 (.base (.dK (e1 _ _ hk))) rfl ?_
    exact k.bl (by walk_at "ex")
  cases d with
  | dict x => exact (dp_nodict hd).elim
  | _ => cases hd <;> (walk_at "w"; intro p H1 n1 e1 h1; walk_at "w"; exact k.bl (by walk_at "ex"))

end
section
def endOf (l : List Int) (r : Int) : Option Int := if l = [] ∨ r > 0 then none else some (gI l (l.length - 1))
def vat (h l : List Int) (r p : Int) : Option Int :=
  if p = 0 then some 0 else if p ≤ h.length then some (gI h (p - 1)) else if l = [] then none
  else some (gI l ((p - h.length - 1) % l.length) + r * ((p - h.length - 1) / l.length))
def valueAt (h l : List Int) (r : Int) : Option Int → Option Int
  | none => endOf l r
  | some p => vat h l r p
/-- rises that fit a product -/
def RSm (h l : List Int) (r : Int) : Prop := -1152921504606846976 < r ∧ r < 1152921504606846976 ∧ h.length ≤ 50000 ∧ l.length ≤ 50000
abbrev N_end_of : List Str := ["raw", "head", "loop", "rise"]
theorem sc_end_of : FnScope N_end_of ["raw"] (defScope s_end_of) := ⟨rfl, rfl, rfl, by decide +kernel, rfl, by decide +kernel, by decide +kernel⟩
theorem ok_end_of {P : Program} {w : World} {K : PySem.W.Frag} {mg : Str → Option Value} {base : Heap} (E : Env P K mg) : Fn P w K mg base CX0 1 "end_of" (sp1 fun v H Q _ => ∃ h l r, Dp K H v (dRaw h l r) ∧ RetD K (dOpt (endOf l r)) H Q) := by
  obtain ⟨fd, F⟩ := E.dd_end_of
  refine Fn.mk0 F E.g_end_of sc_end_of sp1_len (fun _ _ _ _ _ _ us hl => match us, hl with | [_], _ => rfl) (fun cdv A outer s H vs Q X hr h => ?_)
  have nd := sc_end_of.nd
  obtain ⟨v0, rfl, h⟩ := h
  refine ⟨_, (pss_cons (ps_asg (pv 0) (kGtup K rfl (pgs_cons (pg_name (i := 1) nd rfl (.inl rfl)) (pgs_cons (pg_name (i := 2) nd rfl (.inl rfl)) (pgs_cons (pg_name (i := 3) nd rfl (.inl rfl)) (pgs_nil))))))
  (pss_cons (ps_if (PW.pt (pw_or (pt_cmpR (kEq K hr) (pe_callB (kLen K) (by rfl) E.f_len (by decide +kernel) (pa_cons (pv 2) pa_nil)) (pe_int) (nomark _)) (pw_or1 (pt_cmpR op_gt (pv 3) (pe_int) (nomark _)))))
   (pss_one (ps_ret (pe_non)))
   pss_nil)
  (pss_one (ps_ret (pe_ix (kIx K) (pv 2) (pe_un un_neg (pe_int)) (fun _ _ => rfl)))))), ?_⟩
  change (_ : TS) _ [some v0, none, none, none] H
  try dsimp only [cxOf, Cx.nox, Cx.blk]
  obtain ⟨hd, l, r, hD, k⟩ := h
  obtain ⟨a, th, tl, rfl, s1, s2, s3⟩ := dp_raw hD
  walk_at "w"
  by_cases h1 : l = []
  · subst h1
    walk_at "w"
    exact k.non (by walk_at "ex")
  · have h2 : 0 < l.length := List.length_pos_iff.mpr h1
    walk_at "w"
    unfold endOf at k
    by_cases h3 : 0 < r
    · walk_at "w"
      rw [if_pos (.inr h3)] at k
      exact k.non (by walk_at "ex")
    · walk_at "w"
      rw [if_neg (by rintro (h | h) <;> contradiction)] at k
      exact k.int (by walk_at "ex")
abbrev spValueAt (K : PySem.W.Frag) : Sp := sp2 fun a b H Q _ => ∃ h l r p, Dp K H a (dRaw h l r) ∧ Dp K H b (dOpt p) ∧ (∀ n, p = some n → 0 ≤ n) ∧ RSm h l r ∧ RetD K (dOpt (valueAt h l r p)) H Q
abbrev N_value_at : List Str := ["raw", "place", "head", "loop", "rise", "rest"]
theorem sc_value_at : FnScope N_value_at ["raw", "place"] (defScope s_value_at) := ⟨rfl, rfl, rfl, by decide +kernel, rfl, by decide +kernel, by decide +kernel⟩
theorem ok_value_at {P : Program} {w : World} {K : PySem.W.Frag} {mg : Str → Option Value} {base : Heap} (E : Env P K mg) : Fn P w K mg base CX0 2 "value_at" (spValueAt K) := by
  obtain ⟨fd, F⟩ := E.dd_value_at
  refine Fn.mk0 F E.g_value_at sc_value_at sp2_len (fun _ _ _ _ _ _ us hl => match us, hl with | [_, _], _ => rfl) (fun cdv A outer s H vs Q X hr h => ?_)
  have nd := sc_value_at.nd
  obtain ⟨v0, v1, rfl, h⟩ := h
  refine ⟨_, (pss_cons (ps_asg (pv 0) (kGtup K rfl (pgs_cons (pg_name (i := 2) nd rfl (.inl rfl)) (pgs_cons (pg_name (i := 3) nd rfl (.inl rfl)) (pgs_cons (pg_name (i := 4) nd rfl (.inl rfl)) (pgs_nil))))))
  (pss_cons (ps_if (pt_cmpR xIs (pv 1) (pe_non) (nomark _))
   (pss_one (ps_ret (pc (ok_end_of E) hr (by decide) pass0 rfl (pa_cons (pv 0) pa_nil))))
   pss_nil)
  (pss_cons (ps_if (pt_cmpR (kEq K hr) (pv 1) (pe_int) (nomark _))
   (pss_one (ps_ret (pe_int)))
   pss_nil)
  (pss_cons (ps_if (pt_cmpR op_le (pv 1) (pe_callB (kLen K) (by rfl) E.f_len (by decide +kernel) (pa_cons (pv 2) pa_nil)) (nomark _))
   (pss_one (ps_ret (pe_ix (kIx K) (pv 2) (pe_op xSub (pv 1) (pe_int)) (fun _ _ => rfl))))
   pss_nil)
  (pss_cons (ps_if (pt_cmpR (kEq K hr) (pe_callB (kLen K) (by rfl) E.f_len (by decide +kernel) (pa_cons (pv 3) pa_nil)) (pe_int) (nomark _))
   (pss_one (ps_ret (pe_non)))
   pss_nil)
  (pss_cons (ps_set (i := 5) nd rfl (.inl rfl) (pe_op xSub (pe_op xSub (pv 1) (pe_callB (kLen K) (by rfl) E.f_len (by decide +kernel) (pa_cons (pv 2) pa_nil))) (pe_int)))
  (pss_one (ps_ret (pe_op (kAdd K) (pe_ix (kIx K) (pv 3) (pe_op xMod (pv 5) (pe_callB (kLen K) (by rfl) E.f_len (by decide +kernel) (pa_cons (pv 3) pa_nil))) (fun _ _ => rfl)) (pe_op (kMul K) (pv 4) (pe_op xDiv (pv 5) (pe_callB (kLen K) (by rfl) E.f_len (by decide +kernel) (pa_cons (pv 3) pa_nil))))))))))))), ?_⟩
  change (_ : TS) _ [some v0, some v1, none, none, none, none] H
  try dsimp only [cxOf, Cx.nox, Cx.blk]
  obtain ⟨hd, l, r, p, hD, hp, hn, hr1, k⟩ := h
  obtain ⟨a, th, tl, rfl, s1, s2, s3⟩ := dp_raw hD
  obtain ⟨r1, r2, r3, r4⟩ := hr1
  cases p with
  | none =>
    obtain rfl := dp_toNon hp
    walk_at "w"
    exact ⟨hd, l, r, hD, k⟩
  | some p =>
    obtain rfl := dp_toInt hp
    have hn0 := hn p rfl
    walk_at "w"
    have k' : RetD K (dOpt (vat hd l r p)) H Q := k
    unfold vat at k'
    by_cases h0 : p = 0
    · walk_at "w"
      rw [if_pos h0] at k'
      exact k'.int (by walk_at "ex")
    · rw [if_neg h0] at k'
      walk_at "w"
      by_cases h1 : p ≤ hd.length
      · rw [if_pos h1] at k'
        walk_at "w"
        exact k'.int (by walk_at "ex")
      · rw [if_neg h1] at k'
        walk_at "w"
        by_cases h2 : l = []
        · rw [if_pos h2] at k'
          subst h2
          walk_at "w"
          exact k'.non (by walk_at "ex")
        · rw [if_neg h2] at k'
          have h3 : 0 < l.length := List.length_pos_iff.mpr h2
          have h4 : (p - hd.length - 1) % l.length < l.length := Int.emod_lt_of_pos _ (by omega)
          have h5 : 0 ≤ (p - hd.length - 1) % l.length := Int.emod_nonneg _ (by omega)
          walk_at "w"
          exact k'.int (by walk_at "ex")

end
section
/-- whether a loop goes on in the same way behind its first m entries -/
def slOk (l : List Int) (r : Int) (m : Nat) : Prop :=
  (l.length : Int) % m = 0 ∧ r % ((l.length : Int) / m) = 0 ∧ ∀ i : Nat, i + m < l.length → gI l (i + m) = gI l i + r / ((l.length : Int) / m)
open Classical in
noncomputable def shortLoop (l : List Int) (r : Int) : List Int × Int :=
  match (List.range' 1 (l.length - 1)).find? (fun m => decide (slOk l r m)) with
  | some m => (l.take m, r / ((l.length : Int) / m))
  | none => (l, r)
theorem shortLoop_some {l : List Int} {r : Int} {m : Nat} (h1 : 1 ≤ m) (h2 : m < l.length) (ho : slOk l r m) (hn : ∀ j, 1 ≤ j → j < m → ¬ slOk l r j) : shortLoop l r = (l.take m, r / ((l.length : Int) / m)) := by
  unfold shortLoop
  have e : (List.range' 1 (l.length - 1)).find? (fun m => @decide (slOk l r m) (Classical.propDecidable _)) = some m := by
    rw [List.find?_eq_some_iff_getElem]
    refine ⟨by simpa using ho, m - 1, by simp; omega, by simp; omega, fun j hj => ?_⟩
    simp
    exact hn (1 + j) (by omega) (by omega)
  rw [e]
theorem shortLoop_none {l : List Int} {r : Int} (hn : ∀ j, 1 ≤ j → j < l.length → ¬ slOk l r j) : shortLoop l r = (l, r) := by
  unfold shortLoop
  have e : (List.range' 1 (l.length - 1)).find? (fun m => @decide (slOk l r m) (Classical.propDecidable _)) = none := by
    rw [List.find?_eq_none]
    intro m hm
    simp at hm ⊢
    exact hn m (by omega) (by omega)
  rw [e]
abbrev N_short_loop : List Str := ["loop", "rise", "many", "step", "place"]
theorem sc_short_loop : FnScope N_short_loop ["loop", "rise"] (defScope s_short_loop) := ⟨rfl, rfl, rfl, by decide +kernel, rfl, by decide +kernel, by decide +kernel⟩
theorem ok_short_loop {P : Program} {w : World} {K : PySem.W.Frag} {mg : Str → Option Value} {base : Heap} (E : Env P K mg) : Fn P w K mg base CX0 1 "short_loop" (sp2 fun a b H Q _ => ∃ l r, Dp K H a (dInts l) ∧ Dp K H b (.int r) ∧ RSm [] l r ∧ RetD K (.tuple [dInts (shortLoop l r).1, .int (shortLoop l r).2]) H Q) := by
  obtain ⟨fd, F⟩ := E.dd_short_loop
  refine Fn.mk0 F E.g_short_loop sc_short_loop sp2_len (fun _ _ _ _ _ _ us hl => match us, hl with | [_, _], _ => rfl) (fun cdv A outer s H vs Q X hr h => ?_)
  have nd := sc_short_loop.nd
  obtain ⟨v0, v1, rfl, h⟩ := h
  refine ⟨_, (pss_cons (ps_for PassesOwn.never rfl (pi_range2 (by rfl) E.f_range (pa_cons (pe_int) (pa_cons (pe_callB (kLen K) (by rfl) E.f_len (by decide +kernel) (pa_cons (pv 0) pa_nil)) pa_nil))) (pg_name (i := 2) nd rfl (.inr rfl))
   (pss_one (ps_if (PW.pt (pw_and (pt_cmpR (kEq K hr) (pe_op xMod (pe_callB (kLen K) (by rfl) E.f_len (by decide +kernel) (pa_cons (pv 0) pa_nil)) (pv 2)) (pe_int) (nomark _)) (pw_and1 (pt_cmpR (kEq K hr) (pe_op xMod (pv 1) (pe_op xDiv (pe_callB (kLen K) (by rfl) E.f_len (by decide +kernel) (pa_cons (pv 0) pa_nil)) (pv 2))) (pe_int) (nomark _)))))
   (pss_cons (ps_set (i := 3) nd rfl (.inr rfl) (pe_op xDiv (pv 1) (pe_op xDiv (pe_callB (kLen K) (by rfl) E.f_len (by decide +kernel) (pa_cons (pv 0) pa_nil)) (pv 2))))
  (pss_one (ps_if (kTru K (pe_callB (kAll K rfl) (by rfl) E.f_all (by decide +kernel) (pa_cons (pe_lc (own := [("place", 4)]) (g := gName 4) (tt := tYes) rfl nd (pi_range1 (by rfl) E.f_range (pa_cons (pe_op xSub (pe_callB (kLen K) (by rfl) E.f_len (by decide +kernel) (pa_cons (pv 0) pa_nil)) (pv 2)) pa_nil)) (blkOk_by (N := N_short_loop) (sc := defScope s_short_loop) (by decide +kernel)) (fun _ _ _ _ _ => pg_name (i := 4) nd rfl (Or.inl rfl)) (fun _ _ _ _ _ => pts_nil) (fun _ _ _ _ _ => pe_cmpR (kEq K hr) (pe_ix (kIx K) (pv 0) (pe_op (kAdd K) (pv 4) (pv 2)) (fun _ _ => rfl)) (pe_op (kAdd K) (pe_ix (kIx K) (pv 0) (pv 4) (fun _ _ => rfl)) (pv 3)) (nomark _))) pa_nil)) (by intro _; rfl))
   (pss_one (ps_ret (pe_tup (pa_cons (pe_slice (kSl K) (pv 0) po_none (po_some (pv 2))) (pa_cons (pv 3) pa_nil)))))
   pss_nil)))
   pss_nil)))
  (pss_one (ps_ret (pe_tup (pa_cons (pv 0) (pa_cons (pv 1) pa_nil)))))), ?_⟩
  change (_ : TS) _ [some v0, some v1, none, none, none] H
  try dsimp only [cxOf, Cx.nox, Cx.blk]
  obtain ⟨l, r, hl, hri, ⟨r1, r2, r3, r4⟩, k⟩ := h
  obtain ⟨t, rfl, s1⟩ := dp_ints hl
  obtain rfl := dp_toInt hri
  walk_at "w"
  refine for_range (lo := 1) (Pv := fun i σ' H' => ∃ a b c, σ' = [some (.ref t), some (.int r), a, b, c] ∧ Ex H H' ∧ ∀ j : Nat, 1 ≤ j → j < 1 + i → ¬ slOk l r j) ⟨_, _, _, rfl, Ex.refl H, fun j h1 h2 => by omega⟩ ?_ ?_
  · rintro i σ' H' hi ⟨a, b, c, rfl, e, hnot⟩
    have hi' : 1 + i < l.length := by omega
    obtain ⟨m, hm⟩ : ∃ m : Nat, m = 1 + i := ⟨_, rfl⟩
    have hm0 : 0 < m := by omega
    rw [show (1 + (i : Int)) = (m : Int) by omega]
    have hq : 0 < (l.length : Int) / m := Int.le_ediv_of_mul_le (by omega) (by omega)
    have hq2 : (l.length : Int) / m ≤ l.length := Int.ediv_le_self _ (by omega)
    have hno : ¬ slOk l r m → ∀ j : Nat, 1 ≤ j → j < 1 + (i + 1) → ¬ slOk l r j := fun hn j h1 h2 => by
      by_cases hj : j = m
      · rw [hj]; exact hn
      · exact hnot j h1 (by omega)
    walk_at "w"
    by_cases c1 : (l.length : Int) % m = 0
    · walk_at "w"
      by_cases c2 : r % ((l.length : Int) / m) = 0
      · walk_at "w"
        refine lcJ_r0 (v := fun i => .bl (decide (gI l (i + m) = gI l i + r / ((l.length : Int) / m)))) (by omega) (fun x => [_, _, _, _, some x]) (fun x => rfl) (fun x => rfl) (fun j H1 Q' e1 hj hq => ?_) (fun p H2 np e2 hp => ?_)
        · walk_at "w"
          exact hq H1 (Ex.refl _)
        · rw [map_bl_range] at hp
          walk_at "w"
          refine r_all (sq_of hp) rfl ?_
          rw [all_range]
          walk_at "w"
          by_cases c3 : ∀ j : Nat, j < ((l.length : Int) - m).toNat → gI l (j + m) = gI l j + r / ((l.length : Int) / m)
          · walk_at "w"
            intro p3 H3 e3 s3
            walk_at "w"
            intro p4 H4 n4 e4 h4
            rw [shortLoop_some hm0 (by omega) ⟨c1, c2, fun j hj => c3 j (by omega)⟩ (fun j h1 h2 => hnot j h1 (by omega))] at k
            refine k _ _ (((e.trans e2).trans e3).trans e4) (.tup (st_of h4) (.cons (dp_of_ints (ex_t e4 ?_)) (.cons (.int _) .nil)))
            exact s3
          · walk_at "w"
            refine ⟨_, _, _, rfl, e.trans e2, hno fun h => c3 fun j hj => ?_⟩
            exact h.2.2 j (by omega)
      · walk_at "w"
        exact ⟨_, _, _, rfl, e, hno fun h => c2 h.2.1⟩
    · walk_at "w"
      exact ⟨_, _, _, rfl, e, hno fun h => c1 h.1⟩
  · rintro σ' H' ⟨a, b, c, rfl, e, hnot⟩
    walk_at "w"
    intro p H1 n1 e1 h1
    rw [shortLoop_none (fun j h1 h2 => hnot j h1 (by omega))] at k
    exact k _ _ (e.trans e1) (.tup (st_of h1) (.cons (dp_of_ints (ex_t e1 (ex_t e s1))) (.cons (.int r) .nil)))

end
section
theorem shortLoop_cases (l : List Int) (r : Int) : (shortLoop l r = (l, r)) ∨ ∃ m : Nat, 1 ≤ m ∧ m < l.length ∧ slOk l r m ∧ shortLoop l r = (l.take m, r / ((l.length : Int) / m)) := by
  by_cases h : ∃ m : Nat, 1 ≤ m ∧ m < l.length ∧ slOk l r m
  · have key : ∀ n : Nat, (∃ m : Nat, m ≤ n ∧ 1 ≤ m ∧ m < l.length ∧ slOk l r m) → ∃ m : Nat, 1 ≤ m ∧ m < l.length ∧ slOk l r m ∧ ∀ j, 1 ≤ j → j < m → ¬ slOk l r j := by
      intro n
      induction n with
      | zero => rintro ⟨m, h0, h1, _⟩; omega
      | succ n ih =>
        rintro ⟨m, h0, h1, h2, h3⟩
        by_cases q : ∃ m : Nat, m ≤ n ∧ 1 ≤ m ∧ m < l.length ∧ slOk l r m
        · exact ih q
        · exact ⟨m, h1, h2, h3, fun j j1 j2 j3 => q ⟨j, by omega, j1, by omega, j3⟩⟩
    obtain ⟨m, h1, h2, h3⟩ := h
    obtain ⟨m, h1, h2, h3, h4⟩ := key m ⟨m, Nat.le_refl _, h1, h2, h3⟩
    exact .inr ⟨m, h1, h2, h3, shortLoop_some h1 h2 h3 h4⟩
  · exact .inl (shortLoop_none fun j h1 h2 h3 => h ⟨j, h1, h2, h3⟩)
theorem shortLoop_len (l : List Int) (r : Int) : (shortLoop l r).1.length ≤ l.length ∧ (l ≠ [] → (shortLoop l r).1 ≠ []) := by
  rcases shortLoop_cases l r with e | ⟨m, h1, h2, _, e⟩
  · rw [e]; exact ⟨Nat.le_refl _, id⟩
  · rw [e]
    refine ⟨by show (l.take m).length ≤ _; rw [List.length_take]; omega, fun _ q => ?_⟩
    have : (l.take m).length = 0 := by rw [show l.take m = [] from q]; rfl
    rw [List.length_take] at this
    omega
theorem shortLoop_rise {l : List Int} {r : Int} (h : 0 ≤ r) : 0 ≤ (shortLoop l r).2 ∧ (shortLoop l r).2 ≤ r := by
  rcases shortLoop_cases l r with e | ⟨m, h1, h2, _, e⟩
  · rw [e]; exact ⟨h, Int.le_refl _⟩
  · rw [e]
    have hq : 0 < (l.length : Int) / m := Int.le_ediv_of_mul_le (by omega) (by omega)
    exact ⟨Int.ediv_nonneg h (by omega), Int.ediv_le_self _ h⟩
/-- what a loop going on backwards has back places ahead of itself -/
def bkV (l : List Int) (r back : Int) : Int := gI l (-1 - back % l.length + l.length) - r * (back / l.length + 1)
def cutH (h l : List Int) (r : Int) : Nat → Nat
  | 0 => 0
  | k + 1 => if gI h k = bkV l r (h.length - (k + 1)) then cutH h l r k else k + 1
noncomputable def plainF (h l : List Int) (r : Int) : List Int × List Int × Int :=
  if l = [] then (h, [], 0) else
    (h.take (cutH h (shortLoop l r).1 (shortLoop l r).2 h.length),
     (List.range (shortLoop l r).1.length).map fun i : Nat => (vat h (shortLoop l r).1 (shortLoop l r).2 (cutH h (shortLoop l r).1 (shortLoop l r).2 h.length + 1 + i)).getD 0,
     (shortLoop l r).2)
theorem cutH_le (h l : List Int) (r : Int) : ∀ k, cutH h l r k ≤ k
  | 0 => Nat.le_refl _
  | k + 1 => by
    unfold cutH
    split
    · exact Nat.le_succ_of_le (cutH_le h l r k)
    · exact Nat.le_refl _
theorem vat_some {h l : List Int} {r p : Int} (hl : l ≠ []) : vat h l r p = some ((vat h l r p).getD 0) := by
  unfold vat
  rw [if_neg hl]
  split
  · rfl
  · split <;> rfl
abbrev N_plain_form : List Str := ["head", "loop", "rise", "keep", "back", "told", "place"]
theorem sc_plain_form : FnScope N_plain_form ["head", "loop", "rise"] (defScope s_plain_form) := ⟨rfl, rfl, rfl, by decide +kernel, rfl, by decide +kernel, by decide +kernel⟩
theorem ok_plain_form {P : Program} {w : World} {K : PySem.W.Frag} {mg : Str → Option Value} {base : Heap} (E : Env P K mg) : Fn P w K mg base CX0 3 "plain_form" (sp3 fun a b c H Q _ => ∃ h l r, Dp K H a (dInts h) ∧ Dp K H b (dInts l) ∧ Dp K H c (.int r) ∧ 0 ≤ r ∧ RSm h l r ∧ RetD K (dRaw (plainF h l r).1 (plainF h l r).2.1 (plainF h l r).2.2) H Q) := by
  obtain ⟨fd, F⟩ := E.dd_plain_form
  refine Fn.mk0 F E.g_plain_form sc_plain_form sp3_len (fun _ _ _ _ _ _ us hl => match us, hl with | [_, _, _], _ => rfl) (fun cdv A outer s H vs Q X hr h => ?_)
  have nd := sc_plain_form.nd
  obtain ⟨v0, v1, v2, rfl, h⟩ := h
  refine ⟨_, (pss_cons (ps_if (pt_cmpR (kEq K hr) (pe_callB (kLen K) (by rfl) E.f_len (by decide +kernel) (pa_cons (pv 1) pa_nil)) (pe_int) (nomark _))
   (pss_one (ps_ret (pe_tup (pa_cons (pv 0) (pa_cons (pe_tup pa_nil) (pa_cons (pe_int) pa_nil))))))
   pss_nil)
  (pss_cons (ps_asg (pc (ok_short_loop E) hr (by decide) pass0 rfl (pa_cons (pv 1) (pa_cons (pv 2) pa_nil))) (kGtup K rfl (pgs_cons (pg_name (i := 1) nd rfl (.inl rfl)) (pgs_cons (pg_name (i := 2) nd rfl (.inl rfl)) (pgs_nil)))))
  (pss_cons (ps_set (i := 3) nd rfl (.inr rfl) (pe_callB (kLen K) (by rfl) E.f_len (by decide +kernel) (pa_cons (pv 0) pa_nil)))
  (pss_cut (ps_while PassesOwn.never (pt_cmpR op_gt (pv 3) (pe_int) (nomark _))
   (pss_cons (ps_set (i := 4) nd rfl (.inl rfl) (pe_op xSub (pe_callB (kLen K) (by rfl) E.f_len (by decide +kernel) (pa_cons (pv 0) pa_nil)) (pv 3)))
  (pss_cons (ps_if (pt_cmpR (kNe K hr) (pe_ix (kIx K) (pv 0) (pe_op xSub (pv 3) (pe_int)) (fun _ _ => rfl)) (pe_op xSub (pe_ix (kIx K) (pv 1) (pe_op xSub (pe_un un_neg (pe_int)) (pe_op xMod (pv 4) (pe_callB (kLen K) (by rfl) E.f_len (by decide +kernel) (pa_cons (pv 1) pa_nil)))) (fun _ _ => rfl)) (pe_op (kMul K) (pv 2) (pe_op (kAdd K) (pe_op xDiv (pv 4) (pe_callB (kLen K) (by rfl) E.f_len (by decide +kernel) (pa_cons (pv 1) pa_nil))) (pe_int)))) (nomark _))
   (pss_one (ps_break))
   pss_nil)
  (pss_one (ps_set (i := 3) nd rfl (.inr rfl) (pe_op xSub (pv 3) (pe_int)))))))
  (pss_cons (ps_set (i := 5) nd rfl (.inr rfl) (pe_tup (pa_cons (pv 0) (pa_cons (pv 1) (pa_cons (pv 2) pa_nil)))))
  (pss_one (ps_ret (pe_tup (pa_cons (pe_slice (kSl K) (pv 0) po_none (po_some (pv 3))) (pa_cons (pe_callTy (kTup K) (by rfl) E.f_tuple (by decide +kernel) (pa_cons (pe_lc (own := [("place", 6)]) (g := gName 6) (tt := tYes) rfl nd (pi_range1 (by rfl) E.f_range (pa_cons (pe_callB (kLen K) (by rfl) E.f_len (by decide +kernel) (pa_cons (pv 1) pa_nil)) pa_nil)) (blkOk_by (N := N_plain_form) (sc := defScope s_plain_form) (by decide +kernel)) (fun _ _ _ _ _ => pg_name (i := 6) nd rfl (Or.inl rfl)) (fun _ _ _ _ _ => pts_nil) (fun _ _ _ _ _ => pc (ok_value_at E) hr (by decide) pass0 rfl (pa_cons (pv 5) (pa_cons (pe_op (kAdd K) (pe_op (kAdd K) (pv 3) (pe_int)) (pv 6)) pa_nil)))) pa_nil)) (pa_cons (pv 2) pa_nil))))))))))), ?_⟩
  change (_ : TS) _ [some v0, some v1, some v2, none, none, none, none] H
  try dsimp only [cxOf, Cx.nox, Cx.blk]
  obtain ⟨h, l, r, hh, hl, hri, hr0, ⟨r1, r2, r3, r4⟩, k⟩ := h
  obtain ⟨th, rfl, s1⟩ := dp_ints hh
  obtain ⟨tl, rfl, s2⟩ := dp_ints hl
  obtain rfl := dp_toInt hri
  unfold plainF at k
  walk_at "w"
  by_cases hn : l = []
  · subst hn
    rw [if_pos rfl] at k
    walk_at "w"
    intro p1 H1 n1 e1 h1
    walk_at "w"
    intro p2 H2 n2 e2 h2
    exact k _ _ (e1.trans e2) (dp_of_raw (st_of h2) (ex_t e2 (ex_t e1 s1)) (ex_t e2 (st_of h1)))
  · rw [if_neg hn] at k
    have hl0 : 0 < l.length := List.length_pos_iff.mpr hn
    walk_at "w"
    refine ⟨l, r, dp_of_ints s2, .int r, ⟨r1, r2, by simp, r4⟩, fun v H1 e1 d1 => ?_⟩
    obtain ⟨pa, x, y, rfl, sp, dx, dy⟩ := dp_t2 d1
    obtain ⟨ta, rfl, sa⟩ := dp_ints dx
    obtain rfl := dp_toInt dy
    obtain ⟨q1, q2⟩ := shortLoop_len l r
    obtain ⟨q3, q4⟩ := shortLoop_rise (l := l) hr0
    have q5 := q2 hn
    have q5' := q5
    generalize shortLoop l r = sl at *
    obtain ⟨l', r'⟩ := sl
    dsimp only at *
    have hl1 : 0 < l'.length := List.length_pos_iff.mpr q5
    walk_at "w"
    refine w_cut (M := fun σ' H' => ∃ (m : Nat) (bk : Option V), σ' = [some (.ref th), some (.ref ta), some (.int r'), some (.int (m : Int)), bk, none, none] ∧ Ex H1 H' ∧ m ≤ h.length ∧ cutH h l' r' h.length = m) ?_ ?_
    · refine ⟨fun m σ' H' => ∃ bk, σ' = [some (.ref th), some (.ref ta), some (.int r'), some (.int (m : Int)), bk, none, none] ∧ Ex H1 H' ∧ m ≤ h.length ∧ cutH h l' r' h.length = cutH h l' r' m, ⟨h.length, none, rfl, Ex.refl _, Nat.le_refl _, rfl⟩, ?_⟩
      rintro m σ' H' ⟨bk, rfl, e2, hm, hc⟩
      walk_at "w"
      cases m with
      | zero =>
        walk_at "w"
        exact ⟨0, _, rfl, e2, hm, hc⟩
      | succ m =>
        walk_at "w"
        refine ⟨_, fun σ2 H2 h2 => ⟨m, Nat.lt_succ_self m, h2⟩, ?_⟩
        have hb0 : 0 ≤ ((h.length : Int) - (m + 1 : Nat)) % l'.length := Int.emod_nonneg _ (by omega)
        have hb1 : ((h.length : Int) - (m + 1 : Nat)) % l'.length < l'.length := Int.emod_lt_of_pos _ (by omega)
        walk_at "w"
        have hb : bkV l' r' ((h.length : Int) - (m + 1 : Nat)) = gI l' (-1 - (↑h.length - ↑(m + 1)) % ↑l'.length + ↑l'.length) - r' * ((↑h.length - ↑(m + 1)) / ↑l'.length + 1) := rfl
        rw [← hb, show ((m + 1 : Nat) : Int) - 1 = (m : Int) by omega]
        by_cases c : gI h m = bkV l' r' ((h.length : Int) - (m + 1 : Nat))
        · walk_at "w"
          rw [show ((m + 1 : Nat) : Int) - 1 = (m : Int) by omega]
          refine ⟨_, rfl, e2, by omega, ?_⟩
          rw [hc]
          exact if_pos c
        · walk_at "w"
          refine ⟨m + 1, _, rfl, e2, hm, ?_⟩
          rw [hc]
          exact if_neg c
    · rintro σ' H' ⟨m, bk, rfl, e2, hm, hc⟩
      walk_at "w"
      intro p1 H2 n2 e3 h3
      walk_at "w"
      intro p2 H3 e4 s4
      rw [Int.toNat_natCast] at s4
      walk_at "w"
      have hs : Dp K H3 (.ref p1) (dRaw h l' r') := dp_of_raw (ex_t e4 (st_of h3)) (by walk_at "hp") (by walk_at "hp")
      refine lcJ_r0 (v := fun i : Nat => .int ((vat h l' r' (m + 1 + i)).getD 0)) (by omega) (fun x => [_, _, _, _, _, _, some x]) (fun x => rfl) (fun x => rfl) (fun j H4 Q' e5 hj hq => ?_) (fun p4 H4 n4 e5 h5 => ?_)
      · walk_at "w"
        refine ⟨h, l', r', some (m + 1 + j), dp_ex e5 hs, .int _, fun n hn => by cases hn; omega, ⟨by omega, by omega, r3, by omega⟩, fun v H5 e6 d6 => ?_⟩
        obtain rfl := dp_toInt (by rw [show valueAt h l' r' (some (m + 1 + j)) = some _ from vat_some q5'] at d6; exact d6)
        exact hq _ e6
      · walk_at "w"
        intro p5 H5 e6 s6
        walk_at "w"
        intro p6 H6 n6 e7 h6
        rw [Int.toNat_natCast] at s6
        rw [hc] at k
        refine k _ _ (by walk_at "ex") (dp_of_raw (st_of h6) (by walk_at "hp") (ex_t e7 ?_))
        unfold vI
        rw [List.map_map]
        exact s6

end
section
def rising (ns : List Int) : Prop := ∀ i : Nat, i + 1 < ns.length → gI ns i ≤ gI ns (i + 1)
def allPos (ns : List Int) : Prop := ∀ n ∈ ns, 0 ≤ n
/-- a tuple or a list of ints -/
def dSeqI (b : Bool) (ns : List Int) : PyData := if b then dInts ns else dIntL ns
theorem dp_seqI {K : PySem.W.Frag} {H : Hp} {v : V} {b : Bool} {ns : List Int} (h : Dp K H v (dSeqI b ns)) : ∃ a, v = .ref a ∧ ((b = true ∧ SqT K H a (vI ns)) ∨ (b = false ∧ SqL K H a (vI ns))) := by
  cases b with
  | true => obtain ⟨a, e, s⟩ := dp_ints h; exact ⟨a, e, .inl ⟨rfl, s⟩⟩
  | false => obtain ⟨a, e, s⟩ := dp_intL h; exact ⟨a, e, .inr ⟨rfl, s⟩⟩
abbrev N_is_counts : List Str := ["thing", "one"]
theorem sc_is_counts : FnScope N_is_counts ["thing"] (defScope s_is_counts) := ⟨rfl, rfl, rfl, by decide +kernel, rfl, by decide +kernel, by decide +kernel⟩
theorem ok_is_counts {P : Program} {w : World} {K : PySem.W.Frag} {mg : Str → Option Value} {base : Heap} (E : Env P K mg) : Fn P w K mg base CX0 3 "is_counts" (sp1 fun v H Q _ => ∃ b ns, Dp K H v (dSeqI b ns) ∧ allPos ns ∧ ns.length ≤ 50000 ∧ RetD K (.bool true) H Q) := by
  obtain ⟨fd, F⟩ := E.dd_is_counts
  refine Fn.mk0 F E.g_is_counts sc_is_counts sp1_len (fun _ _ _ _ _ _ us hl => match us, hl with | [_], _ => rfl) (fun cdv A outer s H vs Q X hr h => ?_)
  have nd := sc_is_counts.nd
  obtain ⟨v0, rfl, h⟩ := h
  refine ⟨_, (pss_one (ps_ret (pe_and (pc (ok_is_listed E) hr (by decide) pass0 rfl (pa_cons (pv 0) pa_nil)) (pe_one (pe_callB (kAll K rfl) (by rfl) E.f_all (by decide +kernel) (pa_cons (pe_lc (own := [("one", 1)]) (g := gName 1) (tt := tYes) rfl nd (kSeq K (pv 0)) (blkOk_by (N := N_is_counts) (sc := defScope s_is_counts) (by decide +kernel)) (fun _ _ _ _ _ => pg_name (i := 1) nd rfl (Or.inl rfl)) (fun _ _ _ _ _ => pts_nil) (fun _ _ _ _ _ => pc (ok_is_count E) hr (by decide) pass0 rfl (pa_cons (pv 1) pa_nil))) pa_nil)))))), ?_⟩
  change (_ : TS) _ [some v0, none] H
  try dsimp only [cxOf, Cx.nox, Cx.blk]
  obtain ⟨b, ns, hd, hp, hz, k⟩ := h
  obtain ⟨a, rfl, hs⟩ := dp_seqI hd
  walk_at "w"
  refine ⟨_, .inl hd, fun v H1 e1 d1 => ?_⟩
  have e : dIsSeq (dSeqI b ns) = true := by cases b <;> rfl
  rw [e] at d1
  obtain rfl := dp_toBl d1
  walk_at "w"
  have key : ∀ (x : V) (H2 : Hp) (Q' : VK), x ∈ vI ns → (∀ H3, Ex H2 H3 → Q' (.bl true) H3) → ∃ d, Dp K H2 x d ∧ RetD K (.bool (dIsCount d)) H2 Q' := fun x H2 Q' hx hq => by
    obtain ⟨n, hn, rfl⟩ := List.mem_map.mp hx
    refine ⟨.int n, .int n, fun v H3 e3 d3 => ?_⟩
    rw [show dIsCount (.int n) = true from decide_eq_true (hp n hn)] at d3
    obtain rfl := dp_toBl d3
    exact hq H3 e3
  have fin : ∀ (p : Addr) (H2 : Hp), Ex H1 H2 → H2 p = some (.lst ((vI ns).map fun _ => V.bl true)) → rAll K [.ref p] H2 (fun v H => Q v H) := fun p H2 e2 hp => by
    refine r_all (bs := (vI ns).map fun _ => true) (sq_of hp) (by simp [Function.comp]) ?_
    have : ((vI ns).map fun _ => true).all id = true := by simp
    rw [this]
    exact k.bl (e1.trans e2)
  rcases hs with ⟨rfl, s⟩ | ⟨rfl, s⟩
  · refine i_seqT ?_
    walk_at "w"
    refine lcJ_tup (v := fun _ => .bl true) (ex_t e1 s) (by rw [List.length_map]; omega) (fun x => [_, some x]) (fun x => rfl) (fun x => rfl) (fun x H2 Q' e2 hx hq => ?_) (fun p H2 n2 e2 hp => ?_)
    · walk_at "w"
      exact key x H2 Q' hx hq
    · walk_at "w"
      exact fin p H2 e2 hp
  · refine i_seqL ?_
    walk_at "w"
    refine lcJ_list (v := fun _ => .bl true) (ex_l e1 s) (by rw [List.length_map]; omega) (fun x => [_, some x]) (fun x => rfl) (fun x => rfl) (fun x H2 Q' e2 hx hq => ?_) (fun p H2 n2 e2 hp => ?_)
    · walk_at "w"
      exact key x H2 Q' hx hq
    · walk_at "w"
      exact fin p H2 e2 hp
abbrev N_is_rising : List Str := ["counts", "place"]
theorem sc_is_rising : FnScope N_is_rising ["counts"] (defScope s_is_rising) := ⟨rfl, rfl, rfl, by decide +kernel, rfl, by decide +kernel, by decide +kernel⟩
theorem ok_is_rising {P : Program} {w : World} {K : PySem.W.Frag} {mg : Str → Option Value} {base : Heap} (E : Env P K mg) : Fn P w K mg base CX0 1 "is_rising" (sp1 fun v H Q _ => ∃ b ns, Dp K H v (dSeqI b ns) ∧ rising ns ∧ ns.length ≤ 50000 ∧ RetD K (.bool true) H Q) := by
  obtain ⟨fd, F⟩ := E.dd_is_rising
  refine Fn.mk0 F E.g_is_rising sc_is_rising sp1_len (fun _ _ _ _ _ _ us hl => match us, hl with | [_], _ => rfl) (fun cdv A outer s H vs Q X hr h => ?_)
  have nd := sc_is_rising.nd
  obtain ⟨v0, rfl, h⟩ := h
  refine ⟨_, (pss_one (ps_ret (pe_callB (kAll K rfl) (by rfl) E.f_all (by decide +kernel) (pa_cons (pe_lc (own := [("place", 1)]) (g := gName 1) (tt := tYes) rfl nd (pi_range1 (by rfl) E.f_range (pa_cons (pe_op xSub (pe_callB (kLen K) (by rfl) E.f_len (by decide +kernel) (pa_cons (pv 0) pa_nil)) (pe_int)) pa_nil)) (blkOk_by (N := N_is_rising) (sc := defScope s_is_rising) (by decide +kernel)) (fun _ _ _ _ _ => pg_name (i := 1) nd rfl (Or.inl rfl)) (fun _ _ _ _ _ => pts_nil) (fun _ _ _ _ _ => pe_cmpR op_le (pe_ix (kIx K) (pv 0) (pv 1) (fun _ _ => rfl)) (pe_ix (kIx K) (pv 0) (pe_op (kAdd K) (pv 1) (pe_int)) (fun _ _ => rfl)) (nomark _))) pa_nil)))), ?_⟩
  change (_ : TS) _ [some v0, none] H
  try dsimp only [cxOf, Cx.nox, Cx.blk]
  obtain ⟨b, ns, hd, hri, hz, k⟩ := h
  obtain ⟨a, rfl, hs⟩ := dp_seqI hd
  have fin : ∀ (p : Addr) (H2 : Hp), Ex H H2 → H2 p = some (.lst ((List.range ((ns.length : Int) - 1).toNat).map fun _ => V.bl true)) → rAll K [.ref p] H2 (fun v H => Q v H) := fun p H2 e2 hp => by
    refine r_all (bs := (List.range ((ns.length : Int) - 1).toNat).map fun _ => true) (sq_of hp) (by simp [Function.comp]) ?_
    have : ((List.range ((ns.length : Int) - 1).toNat).map fun _ => true).all id = true := by simp
    rw [this]
    exact k.bl e2
  have cmp : ∀ j : Nat, j < ((ns.length : Int) - 1).toNat → decide (gI ns j ≤ gI ns (j + 1)) = true := fun j hj => decide_eq_true (hri j (by omega))
  rcases hs with ⟨rfl, s⟩ | ⟨rfl, s⟩
  all_goals
    walk_at "w"
    refine lcJ_r0 (v := fun _ => .bl true) (by omega) (fun x => [_, some x]) (fun x => rfl) (fun x => rfl) (fun j H2 Q' e2 hj hq => ?_) (fun p H2 n2 e2 hp => ?_)
    · walk_at "w"
      rw [cmp j hj]
      exact hq _ (Ex.refl _)
    · walk_at "w"
      exact fin p H2 e2 hp

end
section
abbrev spDeep (K : PySem.W.Frag) (n : Nat) : Sp := sp1 fun v H Q _ => ∃ d, Dp K H v d ∧ shp n d = true ∧ RetD K (dDeep d) H Q
abbrev N_deep : List Str := ["thing", "one"]
theorem sc_deep : FnScope N_deep ["thing"] (defScope s_deep) := ⟨rfl, rfl, rfl, by decide +kernel, rfl, by decide +kernel, by decide +kernel⟩
--derivation of deep:
theorem deep_step {P : Program} {w : World} {K : PySem.W.Frag} {mg : Str → Option Value} {base : Heap} (E : Env P K mg) {k n : Nat} {sp : Sp} (hk1 : 1 ≤ k) (IH : Fn P w K mg base CX0 k "deep" sp)
    (hsp : ∀ (m : Nat), n = m + 1 → sp = spDeep K m) : Fn P w K mg base CX0 (k + 1) "deep" (spDeep K n) := by
  obtain ⟨fd, F⟩ := E.dd_deep
  refine Fn.mk0 F E.g_deep sc_deep sp1_len (fun _ _ _ _ _ _ us hl => match us, hl with | [_], _ => rfl) (fun cdv A outer s H vs Q X hr h => ?_)
  have nd := sc_deep.nd
  obtain ⟨v0, rfl, h⟩ := h
  refine ⟨_, (pss_cons (ps_if (kTru K (pc (ok_is_listed E) hr (by omega) pass0 rfl (pa_cons (pv 0) pa_nil)) (by intro _; rfl))
   (pss_one (ps_ret (pe_callTy (kTup K) (by rfl) E.f_tuple (by decide +kernel) (pa_cons (pe_lc (own := [("one", 1)]) (g := gName 1) (tt := tYes) rfl nd (kSeq K (pv 0)) (blkOk_by (N := N_deep) (sc := defScope s_deep) (by decide +kernel)) (fun _ _ _ _ _ => pg_name (i := 1) nd rfl (Or.inl rfl)) (fun _ _ _ _ _ => pts_nil) (fun _ _ _ _ _ => pc IH hr (by omega) pass0 rfl (pa_cons (pv 1) pa_nil))) pa_nil))))
   pss_nil)
  (pss_one (ps_ret (pv 0)))), ?_⟩
  change (_ : TS) _ [some v0, none] H
  obtain ⟨d, hd, hs, k⟩ := h
  walk_at "w"
  refine ⟨d, .inl hd, fun v H1 e1 d1 => ?_⟩
  obtain rfl := dp_toBl d1
  have h0 : ∀ (b : Bool), dIsSeq d = b → (b = false → dDeep d = d) := by
    intro b hb hb2
    subst hb2
    cases d with
    | list _ => exact nomatch hb
    | tuple _ => exact nomatch hb
    | dict _ => exact (dp_nodict hd).elim
    | _ => rfl
  cases hq : dIsSeq d with
  | false =>
    walk_at "w"
    rw [h0 false hq rfl] at k
    exact k _ _ e1 (dp_ex e1 hd)
  | true =>
    walk_at "w"
    cases n with
    | zero => cases d <;> first | (simp [dIsSeq] at hq; done) | (simp [shp] at hs; done)
    | succ n =>
      have esp := hsp n rfl
      subst esp
      have fin : ∀ (ds : List PyData) (p : Addr) (H2 : Hp) (ys : List V), dDeep d = .tuple (dDeepAll ds) → Ex H1 H2 → H2 p = some (.lst ys) → DpAll K H2 ys ((List.range ds.length).map fun i => dDeep (ds.getD i .none)) → ∀ (p3 : Addr) (H3 : Hp), Ex H2 H3 → SqT K H3 p3 ys → Q (.ref p3) H3 := fun ds p H2 ys he e2 hp hy p3 H3 e3 s3 => by
        rw [he] at k
        refine k _ _ (e1.trans (e2.trans e3)) (.tup s3 ?_)
        have el : (List.range ds.length).map (fun i => dDeep (ds.getD i .none)) = dDeepAll ds := by
          rw [dDeepAll_eq]
          apply List.ext_getElem
          · simp
          · intro i h1 h2
            simp at h1 h2
            simp [h2]
        rw [el] at hy
        exact dpAll_ex e3 hy
      have elt : ∀ (ds : List PyData) (xs : List V) (H1' : Hp) (i : Nat) (x : V) (Q' : VK) (h1 : DpAll K H xs ds) (hsh : shpAll n ds = true), Ex H H1' → xs[i]? = some x → (∀ y H2, Ex H1' H2 → Dp K H2 y (dDeep (ds.getD i .none)) → Q' y H2) → ∃ d, Dp K H1' x d ∧ shp n d = true ∧ RetD K (dDeep d) H1' Q' := by
        intro ds xs H1' i x Q' h1 hsh e hx hq
        obtain ⟨d', g1, g2⟩ := dpAll_get h1 hx
        refine ⟨d', dp_ex e g2, shpAll_get hsh g1, fun y H2 e2 d2 => hq y H2 e2 ?_⟩
        rw [List.getD_eq_getElem?_getD, g1]
        exact d2
      cases hd with
      | lst s a =>
        rename_i ad xs ds
        obtain ⟨hz, hsh⟩ := Bool.and_eq_true_iff.mp (show (decide (ds.length ≤ 50000) && shpAll n ds) = true from hs)
        have hz' := of_decide_eq_true hz
        have hl := dpAll_len a
        refine i_seqL ?_
        walk_at "w"
        refine lcD_list (fun i => dDeep (ds.getD i .none)) (fun i => imm_deep _) (ex_l e1 s) (by omega) (fun x => [_, some x]) (fun x => rfl) (fun x => rfl) (fun i x H2 Q' e2 hx hq => ?_) (fun p H2 ys n2 e2 hp hy => ?_)
        · walk_at "w"
          exact elt ds xs H2 i x Q' a hsh (e1.trans e2) hx hq
        · walk_at "w"
          rw [hl] at hy
          intro p3 H3 e3 s3
          exact fin ds p H2 ys rfl e2 hp hy p3 H3 e3 s3
      | tup s a =>
        rename_i ad xs ds
        obtain ⟨hz, hsh⟩ := Bool.and_eq_true_iff.mp (show (decide (ds.length ≤ 50000) && shpAll n ds) = true from hs)
        have hz' := of_decide_eq_true hz
        have hl := dpAll_len a
        refine i_seqT ?_
        walk_at "w"
        refine lcD_tup (fun i => dDeep (ds.getD i .none)) (fun i => imm_deep _) (ex_t e1 s) (by omega) (fun x => [_, some x]) (fun x => rfl) (fun x => rfl) (fun i x H2 Q' e2 hx hq => ?_) (fun p H2 ys n2 e2 hp hy => ?_)
        · walk_at "w"
          exact elt ds xs H2 i x Q' a hsh (e1.trans e2) hx hq
        · walk_at "w"
          rw [hl] at hy
          intro p3 H3 e3 s3
          exact fin ds p H2 ys rfl e2 hp hy p3 H3 e3 s3
      | _ => exact nomatch hq
theorem ok_deepN {P : Program} {w : World} {K : PySem.W.Frag} {mg : Str → Option Value} {base : Heap} (E : Env P K mg) : ∀ n : Nat, Fn P w K mg base CX0 (n + 2) "deep" (spDeep K n)
  | 0 => by
    obtain ⟨fd, F⟩ := E.dd_deep
    exact deep_step E (k := 1) (Nat.le_refl _) (Fn.never F E.g_deep (ps := ["thing"]) (fun _ _ _ _ _ _ us hl => match us, hl with | [_], _ => rfl)) (fun m e => nomatch e)
  | n + 1 => deep_step E (by omega) (ok_deepN E n) (fun m e => by cases e; rfl)
theorem ok_deep {P : Program} {w : World} {K : PySem.W.Frag} {mg : Str → Option Value} {base : Heap} (E : Env P K mg) : Fn P w K mg base CX0 8 "deep" (spDeep K 6) := ok_deepN E 6

end
section
/-- a head, a loop and a rise that make a table -/
structure Val (h l : List Int) (r : Int) : Prop where
  p1 : allPos h
  p2 : allPos l
  r1 : rising h
  r2 : rising l
  r0 : 0 ≤ r
  e0 : l = [] → r = 0
  hl : h ≠ [] → l ≠ [] → gI h (h.length - 1) ≤ gI l 0
  ll : l ≠ [] → gI l (l.length - 1) ≤ gI l 0 + r
  sm : RSm h l r
theorem dp_seqE {K : PySem.W.Frag} {H : Hp} {v : V} {b : Bool} {ns : List Int} (h : Dp K H v (dSeqI b ns)) : ∃ a, v = .ref a ∧ SqE K H a (vI ns) := by
  obtain ⟨a, e, h⟩ := dp_seqI h
  exact ⟨a, e, h.elim (fun h => .inr h.2) (fun h => .inl h.2)⟩
theorem deep_seq (b : Bool) (ns : List Int) : dDeep (dSeqI b ns) = dInts ns := by
  cases b <;> (show PyData.tuple (dDeepAll (ns.map .int)) = _; rw [dDeep_ints])
theorem shp_seq {b : Bool} {ns : List Int} (h : ns.length ≤ 50000) : shp 6 (dSeqI b ns) = true := by
  have key : ∀ ns : List Int, shpAll 5 (ns.map .int) = true := fun ns => by
    induction ns with
    | nil => rfl
    | cons n ns ih => show (shp 5 (.int n) && shpAll 5 (ns.map .int)) = true; rw [ih]; rfl
  cases b <;> (show (decide ((ns.map PyData.int).length ≤ 50000) && shpAll 5 (ns.map .int)) = true; rw [key, List.length_map, decide_eq_true h]; rfl)
noncomputable abbrev dPl (h l : List Int) (r : Int) : PyData := dRaw (plainF h l r).1 (plainF h l r).2.1 (plainF h l r).2.2
abbrev N_checked_table : List Str := ["head", "loop", "rise"]
theorem sc_checked_table : FnScope N_checked_table ["head", "loop", "rise"] (defScope s_checked_table) := ⟨rfl, rfl, rfl, by decide +kernel, rfl, by decide +kernel, by decide +kernel⟩
theorem ok_checked_table {P : Program} {w : World} {K : PySem.W.Frag} {mg : Str → Option Value} {base : Heap} (E : Env P K mg) : Fn P w K mg base CX0 9 "checked_table" (sp3 fun a b c H Q _ => ∃ b1 b2 h l r, Dp K H a (dSeqI b1 h) ∧ Dp K H b (dSeqI b2 l) ∧ Dp K H c (.int r) ∧ Val h l r ∧ RetD K (dPl h l r) H Q) := by
  obtain ⟨fd, F⟩ := E.dd_checked_table
  refine Fn.mk0 F E.g_checked_table sc_checked_table sp3_len (fun _ _ _ _ _ _ us hl => match us, hl with | [_, _, _], _ => rfl) (fun cdv A outer s H vs Q X hr h => ?_)
  have nd := sc_checked_table.nd
  obtain ⟨v0, v1, v2, rfl, h⟩ := h
  refine ⟨_, (pss_cut (ps_if (PW.pt (pw_or (pt_not (kTru K (pc (ok_is_counts E) hr (by decide) pass0 rfl (pa_cons (pv 0) pa_nil)) (by intro _; rfl))) (pw_or1 (pt_not (kTru K (pc (ok_is_rising E) hr (by decide) pass0 rfl (pa_cons (pv 0) pa_nil)) (by intro _; rfl))))))
   (pss_one (ps_never))
   pss_nil)
  (pss_cut (ps_if (PW.pt (pw_or (pt_not (kTru K (pc (ok_is_counts E) hr (by decide) pass0 rfl (pa_cons (pv 1) pa_nil)) (by intro _; rfl))) (pw_or1 (pt_not (kTru K (pc (ok_is_rising E) hr (by decide) pass0 rfl (pa_cons (pv 1) pa_nil)) (by intro _; rfl))))))
   (pss_one (ps_never))
   pss_nil)
  (pss_cut (ps_if (PW.pt (pw_and (pt_cmpR op_gt (pe_callB (kLen K) (by rfl) E.f_len (by decide +kernel) (pa_cons (pv 0) pa_nil)) (pe_int) (nomark _)) (pw_and (pt_cmpR op_gt (pe_callB (kLen K) (by rfl) E.f_len (by decide +kernel) (pa_cons (pv 1) pa_nil)) (pe_int) (nomark _)) (pw_and1 (pt_cmpR op_lt (pe_ix (kIx K) (pv 1) (pe_int) (fun _ _ => rfl)) (pe_ix (kIx K) (pv 0) (pe_un un_neg (pe_int)) (fun _ _ => rfl)) (nomark _))))))
   (pss_one (ps_never))
   pss_nil)
  (pss_cut (ps_if (PW.pt (pw_or (pt_not (kTru K (pc (ok_is_count E) hr (by decide) pass0 rfl (pa_cons (pv 2) pa_nil)) (by intro _; rfl))) (pw_or1 (PW.pt (pw_and (pt_cmpR (kEq K hr) (pe_callB (kLen K) (by rfl) E.f_len (by decide +kernel) (pa_cons (pv 1) pa_nil)) (pe_int) (nomark _)) (pw_and1 (pt_cmpR op_gt (pv 2) (pe_int) (nomark _))))))))
   (pss_one (ps_never))
   pss_nil)
  (pss_cut (ps_if (PW.pt (pw_and (pt_cmpR op_gt (pe_callB (kLen K) (by rfl) E.f_len (by decide +kernel) (pa_cons (pv 1) pa_nil)) (pe_int) (nomark _)) (pw_and1 (pt_cmpR op_gt (pe_ix (kIx K) (pv 1) (pe_un un_neg (pe_int)) (fun _ _ => rfl)) (pe_op (kAdd K) (pe_ix (kIx K) (pv 1) (pe_int) (fun _ _ => rfl)) (pv 2)) (nomark _)))))
   (pss_one (ps_never))
   pss_nil)
  (pss_one (ps_ret (pc (ok_plain_form E) hr (by decide) pass0 rfl (pa_cons (pc (ok_deep E) hr (by decide) pass0 rfl (pa_cons (pv 0) pa_nil)) (pa_cons (pc (ok_deep E) hr (by decide) pass0 rfl (pa_cons (pv 1) pa_nil)) (pa_cons (pv 2) pa_nil))))))))))), ?_⟩
  change (_ : TS) _ [some v0, some v1, some v2] H
  try dsimp only [cxOf, Cx.nox, Cx.blk]
  obtain ⟨b1, b2, h, l, r, d1, d2, d3, W, k⟩ := h
  obtain rfl := dp_toInt d3
  obtain ⟨z1, z2, z3, z4⟩ := W.sm
  have z5 := W.r0
  obtain ⟨a1, rfl, s1⟩ := dp_seqE d1
  obtain ⟨a2, rfl, s2⟩ := dp_seqE d2
  have hlast : h ≠ [] → l ≠ [] → gI h (-1 + h.length) ≤ gI l 0 := fun q1 q2 => by
    have := W.hl q1 q2
    rwa [show (h.length : Int) - 1 = -1 + h.length by omega] at this
  have llast : l ≠ [] → gI l (-1 + l.length) ≤ gI l 0 + r := fun q1 => by
    have := W.ll q1
    rwa [show (l.length : Int) - 1 = -1 + l.length by omega] at this
  have ne0 : ∀ {xs : List Int}, 0 < (xs.length : Int) → xs ≠ [] := fun q => List.length_pos_iff.mp (by omega)
  refine w_cut (M := fun σ' H' => σ' = [some (.ref a1), some (.ref a2), some (.int r)] ∧ Ex H H') ?_ ?_
  · walk_at "w"
    refine ⟨b1, h, d1, W.p1, z3, fun v H1 e1 q1 => ?_⟩
    obtain rfl := dp_toBl q1
    walk_at "w"
    refine ⟨b1, h, dp_ex e1 d1, W.r1, z3, fun v H2 e2 q1 => ?_⟩
    obtain rfl := dp_toBl q1
    walk_at "w"
    exact ⟨rfl, e1.trans e2⟩
  rintro σ' H0 ⟨rfl, e0⟩
  refine w_cut (M := fun σ' H' => σ' = [some (.ref a1), some (.ref a2), some (.int r)] ∧ Ex H H') ?_ ?_
  · walk_at "w"
    refine ⟨b2, l, dp_ex e0 d2, W.p2, z4, fun v H1 e1 q1 => ?_⟩
    obtain rfl := dp_toBl q1
    walk_at "w"
    refine ⟨b2, l, dp_ex (e0.trans e1) d2, W.r2, z4, fun v H2 e2 q1 => ?_⟩
    obtain rfl := dp_toBl q1
    walk_at "w"
    exact ⟨rfl, (e0.trans e1).trans e2⟩
  rintro σ' H1 ⟨rfl, e1⟩
  clear e0
  refine w_cut (M := fun σ' H' => σ' = [some (.ref a1), some (.ref a2), some (.int r)] ∧ Ex H H') ?_ ?_
  · walk_at "w"
    refine w_ite (fun q1 => ?_) (fun q1 => ?_)
    · walk_at "w"
      refine w_ite (fun q2 => ?_) (fun q2 => ?_)
      · have := hlast (ne0 q1) (ne0 q2)
        walk_at "w"
        exact ⟨rfl, e1⟩
      · walk_at "w"
        exact ⟨rfl, e1⟩
    · walk_at "w"
      exact ⟨rfl, e1⟩
  rintro σ' H2 ⟨rfl, e2⟩
  clear e1
  refine w_cut (M := fun σ' H' => σ' = [some (.ref a1), some (.ref a2), some (.int r)] ∧ Ex H H') ?_ ?_
  · walk_at "w"
    refine ⟨.int r, .int r, fun v H3 e3 q1 => ?_⟩
    rw [show dIsCount (.int r) = true from decide_eq_true z5] at q1
    obtain rfl := dp_toBl q1
    walk_at "w"
    refine w_ite (fun q1 => ?_) (fun q1 => ?_)
    · have := W.e0 (List.length_eq_zero_iff.mp (by omega))
      walk_at "w"
      exact ⟨rfl, e2.trans e3⟩
    · walk_at "w"
      exact ⟨rfl, e2.trans e3⟩
  rintro σ' H3 ⟨rfl, e3⟩
  clear e2
  refine w_cut (M := fun σ' H' => σ' = [some (.ref a1), some (.ref a2), some (.int r)] ∧ Ex H H') ?_ ?_
  · walk_at "w"
    refine w_ite (fun q1 => ?_) (fun q1 => ?_)
    · have := llast (ne0 q1)
      walk_at "w"
      exact ⟨rfl, e3⟩
    · walk_at "w"
      exact ⟨rfl, e3⟩
  rintro σ' H4 ⟨rfl, e4⟩
  clear e3
  walk_at "w"
  refine ⟨dSeqI b1 h, dp_ex e4 d1, shp_seq z3, fun v H5 e5 q5 => ?_⟩
  rw [deep_seq] at q5
  walk_at "w"
  refine ⟨dSeqI b2 l, dp_ex (e4.trans e5) d2, shp_seq z4, fun v2 H6 e6 q6 => ?_⟩
  rw [deep_seq] at q6
  walk_at "w"
  exact ⟨h, l, r, dp_ex e6 q5, q6, .int r, z5, W.sm, fun v H7 e7 q7 => k _ _ (by walk_at "ex") q7⟩

end
section
def tFlds (th tl : Addr) (r : Int) : List (Str × V) := putF "rise" (.int r) (putF "loop" (.ref tl) (putF "head" (.ref th) []))
theorem tn_hl : ¬ (("head" : Str) = "loop") := by decide +kernel
theorem tn_hr : ¬ (("head" : Str) = "rise") := by decide +kernel
theorem tn_lr : ¬ (("loop" : Str) = "rise") := by decide +kernel
theorem tFlds_head (th tl : Addr) (r : Int) : (tFlds th tl r).lookup ("head" : Str) = some (.ref th) := by
  unfold tFlds
  rw [lookup_putF, if_neg tn_hr, lookup_putF, if_neg tn_hl, lookup_putF, if_pos rfl]
theorem tFlds_loop (th tl : Addr) (r : Int) : (tFlds th tl r).lookup ("loop" : Str) = some (.ref tl) := by
  unfold tFlds
  rw [lookup_putF, if_neg tn_lr, lookup_putF, if_pos rfl]
theorem tFlds_rise (th tl : Addr) (r : Int) : (tFlds th tl r).lookup ("rise" : Str) = some (.int r) := by
  unfold tFlds
  rw [lookup_putF, if_pos rfl]
theorem putF_len (f : Str) (y : V) : ∀ fs : List (Str × V), (putF f y fs).length ≤ fs.length + 1
  | [] => Nat.le_refl _
  | (g, v) :: r => by
    show (if g = f then (g, y) :: r else (g, v) :: putF f y r).length ≤ _
    split
    · exact Nat.le_succ _
    · exact Nat.succ_le_succ (putF_len f y r)
/-- a table stands at x -/
def TabAt (K : PySem.W.Frag) (H : Hp) (x : Addr) (h l : List Int) (r : Int) : Prop := ∃ dx th tl, H x = some (.ins (He.ga K "Table") dx (tFlds th tl r)) ∧ SqT K H th (vI h) ∧ SqT K H tl (vI l)
theorem ex_tab {K : PySem.W.Frag} {H H' : Hp} {x : Addr} {h l : List Int} {r : Int} (e : Ex H H') (t : TabAt K H x h l r) : TabAt K H' x h l r := by
  obtain ⟨dx, th, tl, h1, h2, h3⟩ := t
  exact ⟨dx, th, tl, e _ _ h1, ex_t e h2, ex_t e h3⟩
section
variable {P : Program} {K : PySem.W.Frag} {mg : Str → Option Value} {H : Hp} {x : Addr} {h l : List Int} {r : Int} {Q : VK}
theorem r_tabHead (E : Env P K mg) (t : TabAt K H x h l r) (q : ∀ th, SqT K H th (vI h) → Q (.ref th) H) : GetF K "head" (.ref x) H Q := by
  obtain ⟨dx, th, tl, h1, h2, h3⟩ := t
  exact r_getF h1 E.c_Table E.na_Table_head (tFlds_head _ _ _) (q th h2)
theorem r_tabLoop (E : Env P K mg) (t : TabAt K H x h l r) (q : ∀ tl, SqT K H tl (vI l) → Q (.ref tl) H) : GetF K "loop" (.ref x) H Q := by
  obtain ⟨dx, th, tl, h1, h2, h3⟩ := t
  exact r_getF h1 E.c_Table E.na_Table_loop (tFlds_loop _ _ _) (q tl h3)
theorem r_tabRise (E : Env P K mg) (t : TabAt K H x h l r) (q : Q (.int r) H) : GetF K "rise" (.ref x) H Q := by
  obtain ⟨dx, th, tl, h1, h2, h3⟩ := t
  exact r_getF h1 E.c_Table E.na_Table_rise (tFlds_rise _ _ _) q
end
abbrev spInit (K : PySem.W.Frag) : Sp := sp4 fun x a b c H Q _ => ∃ p dx b1 b2 h l r, x = .ref p ∧ H p = some (.ins (He.ga K "Table") dx []) ∧ Dp K H a (dSeqI b1 h) ∧ Dp K H b (dSeqI b2 l) ∧ Dp K H c (.int r) ∧ Val h l r ∧ ∀ H', TabAt K H' p (plainF h l r).1 (plainF h l r).2.1 (plainF h l r).2.2 → (∀ a o, a ≠ p → H a = some o → H' a = some o) → Q .non H'
abbrev N_Table_init : List Str := ["self", "head", "loop", "rise", "told"]
theorem sc_Table_init : FnScope N_Table_init ["self", "head", "loop", "rise"] (defScope s_Table_init) := ⟨rfl, rfl, rfl, by decide +kernel, rfl, by decide +kernel, by decide +kernel⟩
theorem fx_Table_init {P : Program} {w : World} {K : PySem.W.Frag} {mg : Str → Option Value} {base : Heap} (E : Env P K mg) : ∃ fd, FunD K "__init__" "Table.__init__" (defArgs s_Table_init) (defBody s_Table_init) (defScope s_Table_init) (d_Table_init.dvs K) [] (d_Table_init.adr K) fd ∧ FnOk P w K mg base CX0 10 (d_Table_init.adr K) fd ["self", "head", "loop", "rise"] (spInit K) := by
  obtain ⟨fd, F⟩ := E.dd_Table_init
  refine ⟨fd, F, fnok0 F sc_Table_init sp4_len (fun cdv A outer s H vs Q X hr h => ?_)⟩
  have nd := sc_Table_init.nd
  obtain ⟨v0, v1, v2, v3, rfl, h⟩ := h
  refine ⟨_, (pss_cons (ps_set (i := 4) nd rfl (.inl rfl) (pc (ok_checked_table E) hr (by decide) pass0 rfl (pa_cons (pv 1) (pa_cons (pv 2) (pa_cons (pv 3) pa_nil)))))
  (pss_cons (kFldS K (ps_fld (pv 0) (pe_ix (kIx K) (pv 4) (pe_int) (fun _ _ => rfl)) rfl))
  (pss_cons (kFldS K (ps_fld (pv 0) (pe_ix (kIx K) (pv 4) (pe_int) (fun _ _ => rfl)) rfl))
  (pss_one (kFldS K (ps_fld (pv 0) (pe_ix (kIx K) (pv 4) (pe_int) (fun _ _ => rfl)) rfl)))))), ?_⟩
  change (_ : TS) _ [some v0, some v1, some v2, some v3, none] H
  try dsimp only [cxOf, Cx.nox, Cx.blk]
  obtain ⟨p, dx, b1, b2, h, l, r, rfl, hp, d1, d2, d3, W, k⟩ := h
  walk_at "w"
  refine ⟨b1, b2, h, l, r, d1, d2, d3, W, fun v H1 e1 q1 => ?_⟩
  obtain ⟨a, th, tl, rfl, s1, s2, s3⟩ := dp_raw q1
  have g1 : H1 p = some (.ins (He.ga K "Table") dx []) := e1 _ _ hp
  have nt : ∀ {a : Addr} {xs : List V} {H2 : Hp} {fs : List (Str × V)}, H2 p = some (.ins (He.ga K "Table") dx fs) → SqT K H2 a xs → ∀ o, SqT K (upd H2 p o) a xs := fun {a xs H2 fs} hp s o => by
    have key : ∀ u, H2 a = some u → (∃ o', u = .frz o' (.tup xs)) ∨ u = .tup xs → a ≠ p := by
      rintro u hu hc rfl
      rw [hp] at hu
      cases hu
      rcases hc with ⟨_, hc⟩ | hc <;> cases hc
    rcases s with (s | ⟨o', s⟩) | s
    · exact .inl (.inl (by rw [upd_ne (key _ s (.inr rfl))]; exact s))
    · exact .inl (.inr ⟨o', by rw [upd_ne (key _ s (.inl ⟨o', rfl⟩))]; exact s⟩)
    · exact .inr s
  have stp : ∀ {H2 : Hp} {fs : List (Str × V)} (o : HO), H2 p = some (.ins (He.ga K "Table") dx fs) → SqT K H2 a [.ref th, .ref tl, .int (plainF h l r).2.2] → SqT K H2 th (vI (plainF h l r).1) → SqT K H2 tl (vI (plainF h l r).2.1) →
      ∃ H3, upd H2 p o = H3 ∧ H3 p = some o ∧ SqT K H3 a [.ref th, .ref tl, .int (plainF h l r).2.2] ∧ SqT K H3 th (vI (plainF h l r).1) ∧ SqT K H3 tl (vI (plainF h l r).2.1) ∧ ∀ a u, a ≠ p → H2 a = some u → H3 a = some u :=
    fun {H2 fs} o hp t1 t2 t3 => ⟨_, rfl, upd_same, nt hp t1 o, nt hp t2 o, nt hp t3 o, fun a u ne e => by rw [upd_ne ne]; exact e⟩
  walk_at "w"
  refine r_putF g1 E.c_Table E.na_Table_head (by decide) ?_
  obtain ⟨H2, e2, g2, t1, t2, t3, k2⟩ := stp (.ins (He.ga K "Table") dx (putF "head" (.ref th) [])) g1 s1 s2 s3
  rw [e2]
  walk_at "w"
  refine r_putF g2 E.c_Table E.na_Table_loop (Nat.lt_of_le_of_lt (putF_len _ _ _) (by decide)) ?_
  obtain ⟨H3, e3, g3, t4, t5, t6, k3⟩ := stp (.ins (He.ga K "Table") dx (putF "loop" (.ref tl) (putF "head" (.ref th) []))) g2 t1 t2 t3
  rw [e3]
  walk_at "w"
  refine r_putF g3 E.c_Table E.na_Table_rise (Nat.lt_of_le_of_lt (Nat.le_trans (putF_len _ _ _) (Nat.succ_le_succ (putF_len _ _ _))) (by decide)) ?_
  obtain ⟨H4, e4, g4, t7, t8, t9, k4⟩ := stp (.ins (He.ga K "Table") dx (tFlds th tl (plainF h l r).2.2)) g3 t4 t5 t6
  refine k _ ⟨dx, th, tl, upd_same, ?_, ?_⟩ (fun a u ne e => ?_)
  · exact nt g3 t5 _
  · exact nt g3 t6 _
  · rw [upd_ne ne]
    exact k3 _ _ ne (k2 _ _ ne (e1 _ _ e))
/-- Table(..) made: from __init__'s promise to what a caller sees -/
theorem mk_tab {K : PySem.W.Frag} {H : Hp} {Q : VK} {a b c : V} {b1 b2 : Bool} {h l : List Int} {r : Int} {dvs ws : List V} (e : ws ++ dvs = [a, b, c]) (d1 : Dp K H a (dSeqI b1 h)) (d2 : Dp K H b (dSeqI b2 l)) (d3 : Dp K H c (.int r)) (W : Val h l r)
    (q : ∀ x H2, Ex H H2 → TabAt K H2 x (plainF h l r).1 (plainF h l r).2.1 (plainF h l r).2.2 → Q (.ref x) H2) :
    MakeI (He.ga K "Table") (spInit K) dvs E0 ws H Q := by
  intro x dx nx ndx ne
  rw [e]
  have ex : Ex H (upd (upd H dx (.own x)) x (.ins (He.ga K "Table") dx [])) := fun b o e => by
    rw [upd_ne (ne_of_none e nx), upd_ne (ne_of_none e ndx)]
    exact e
  refine ⟨_, _, _, _, rfl, x, dx, b1, b2, h, l, r, rfl, upd_same, dp_ex ex d1, dp_ex ex d2, dp_ex ex d3, W, fun H' t k => ⟨rfl, q x H' (fun b o e => ?_) t⟩⟩
  exact k b o (ne_of_none e nx) (ex b o e)
section
variable {P : Program} {w : World} {K : PySem.W.Frag} {mg : Str → Option Value} {base : Heap}
theorem ok_Table3 (E : Env P K mg) : Mkc P w K mg base CX0 10 "Table" (He.ga K "Table") (spInit K) [] := by
  obtain ⟨fd, F, k⟩ := fx_Table_init (P := P) (w := w) (base := base) E
  obtain ⟨ds, hd, hb⟩ := F.binds1 (ps := ["self", "head", "loop", "rise"]) 4 2 (List.cons_ne_nil _ _) rfl (fun T kV doc pm an cdv ct us its hu hi => match us, its, hu, hi with | [_, _, _, _], [_, _], _, _ => ⟨_, rfl, rfl⟩)
  exact ⟨_, fd, _, ds, E.mk_Table, k, E.g_Table, hb, hd⟩
end

end
section
section
variable {P : Program} {w : World} {K : PySem.W.Frag} {mg : Str → Option Value} {base : Heap}
theorem ok_Table2 (E : Env P K mg) : Mkc P w K mg base CX0 10 "Table" (He.ga K "Table") (spInit K) [.int 0] := by
  obtain ⟨fd, F, k⟩ := fx_Table_init (P := P) (w := w) (base := base) E
  obtain ⟨ds, hd, hb⟩ := F.binds1 (ps := ["self", "head", "loop", "rise"]) 3 1 (List.cons_ne_nil _ _) rfl (fun T kV doc pm an cdv ct us its hu hi => match us, its, hu, hi with | [_, _, _], [_, _], _, _ => ⟨_, rfl, rfl⟩)
  exact ⟨_, fd, _, ds, E.mk_Table, k, E.g_Table, hb, hd⟩
theorem ok_Table1 (E : Env P K mg) : Mkc P w K mg base CX0 10 "Table" (He.ga K "Table") (spInit K) [.ref (He.dflAt ("Table", some "__init__") 0 K), .int 0] := by
  obtain ⟨fd, F, k⟩ := fx_Table_init (P := P) (w := w) (base := base) E
  obtain ⟨ds, hd, hb⟩ := F.binds1 (ps := ["self", "head", "loop", "rise"]) 2 0 (List.cons_ne_nil _ _) rfl (fun T kV doc pm an cdv ct us its hu hi => match us, its, hu, hi with | [_, _], [_, _], _, _ => ⟨_, rfl, rfl⟩)
  exact ⟨_, fd, _, ds, E.mk_Table, k, E.g_Table, hb, hd⟩
end
local macro_rules | `(tactic| walk_at "hp") => `(tactic| first
  | with_reducible assumption
  | (with_reducible refine' ex_tab ?a ?b; (case a => with_reducible assumption); (case b => walk_at "hp")))
local macro_rules | `(tactic| walk_at "w2") => `(tactic| first
  | ((with_reducible refine' r_tabHead ?a ?b ?q); (case a => with_reducible assumption); (case b => walk_at "hp"))
  | ((with_reducible refine' r_tabLoop ?a ?b ?q); (case a => with_reducible assumption); (case b => walk_at "hp"))
  | ((with_reducible refine' r_tabRise ?a ?b ?q); (case a => with_reducible assumption); (case b => walk_at "hp")))
/-- gcd as the loop has it -/
def gcdI : Nat → Int → Int → Int
  | 0, a, _ => a
  | n + 1, a, b => if 0 < b then gcdI n b (a % b) else a
theorem tab_mine {K : PySem.W.Frag} {H : Hp} {x : Addr} {h l : List Int} {r : Int} (t : TabAt K H x h l r) : ∃ dx fs, H x = some (.ins (He.ga K "Table") dx fs) := by
  obtain ⟨dx, th, tl, h1, _⟩ := t
  exact ⟨dx, _, h1⟩
abbrev N_Table_call : List Str := ["self", "n"]
theorem sc_Table_call : FnScope N_Table_call ["self", "n"] (defScope s_Table_call) := ⟨rfl, rfl, rfl, by decide +kernel, rfl, by decide +kernel, by decide +kernel⟩
theorem fx_Table_call {P : Program} {w : World} {K : PySem.W.Frag} {mg : Str → Option Value} {base : Heap} (E : Env P K mg) : ∃ fd, FunD K "__call__" "Table.__call__" (defArgs s_Table_call) (defBody s_Table_call) (defScope s_Table_call) (d_Table_call.dvs K) [] (d_Table_call.adr K) fd ∧ FnOk P w K mg base CX0 3 (d_Table_call.adr K) fd ["self", "n"] (sp2 fun x n H Q _ => ∃ p h l r o, x = .ref p ∧ TabAt K H p h l r ∧ n = optV o ∧ (∀ i, o = some i → 0 ≤ i) ∧ RSm h l r ∧ RetD K (dOpt (valueAt h l r o)) H Q) := by
  obtain ⟨fd, F⟩ := E.dd_Table_call
  refine ⟨fd, F, fnok0 F sc_Table_call sp2_len (fun cdv A outer s H vs Q X hr h => ?_)⟩
  have nd := sc_Table_call.nd
  obtain ⟨v0, v1, rfl, h⟩ := h
  refine ⟨_, (pss_cons (ps_if (PW.pt (pw_and (pt_cmpR xIsNot (pv 1) (pe_non) (nomark _)) (pw_and1 (pt_not (kTru K (pc (ok_is_count E) hr (by decide) pass0 rfl (pa_cons (pv 1) pa_nil)) (by intro _; rfl))))))
   (pss_one (ps_never))
   pss_nil)
  (pss_one (ps_ret (pc (ok_value_at E) hr (by decide) pass0 rfl (pa_cons (pe_tup (pa_cons (kFld K (pv 0) rfl) (pa_cons (kFld K (pv 0) rfl) (pa_cons (kFld K (pv 0) rfl) pa_nil)))) (pa_cons (pv 1) pa_nil)))))), ?_⟩
  change (_ : TS) _ [some v0, some v1] H
  try dsimp only [cxOf, Cx.nox, Cx.blk]
  obtain ⟨p, h, l, r, o, rfl, ht, rfl, ho, hs, k⟩ := h
  cases o with
  | none =>
    simp only [optV]
    walk_at "w"
    intro th s1
    walk_at "w"
    intro tl s2
    walk_at "w"
    intro a H2 n2 e2 h2
    walk_at "w"
    exact ⟨h, l, r, none, dp_of_raw (st_of h2) (by walk_at "hp") (by walk_at "hp"), dp_of_opt (p := none), ho, hs, fun v H3 e3 d3 => k v H3 (by walk_at "ex") d3⟩
  | some i =>
    have hi := ho i rfl
    simp only [optV]
    walk_at "w"
    refine ⟨.int i, .int i, fun v H1 e1 d1 => ?_⟩
    rw [show dIsCount (.int i) = true from decide_eq_true hi] at d1
    obtain rfl := dp_toBl d1
    walk_at "w"
    intro th s1
    walk_at "w"
    intro tl s2
    walk_at "w"
    intro a H2 n2 e2 h2
    walk_at "w"
    exact ⟨h, l, r, some i, dp_of_raw (st_of h2) (by walk_at "hp") (by walk_at "hp"), dp_of_opt (p := some i), ho, hs, fun v H3 e3 d3 => k v H3 (by walk_at "ex") d3⟩
theorem ok_Table_call {P : Program} {w : World} {K : PySem.W.Frag} {mg : Str → Option Value} {base : Heap} (E : Env P K mg) : Cli P w K mg base 3 (He.ga K "Table") (sp2 fun x n H Q _ => ∃ p h l r o, x = .ref p ∧ TabAt K H p h l r ∧ n = optV o ∧ (∀ i, o = some i → 0 ≤ i) ∧ RSm h l r ∧ RetD K (dOpt (valueAt h l r o)) H Q) := by
  obtain ⟨fd, F, k⟩ := fx_Table_call (P := P) (w := w) (base := base) E
  exact ⟨_, fd, _, E.call_Table, k, F.bindsN (fun _ _ _ _ _ _ us hl => match us, hl with | [_, _], _ => rfl)⟩
/-- the pair of rise and length in lowest terms -/
def rateOf (l : List Int) (r : Int) : PyData := if l = [] then .none else .tuple [.int (r / Int.gcd l.length r), .int ((l.length : Int) / Int.gcd l.length r)]

end
section
abbrev N__law_pick : List Str := ["source", "many", "digit", "value"]
theorem sc__law_pick : FnScope N__law_pick ["source", "many"] (defScope s__law_pick) := ⟨rfl, rfl, rfl, by decide +kernel, rfl, by decide +kernel, by decide +kernel⟩
theorem ok__law_pick {P : Program} {w : World} {K : PySem.W.Frag} {mg : Str → Option Value} {base : Heap} (E : Env P K mg) : Fn P w K mg base CX0 1 "_law_pick" (sp2 fun s m H Q _ => ∃ (a : Addr) (n : Int), s = .ref a ∧ m = .int n ∧ 0 < n ∧ n < 4611686018427387904 ∧ SrcAt H a ∧ ∀ (r : Int) H', 0 ≤ r → r < n → SrcAt H' a → Fr a H H' → Q (.int r) H') := by
  obtain ⟨fd, F⟩ := E.dd__law_pick
  refine Fn.mk0 F E.g__law_pick sc__law_pick sp2_len (fun _ _ _ _ _ _ us hl => match us, hl with | [_, _], _ => rfl) (fun cdv A outer s H vs Q X hr h => ?_)
  have nd := sc__law_pick.nd
  obtain ⟨v0, v1, rfl, h⟩ := h
  refine ⟨_, (pss_cons (ps_if (pt_cmpR op_gt (pe_ix (kIx K) (pv 0) (pe_int) (fun _ _ => rfl)) (pe_int) (nomark _))
   (pss_cons (ps_set (i := 2) nd rfl (.inl rfl) (pe_op xMod (pe_callTy xInt (by rfl) E.f_int (by decide +kernel) (pa_cons (pe_ix (kIx K) (pv 0) (pe_int) (fun _ _ => rfl)) pa_nil)) (pv 1)))
  (pss_cons (ps_asg (pe_op xDiv (pe_ix (kIx K) (pv 0) (pe_int) (fun _ _ => rfl)) (pv 1)) (pg_sub (pv 0) (pe_int) set_list))
  (pss_one (ps_ret (pv 2)))))
   pss_nil)
  (pss_cons (ps_asg (pe_op (kAdd K) (pe_ix (kIx K) (pv 0) (pe_int) (fun _ _ => rfl)) (pe_int)) (pg_sub (pv 0) (pe_int) set_list))
  (pss_cons (ps_set (i := 3) nd rfl (.inl rfl) (pe_op xMod (pe_callTy xInt (by rfl) E.f_int (by decide +kernel) (pa_cons (pe_op (kMul K) (pe_op (kAdd K) (pe_ix (kIx K) (pv 0) (pe_int) (fun _ _ => rfl)) (pe_op (kMul K) (pe_int) (pe_ix (kIx K) (pv 0) (pe_int) (fun _ _ => rfl)))) (pe_int)) pa_nil)) (pe_int)))
  (pss_cons (ps_set (i := 3) nd rfl (.inl rfl) (pe_op xMod (pe_callTy xInt (by rfl) E.f_int (by decide +kernel) (pa_cons (pe_op (kAdd K) (pe_op (kAdd K) (pe_op (kMul K) (pv 3) (pv 3)) (pe_op (kMul K) (pe_int) (pe_ix (kIx K) (pv 0) (pe_int) (fun _ _ => rfl)))) (pe_ix (kIx K) (pv 0) (pe_int) (fun _ _ => rfl))) pa_nil)) (pe_int)))
  (pss_cons (ps_set (i := 3) nd rfl (.inl rfl) (pe_op xMod (pe_callTy xInt (by rfl) E.f_int (by decide +kernel) (pa_cons (pe_op (kAdd K) (pe_op (kMul K) (pv 3) (pe_int)) (pe_int)) pa_nil)) (pe_int)))
  (pss_cons (ps_set (i := 3) nd rfl (.inl rfl) (pe_op xMod (pe_callTy xInt (by rfl) E.f_int (by decide +kernel) (pa_cons (pe_op (kAdd K) (pe_op (kMul K) (pv 3) (pv 3)) (pv 3)) pa_nil)) (pe_int)))
  (pss_one (ps_ret (pe_op xMod (pe_callTy xInt (by rfl) E.f_int (by decide +kernel) (pa_cons (pe_op xDiv (pv 3) (pe_int)) pa_nil)) (pv 1)))))))))), ?_⟩
  change (_ : TS) _ [some v0, some v1, none, none] H
  try dsimp only [cxOf, Cx.nox, Cx.blk]
  obtain ⟨a, n, rfl, rfl, hn, hn2, hs, k⟩ := h
  obtain ⟨d, sd, c, h1, h2, h3, h4, h5⟩ := hs
  have s1 : SqL K H a [.int d, .int sd, .int c] := sq_of h1
  walk_at "w"
  by_cases c0 : 0 < d
  · walk_at "w"
    have hd0 : 0 ≤ d / n := Int.ediv_nonneg h2 (by omega)
    refine r_set (j := 0) h1 rfl ?_
    walk_at "w"
    exact k _ _ (Int.emod_nonneg _ (by omega)) (Int.emod_lt_of_pos _ hn) ⟨d / n, sd, c, upd_same, hd0, h3, h4, h5⟩ Fr.upd
  · walk_at "w"
    refine r_set (j := 2) h1 rfl ?_
    obtain ⟨H1, e1, g1, f1⟩ : ∃ H1, upd H a (.lst ([V.int d, .int sd, .int c].set 2 (.int (c + 1)))) = H1 ∧ H1 a = some (.lst [.int d, .int sd, .int (c + 1)]) ∧ Fr a H H1 := ⟨_, rfl, upd_same, Fr.upd⟩
    rw [e1]
    have s2 : SqL K H1 a [.int d, .int sd, .int (c + 1)] := sq_of g1
    walk_at "w"
    generalize hx1 : (sd + 104729 * (c + 1)) * 48271 % 2147483647 = x1
    have b1 : 0 ≤ x1 ∧ x1 < 2147483647 := by subst hx1; exact ⟨Int.emod_nonneg _ (by decide), Int.emod_lt_of_pos _ (by decide)⟩
    walk_at "w"
    generalize hx2 : (x1 * x1 + 7 * (c + 1) + sd) % 2147483629 = x2
    have b2 : 0 ≤ x2 ∧ x2 < 2147483629 := by subst hx2; exact ⟨Int.emod_nonneg _ (by decide), Int.emod_lt_of_pos _ (by decide)⟩
    walk_at "w"
    generalize hx3 : (x2 * 69621 + 5) % 2147483647 = x3
    have b3 : 0 ≤ x3 ∧ x3 < 2147483647 := by subst hx3; exact ⟨Int.emod_nonneg _ (by decide), Int.emod_lt_of_pos _ (by decide)⟩
    walk_at "w"
    exact k _ _ (Int.emod_nonneg _ (by omega)) (Int.emod_lt_of_pos _ hn) ⟨d, sd, c + 1, g1, h2, h3, h4, by omega⟩ f1

end
section
theorem bits_abs {z : Int} (h : Builtin.Int.intBits z ≤ 1048576) : ∃ n : Nat, n ≤ 1048577 ∧ z.natAbs < 2 ^ n := by
  refine ⟨z.natAbs.log2 + 1, ?_, Nat.lt_log2_self⟩
  unfold Builtin.Int.intBits at h
  split at h
  · rename_i h0
    have : z = 0 := by simpa using h0
    subst this
    decide
  · omega
theorem shl_of {z : Int} {j : Nat} (hj : j ≤ 100000) (hz : 0 ≤ z) (h : ∃ n : Nat, n ≤ 1048577 ∧ z.natAbs < 2 ^ n) (m : Nat) : CShl (z / 2 ^ m) (j : Int) := by
  obtain ⟨n, hn, hb⟩ := h
  refine shl_ok (n := n) (Nat.lt_of_le_of_lt ?_ hb) (by omega)
  have h1 : z / 2 ^ m ≤ z := Int.ediv_le_self _ hz
  have h2 : 0 ≤ z / 2 ^ m := Int.ediv_nonneg hz (Int.le_of_lt (Int.pow_pos (by decide)))
  omega
abbrev N__law_source : List Str := ["script", "place", "cell", "seed", "one", "number"]
theorem sc__law_source : FnScope N__law_source ["script", "place"] (defScope s__law_source) := ⟨rfl, rfl, rfl, by decide +kernel, rfl, by decide +kernel, by decide +kernel⟩
theorem ok__law_source {P : Program} {w : World} {K : PySem.W.Frag} {mg : Str → Option Value} {base : Heap} (E : Env P K mg) : Fn P w K mg base CX0 1 "_law_source" (sp2 fun s p H Q _ => ∃ (a : Addr) (ns : List Int) (i : Int), s = .ref a ∧ p = .int i ∧ SqL K H a (vI ns) ∧ (∀ z ∈ ns, Builtin.Int.intBits z ≤ 1048576) ∧ ns.length ≤ 63 ∧ 0 ≤ i ∧ i ≤ 100 ∧ ∀ x H', H x = none → Ex H H' → SrcAt H' x → Q (.ref x) H') := by
  obtain ⟨fd, F⟩ := E.dd__law_source
  refine Fn.mk0 F E.g__law_source sc__law_source sp2_len (fun _ _ _ _ _ _ us hl => match us, hl with | [_, _], _ => rfl) (fun cdv A outer s H vs Q X hr h => ?_)
  have nd := sc__law_source.nd
  obtain ⟨v0, v1, rfl, h⟩ := h
  refine ⟨_, (pss_cut (ps_set (i := 2) nd rfl (.inl rfl) (pe_ifExp (pt_cmpR op_lt (pv 1) (pe_callB (kLen K) (by rfl) E.f_len (by decide +kernel) (pa_cons (pv 0) pa_nil)) (nomark _)) (pe_ix (kIx K) (pv 0) (pv 1) (fun _ _ => rfl)) (pe_op (kAdd K) (pe_op (kMul K) (pe_int) (pv 1)) (pe_int))))
  (pss_cons (ps_set (i := 3) nd rfl (.inl rfl) (pe_op xMod (pe_callTy xInt (by rfl) E.f_int (by decide +kernel) (pa_cons (pe_op (kAdd K) (pe_op xMod (pe_callTy xInt (by rfl) E.f_int (by decide +kernel) (pa_cons (pv 2) pa_nil)) (pe_int)) (pe_op (kMul K) (pe_int) (pv 1))) pa_nil)) (pe_int)))
  (pss_cons (ps_for PassesOwn.never rfl (kSeq K (pe_slice (kSl K) (pv 0) po_none (po_some (pe_int)))) (pg_name (i := 4) nd rfl (.inl rfl))
   (pss_one (ps_set (i := 3) nd rfl (.inl rfl) (pe_op xMod (pe_callTy xInt (by rfl) E.f_int (by decide +kernel) (pa_cons (pe_op (kAdd K) (pe_op (kMul K) (pv 3) (pe_int)) (pe_op xMod (pe_callTy xInt (by rfl) E.f_int (by decide +kernel) (pa_cons (pv 4) pa_nil)) (pe_int))) pa_nil)) (pe_int)))))
  (pss_cons (ps_set (i := 5) nd rfl (.inl rfl) (pe_callB xAbs (by rfl) E.f_abs (by decide +kernel) (pa_cons (pv 2) pa_nil)))
  (pss_cons (ps_if (pt_cmpR op_lt (pv 5) (pe_op xPow (pe_int) (pe_int)) (nomark _))
   (pss_one (ps_ret (pe_lst (pa_cons (pe_int) (pa_cons (pv 3) (pa_cons (pe_int) pa_nil))))))
   pss_nil)
  (pss_cons (ps_if (pt_cmpR op_gt (pe_op xShr (pv 5) (pe_int)) (pe_int) (nomark _))
   (pss_one (ps_set (i := 5) nd rfl (.inl rfl) (pe_op xSub (pv 5) (pe_op xShl (pe_op xShr (pv 5) (pe_int)) (pe_int)))))
   pss_nil)
  (pss_one (ps_ret (pe_lst (pa_cons (pv 5) (pa_cons (pv 3) (pa_cons (pe_int) pa_nil)))))))))))), ?_⟩
  change (_ : TS) _ [some v0, some v1, none, none, none, none] H
  try dsimp only [cxOf, Cx.nox, Cx.blk]
  obtain ⟨a, ns, i, rfl, rfl, s0, hb, hz, hi, hi2, k⟩ := h
  have fin : ∀ (cell seed : Int) (H1 : Hp) (v : Option V), Ex H H1 → (∃ n : Nat, n ≤ 1048577 ∧ cell.natAbs < 2 ^ n) → 0 ≤ seed → seed < 2147483629 →
      tSeq (tAsg (tCB rAbsU (tCons (tVar 2) tNil)) (gName 5)) (tSeq (tIfS (tTest (tOp (rI0 fun i j => .bl (decide (i < j))) (tVar 5) (tOp rPow (tC (.int 10)) (tC (.int 18))))) (tRet (tLst (tCons (tC (.int 0)) (tCons (tVar 3) (tCons (tC (.int 0)) tNil))))) tNext)
        (tSeq (tIfS (tTest (tOp (rI0 fun i j => .bl (decide (j < i))) (tOp rShr (tVar 5) (tC (.int 4000))) (tC (.int 0)))) (tAsg (tOp rSubI (tVar 5) (tOp rShl (tOp rShr (tVar 5) (tC (.int 4000))) (tC (.int 4000)))) (gName 5)) tNext)
          (tRet (tLst (tCons (tVar 5) (tCons (tVar 3) (tCons (tC (.int 0)) tNil))))))) { nx := fun _ H' => Q .non H', rt := Q } [some (.ref a), some (.int i), some (.int cell), some (.int seed), v, none] H1 := by
    intro cell seed H1 v e1 hc h0 h1
    have ret : ∀ (d : Int), 0 ≤ d → NewL [.int d, .int seed, .int 0] H1 Q := fun d hd => w_newL (by walk_at "sz") fun p H2 n2 e2 h2 => k p H2 (fresh_back e1 n2) (e1.trans e2) ⟨d, seed, 0, h2, hd, h0, h1, Int.le_refl 0⟩
    repeat walk_at "w1"
    refine r_abs ?_
    repeat walk_at "w1"
    refine r_pow ⟨by decide, by decide, by decide⟩ ?_
    refine r_lt ?_
    repeat walk_at "w1"
    have hn0 : (0 : Int) ≤ (cell.natAbs : Int) := Int.natCast_nonneg _
    have hb : ∃ n : Nat, n ≤ 1048577 ∧ (cell.natAbs : Int).natAbs < 2 ^ n := hc
    generalize (10 : Int) ^ (18 : Int).toNat = B1
    generalize (cell.natAbs : Int) = num at *
    refine w_ite (fun _ => ?_) (fun _ => ?_)
    · repeat walk_at "w1"
      exact ret 0 (Int.le_refl 0)
    · repeat walk_at "w1"
      refine r_shr (by decide) ?_
      repeat walk_at "w1"
      refine r_gt ?_
      repeat walk_at "w1"
      refine w_ite (fun _ => ?_) (fun _ => ?_)
      · repeat walk_at "w1"
        refine r_shr (by decide) ?_
        repeat walk_at "w1"
        refine r_shl (shl_of (j := 4000) (by decide) hn0 hb _) ?_
        refine r_subI ?_
        repeat walk_at "w1"
        refine ret _ ?_
        have h4 : (4000 : Int).toNat = ((4000 : Nat) : Int).toNat := rfl
        generalize (4000 : Int).toNat = m at *
        rw [← h4]
        have h5 : num / 2 ^ m * 2 ^ m ≤ num := Int.ediv_mul_le num (Int.ne_of_gt (Int.pow_pos (by decide)))
        exact Int.sub_nonneg_of_le h5
      · repeat walk_at "w1"
        exact ret _ hn0
  refine w_cut (M := fun σ' H' => ∃ cell : Int, σ' = [some (.ref a), some (.int i), some (.int cell), none, none, none] ∧ H' = H ∧ ∃ n : Nat, n ≤ 1048577 ∧ cell.natAbs < 2 ^ n) ?_ ?_
  · walk_at "w"
    by_cases c : i < ns.length
    · walk_at "w"
      have hm : gI ns i ∈ ns := by
        unfold gI
        rw [List.getD_eq_getElem?_getD, List.getElem?_eq_getElem (show i.toNat < ns.length by omega)]
        exact List.getElem_mem _
      exact ⟨_, rfl, rfl, bits_abs (hb _ hm)⟩
    · walk_at "w"
      exact ⟨_, rfl, rfl, 10, by omega, by omega⟩
  rintro σ' H' ⟨cell, rfl, rfl, hc⟩
  walk_at "w"
  refine i_seqL ?_
  walk_at "w"
  intro p H1 n1 e1 h1
  walk_at "w"
  refine for_list (xs := vI (ns.take 2)) (Pv := fun _ σ' H2 => ∃ (sd : Int) (v : Option V), σ' = [some (.ref a), some (.int i), some (.int cell), some (.int sd), v, none] ∧ 0 ≤ sd ∧ sd < 2147483629 ∧ H2 = H1) ⟨_, _, rfl, Int.emod_nonneg _ (by decide), Int.emod_lt_of_pos _ (by decide), rfl⟩ (fun _ _ H2 _ q => by obtain ⟨_, _, _, _, _, rfl⟩ := q; exact sq_of h1) ?_ ?_
  · rintro j x σ' H2 hx ⟨sd, v, rfl, g0, g1, rfl⟩
    obtain ⟨z, _, rfl⟩ := List.mem_map.mp (List.mem_of_getElem? hx)
    walk_at "w"
    exact ⟨_, _, rfl, Int.emod_nonneg _ (by decide), Int.emod_lt_of_pos _ (by decide), rfl⟩
  · rintro σ' H2 ⟨sd, v, rfl, g0, g1, rfl⟩
    exact fin cell sd H2 v e1 hc g0 g1

end
section
/-- counts from lo on that do not fall, each step less than st -/
def Ris (ns : List Int) (lo st : Int) : Prop := rising ns ∧ (∀ n ∈ ns, lo ≤ n) ∧ ∀ n ∈ ns, n ≤ lo + ns.length * (st - 1)
theorem gI_app {ns : List Int} {v : Int} {i : Nat} : gI (ns ++ [v]) i = if i < ns.length then gI ns i else if i = ns.length then v else 0 := by
  unfold gI
  rw [Int.toNat_natCast, List.getD_eq_getElem?_getD, List.getD_eq_getElem?_getD]
  by_cases h : i < ns.length
  · rw [List.getElem?_append_left h, if_pos h]
  · rw [List.getElem?_append_right (by omega), if_neg h]
    by_cases h2 : i = ns.length
    · subst h2; simp
    · rw [if_neg h2, List.getElem?_eq_none (by simp; omega)]; rfl
theorem rising_app {ns : List Int} {v : Int} (h : rising ns) (hv : ∀ n ∈ ns, n ≤ v) : rising (ns ++ [v]) := by
  intro i hi
  rw [List.length_append, List.length_singleton] at hi
  have e : ((i : Int) + 1) = ((i + 1 : Nat) : Int) := rfl
  rw [e, gI_app, gI_app, if_pos (by omega)]
  by_cases h2 : i + 1 < ns.length
  · rw [if_pos h2]; exact h i h2
  · rw [if_neg h2, if_pos (by omega)]
    refine hv _ ?_
    unfold gI
    rw [Int.toNat_natCast, List.getD_eq_getElem?_getD, List.getElem?_eq_getElem (show i < ns.length by omega)]
    exact List.getElem_mem _

end
section
abbrev N__law_is_integer : List Str := ["thing"]
theorem sc__law_is_integer : FnScope N__law_is_integer ["thing"] (defScope s__law_is_integer) := ⟨rfl, rfl, rfl, by decide +kernel, rfl, by decide +kernel, by decide +kernel⟩
theorem ok__law_is_integer {P : Program} {w : World} {K : PySem.W.Frag} {mg : Str → Option Value} {base : Heap} (E : Env P K mg) : Fn P w K mg base CX0 1 "_law_is_integer" (sp1 fun v H Q _ => ∃ d, Dp K H v d ∧ RetD K (.bool (dIsInt d)) H Q) := by
  obtain ⟨fd, F⟩ := E.dd__law_is_integer
  refine Fn.mk0 F E.g__law_is_integer sc__law_is_integer sp1_len (fun _ _ _ _ _ _ us hl => match us, hl with | [_], _ => rfl) (fun cdv A outer s H vs Q X hr h => ?_)
  have nd := sc__law_is_integer.nd
  obtain ⟨v0, rfl, h⟩ := h
  refine ⟨_, (pss_one (ps_ret (pe_and (pe_callB (kIsi K) (by rfl) E.f_isinstance (by decide +kernel) (pa_cons (pv 0) (pa_cons (pe_bltn (v := .ty "int") (by rfl) E.f_int (by decide +kernel) rfl) pa_nil))) (pe_one (pe_not (pe_callB (kIsi K) (by rfl) E.f_isinstance (by decide +kernel) (pa_cons (pv 0) (pa_cons (pe_bltn (v := .ty "bool") (by rfl) E.f_bool (by decide +kernel) rfl) pa_nil)))))))), ?_⟩
  change (_ : TS) _ [some v0] H
  try dsimp only [cxOf, Cx.nox, Cx.blk]
  obtain ⟨d, hd, k⟩ := h
  cases d with
  | dict x => exact (dp_nodict hd).elim
  | int i => cases hd; walk_at "w"; exact k.bl (by walk_at "ex")
  | _ => cases hd <;> (walk_at "w"; exact k.bl (by walk_at "ex"))
abbrev N__law_is_count : List Str := ["thing"]
theorem sc__law_is_count : FnScope N__law_is_count ["thing"] (defScope s__law_is_count) := ⟨rfl, rfl, rfl, by decide +kernel, rfl, by decide +kernel, by decide +kernel⟩
theorem ok__law_is_count {P : Program} {w : World} {K : PySem.W.Frag} {mg : Str → Option Value} {base : Heap} (E : Env P K mg) : Fn P w K mg base CX0 2 "_law_is_count" (sp1 fun v H Q _ => ∃ d, Dp K H v d ∧ RetD K (.bool (dIsCount d)) H Q) := by
  obtain ⟨fd, F⟩ := E.dd__law_is_count
  refine Fn.mk0 F E.g__law_is_count sc__law_is_count sp1_len (fun _ _ _ _ _ _ us hl => match us, hl with | [_], _ => rfl) (fun cdv A outer s H vs Q X hr h => ?_)
  have nd := sc__law_is_count.nd
  obtain ⟨v0, rfl, h⟩ := h
  refine ⟨_, (pss_one (ps_ret (pe_and (pc (ok__law_is_integer E) hr (by decide) pass0 rfl (pa_cons (pv 0) pa_nil)) (pe_one (pe_cmpR op_ge (pv 0) (pe_int) (nomark _)))))), ?_⟩
  change (_ : TS) _ [some v0] H
  try dsimp only [cxOf, Cx.nox, Cx.blk]
  obtain ⟨d, hd, k⟩ := h
  walk_at "w"
  refine ⟨d, hd, fun v H1 e1 d1 => ?_⟩
  obtain rfl := dp_toBl d1
  cases d with
  | int i => cases hd; walk_at "w"; exact k.bl (by walk_at "ex")
  | _ => walk_at "w"; exact k.bl (by walk_at "ex")
abbrev N__law_end : List Str := ["raw"]
theorem sc__law_end : FnScope N__law_end ["raw"] (defScope s__law_end) := ⟨rfl, rfl, rfl, by decide +kernel, rfl, by decide +kernel, by decide +kernel⟩
theorem ok__law_end {P : Program} {w : World} {K : PySem.W.Frag} {mg : Str → Option Value} {base : Heap} (E : Env P K mg) : Fn P w K mg base CX0 1 "_law_end" (sp1 fun v H Q _ => ∃ h l r, Dp K H v (dRaw h l r) ∧ RetD K (dOpt (endOf l r)) H Q) := by
  obtain ⟨fd, F⟩ := E.dd__law_end
  refine Fn.mk0 F E.g__law_end sc__law_end sp1_len (fun _ _ _ _ _ _ us hl => match us, hl with | [_], _ => rfl) (fun cdv A outer s H vs Q X hr h => ?_)
  have nd := sc__law_end.nd
  obtain ⟨v0, rfl, h⟩ := h
  refine ⟨_, (pss_cons (ps_if (PW.pt (pw_or (pt_cmpR (kEq K hr) (pe_callB (kLen K) (by rfl) E.f_len (by decide +kernel) (pa_cons (pe_ix (kIx K) (pv 0) (pe_int) (fun _ _ => rfl)) pa_nil)) (pe_int) (nomark _)) (pw_or1 (pt_cmpR op_gt (pe_ix (kIx K) (pv 0) (pe_int) (fun _ _ => rfl)) (pe_int) (nomark _)))))
   (pss_one (ps_ret (pe_non)))
   pss_nil)
  (pss_one (ps_ret (pe_ix (kIx K) (pe_ix (kIx K) (pv 0) (pe_int) (fun _ _ => rfl)) (pe_un un_neg (pe_int)) (fun _ _ => rfl))))), ?_⟩
  change (_ : TS) _ [some v0] H
  try dsimp only [cxOf, Cx.nox, Cx.blk]
  obtain ⟨hd, l, r, hD, k⟩ := h
  obtain ⟨a, th, tl, rfl, s1, s2, s3⟩ := dp_raw hD
  walk_at "w"
  by_cases h1 : l = []
  · subst h1
    walk_at "w"
    exact k.non (by walk_at "ex")
  · have h2 : 0 < l.length := List.length_pos_iff.mpr h1
    walk_at "w"
    unfold endOf at k
    by_cases h3 : 0 < r
    · walk_at "w"
      rw [if_pos (.inr h3)] at k
      exact k.non (by walk_at "ex")
    · walk_at "w"
      rw [if_neg (by rintro (h | h) <;> contradiction)] at k
      rw [show (l.length : Int) - 1 = -1 + l.length by omega] at k
      exact k.int (by walk_at "ex")
abbrev N__law_at : List Str := ["raw", "place", "rest"]
theorem sc__law_at : FnScope N__law_at ["raw", "place"] (defScope s__law_at) := ⟨rfl, rfl, rfl, by decide +kernel, rfl, by decide +kernel, by decide +kernel⟩
theorem ok__law_at {P : Program} {w : World} {K : PySem.W.Frag} {mg : Str → Option Value} {base : Heap} (E : Env P K mg) : Fn P w K mg base CX0 2 "_law_at" (spValueAt K) := by
  obtain ⟨fd, F⟩ := E.dd__law_at
  refine Fn.mk0 F E.g__law_at sc__law_at sp2_len (fun _ _ _ _ _ _ us hl => match us, hl with | [_, _], _ => rfl) (fun cdv A outer s H vs Q X hr h => ?_)
  have nd := sc__law_at.nd
  obtain ⟨v0, v1, rfl, h⟩ := h
  refine ⟨_, (pss_cons (ps_if (pt_cmpR xIs (pv 1) (pe_non) (nomark _))
   (pss_one (ps_ret (pc (ok__law_end E) hr (by decide) pass0 rfl (pa_cons (pv 0) pa_nil))))
   pss_nil)
  (pss_cons (ps_if (pt_cmpR (kEq K hr) (pv 1) (pe_int) (nomark _))
   (pss_one (ps_ret (pe_int)))
   pss_nil)
  (pss_cons (ps_if (pt_cmpR op_le (pv 1) (pe_callB (kLen K) (by rfl) E.f_len (by decide +kernel) (pa_cons (pe_ix (kIx K) (pv 0) (pe_int) (fun _ _ => rfl)) pa_nil)) (nomark _))
   (pss_one (ps_ret (pe_ix (kIx K) (pe_ix (kIx K) (pv 0) (pe_int) (fun _ _ => rfl)) (pe_op xSub (pv 1) (pe_int)) (fun _ _ => rfl))))
   pss_nil)
  (pss_cons (ps_if (pt_cmpR (kEq K hr) (pe_callB (kLen K) (by rfl) E.f_len (by decide +kernel) (pa_cons (pe_ix (kIx K) (pv 0) (pe_int) (fun _ _ => rfl)) pa_nil)) (pe_int) (nomark _))
   (pss_one (ps_ret (pe_non)))
   pss_nil)
  (pss_cons (ps_set (i := 2) nd rfl (.inl rfl) (pe_op xSub (pe_op xSub (pv 1) (pe_callB (kLen K) (by rfl) E.f_len (by decide +kernel) (pa_cons (pe_ix (kIx K) (pv 0) (pe_int) (fun _ _ => rfl)) pa_nil))) (pe_int)))
  (pss_one (ps_ret (pe_op (kAdd K) (pe_ix (kIx K) (pe_ix (kIx K) (pv 0) (pe_int) (fun _ _ => rfl)) (pe_op xMod (pv 2) (pe_callB (kLen K) (by rfl) E.f_len (by decide +kernel) (pa_cons (pe_ix (kIx K) (pv 0) (pe_int) (fun _ _ => rfl)) pa_nil))) (fun _ _ => rfl)) (pe_op (kMul K) (pe_ix (kIx K) (pv 0) (pe_int) (fun _ _ => rfl)) (pe_op xDiv (pv 2) (pe_callB (kLen K) (by rfl) E.f_len (by decide +kernel) (pa_cons (pe_ix (kIx K) (pv 0) (pe_int) (fun _ _ => rfl)) pa_nil)))))))))))), ?_⟩
  change (_ : TS) _ [some v0, some v1, none] H
  try dsimp only [cxOf, Cx.nox, Cx.blk]
  obtain ⟨hd, l, r, p, hD, hp, hn, hr1, k⟩ := h
  obtain ⟨a, th, tl, rfl, s1, s2, s3⟩ := dp_raw hD
  obtain ⟨r1, r2, r3, r4⟩ := hr1
  cases p with
  | none =>
    obtain rfl := dp_toNon hp
    walk_at "w"
    exact ⟨hd, l, r, hD, k⟩
  | some p =>
    obtain rfl := dp_toInt hp
    have hn0 := hn p rfl
    walk_at "w"
    have k' : RetD K (dOpt (vat hd l r p)) H Q := k
    unfold vat at k'
    by_cases h0 : p = 0
    · walk_at "w"
      rw [if_pos h0] at k'
      exact k'.int (by walk_at "ex")
    · rw [if_neg h0] at k'
      walk_at "w"
      by_cases h1 : p ≤ hd.length
      · rw [if_pos h1] at k'
        walk_at "w"
        exact k'.int (by walk_at "ex")
      · rw [if_neg h1] at k'
        walk_at "w"
        by_cases h2 : l = []
        · rw [if_pos h2] at k'
          subst h2
          walk_at "w"
          exact k'.non (by walk_at "ex")
        · rw [if_neg h2] at k'
          have h3 : 0 < l.length := List.length_pos_iff.mpr h2
          have h4 : (p - hd.length - 1) % l.length < l.length := Int.emod_lt_of_pos _ (by omega)
          have h5 : 0 ≤ (p - hd.length - 1) % l.length := Int.emod_nonneg _ (by omega)
          walk_at "w"
          exact k'.int (by walk_at "ex")
abbrev N__law_gcd : List Str := ["one", "other"]
theorem sc__law_gcd : FnScope N__law_gcd ["one", "other"] (defScope s__law_gcd) := ⟨rfl, rfl, rfl, by decide +kernel, rfl, by decide +kernel, by decide +kernel⟩
theorem ok__law_gcd {P : Program} {w : World} {K : PySem.W.Frag} {mg : Str → Option Value} {base : Heap} (E : Env P K mg) : Fn P w K mg base CX0 1 "_law_gcd" (sp2 fun a b H Q _ => ∃ i j : Int, a = .int i ∧ b = .int j ∧ 0 ≤ i ∧ 0 ≤ j ∧ Q (.int (Int.gcd i j)) H) := by
  obtain ⟨fd, F⟩ := E.dd__law_gcd
  refine Fn.mk0 F E.g__law_gcd sc__law_gcd sp2_len (fun _ _ _ _ _ _ us hl => match us, hl with | [_, _], _ => rfl) (fun cdv A outer s H vs Q X hr h => ?_)
  have nd := sc__law_gcd.nd
  obtain ⟨v0, v1, rfl, h⟩ := h
  refine ⟨_, (pss_cons (ps_while PassesOwn.never (pt_cmpR op_gt (pv 1) (pe_int) (nomark _))
   (pss_one (ps_par (i := 0) (j := 1) rfl nd rfl rfl (by decide) rfl rfl (pa_cons (pv 1) (pa_cons (pe_op xMod (pe_callTy xInt (by rfl) E.f_int (by decide +kernel) (pa_cons (pv 0) pa_nil)) (pv 1)) pa_nil)) rfl)))
  (pss_one (ps_ret (pv 0)))), ?_⟩
  change (_ : TS) _ [some v0, some v1] H
  try dsimp only [cxOf, Cx.nox, Cx.blk]
  obtain ⟨i, j, rfl, rfl, hi, hj, k⟩ := h
  walk_at "w"
  refine ⟨fun m σ' H' => ∃ a b : Int, σ' = [some (.int a), some (.int b)] ∧ H' = H ∧ 0 ≤ a ∧ 0 ≤ b ∧ b.toNat = m ∧ Int.gcd a b = Int.gcd i j, ⟨j.toNat, i, j, rfl, rfl, hi, hj, rfl, rfl⟩, ?_⟩
  rintro m σ' H' ⟨a, b, rfl, rfl, ha, hb, hm, hg⟩
  walk_at "w"
  by_cases c : 0 < b
  · walk_at "w"
    refine ⟨_, fun σ2 H2 h2 => h2, ?_⟩
    walk_at "w"
    refine ⟨_, _, rfl, ?_⟩
    have hlt := Int.emod_lt_of_pos a c
    have h0 := Int.emod_nonneg a (show b ≠ 0 by omega)
    refine ⟨(a % b).toNat, by omega, b, a % b, rfl, rfl, hb, h0, rfl, ?_⟩
    rw [← hg, Int.gcd_comm a b]
    obtain ⟨n, rfl⟩ := Int.eq_ofNat_of_zero_le ha
    obtain ⟨m, rfl⟩ := Int.eq_ofNat_of_zero_le hb
    show Nat.gcd m (n % m) = Nat.gcd m n
    rw [Nat.gcd_comm m n, Nat.gcd_comm m (n % m), Nat.gcd_comm n m, Nat.gcd_rec m n]
  · walk_at "w"
    have : b = 0 := by omega
    subst this
    rw [Int.gcd_zero_right] at hg
    have e : (Int.gcd i j : Int) = a := by rw [← hg]; omega
    rw [e] at k
    exact k

end
section
def Rng3 (R : It → Hp → Prop) (vs : List V) (H1 : Hp) : Prop := ∃ i j c n, vs = [V.int i, V.int j, V.int c] ∧ RgC i j c n ∧ R (Itc i c n) H1
theorem i_r3 {H : Hp} {ta : TA} {σ : L2.St} {R : It → Hp → Prop} (h : ta σ H fun vs H1 => Rng3 R vs H1) : iRng3 ta σ H R := h
theorem i_x3 {H : Hp} {i j c : Int} {n : Nat} {R : It → Hp → Prop} (hc : RgC i j c n) (h : R (Itc i c n) H) : Rng3 R [V.int i, V.int j, V.int c] H := ⟨i, j, c, n, rfl, hc, h⟩
theorem w_cont {D : Ends} {σ : L2.St} {H : Hp} (h : D.ct σ H) : tCont D σ H := h
/-- the cut of the row as the law has it: from c on, size s -/
def lcut (row : List Int) (s : Nat) (r : Int) : Nat → Nat
  | 0 => 0
  | c + 1 => if s < c + 1 ∧ gI row ((c : Int) - s) = gI row c - r then lcut row s r c else c + 1
theorem lcut_le (row : List Int) (s : Nat) (r : Int) : ∀ c, lcut row s r c ≤ c
  | 0 => Nat.le_refl _
  | c + 1 => by
    unfold lcut
    split
    · exact Nat.le_succ_of_le (lcut_le row s r c)
    · exact Nat.le_refl _
theorem lcut_ge (row : List Int) (s : Nat) (r : Int) : ∀ c, s ≤ c → s ≤ lcut row s r c
  | 0, h => h
  | c + 1, h => by
    unfold lcut
    split
    · rename_i q
      exact lcut_ge row s r c (by omega)
    · exact h
noncomputable def lawF (h l : List Int) (r : Int) : List Int × List Int × Int :=
  if l = [] then (h, [], 0) else
    ((h ++ (shortLoop l r).1).take (lcut (h ++ (shortLoop l r).1) (shortLoop l r).1.length (shortLoop l r).2 (h ++ (shortLoop l r).1).length - (shortLoop l r).1.length),
     ((h ++ (shortLoop l r).1).drop (lcut (h ++ (shortLoop l r).1) (shortLoop l r).1.length (shortLoop l r).2 (h ++ (shortLoop l r).1).length - (shortLoop l r).1.length)).take (shortLoop l r).1.length,
     (shortLoop l r).2)
section
variable {K : PySem.W.Frag} {H : Hp} {Q : VK}
theorem r_lstE {a : Addr} {xs : List V} (h : SqE K H a xs) (q : ∀ p H1, H p = none → Ex H H1 → H1 p = some (.lst xs) → Q (.ref p) H1) : rLstU K [.ref a] H Q := h.elim (fun h => r_lstL h q) (fun h => r_lstT h q)
theorem r_tupE {a : Addr} {xs : List V} (h : SqE K H a xs) (q : ∀ p H1, Ex H H1 → SqT K H1 p xs → Q (.ref p) H1) : rTupU K [.ref a] H Q := h.elim (fun h => r_tupL h q) (fun h => r_tupT h q)
theorem r_slEto {a : Addr} {xs : List Int} {i : Int} (h : SqE K H a (vI xs)) (h0 : 0 ≤ i) (q : ∀ p H1, Ex H H1 → SqE K H1 p (vI (xs.take i.toNat)) → Q (.ref p) H1) : rSl K (.ref a) none (some i) H Q := h.elim (fun h => r_slLto h h0 fun p H1 _ e g => q p H1 e (.inl (sq_of g))) (fun h => r_slTto h h0 fun p H1 e g => q p H1 e (.inr g))
theorem r_slEfrom {a : Addr} {xs : List Int} {i : Int} (h : SqE K H a (vI xs)) (h0 : 0 ≤ i) (q : ∀ p H1, Ex H H1 → SqE K H1 p (vI (xs.drop i.toNat)) → Q (.ref p) H1) : rSl K (.ref a) (some i) none H Q := h.elim (fun h => r_slLfrom h h0 fun p H1 _ e g => q p H1 e (.inl (sq_of g))) (fun h => r_slTfrom h h0 fun p H1 e g => q p H1 e (.inr g))
end
local macro_rules | `(tactic| walk_at "w2") => `(tactic| first
  | ((with_reducible refine' r_lstE ?a ?q); (case a => walk_at "hp"))
  | ((with_reducible refine' r_tupE ?a ?q); (case a => walk_at "hp"))
  | ((with_reducible refine' r_slEto ?a ?b ?q); (case a => walk_at "hp"); (case b => walk_at "om")))
abbrev N__law_plain : List Str := ["head", "loop", "rise", "size", "many", "turns", "step", "row", "cut", "k"]
theorem sc__law_plain : FnScope N__law_plain ["head", "loop", "rise"] (defScope s__law_plain) := ⟨rfl, rfl, rfl, by decide +kernel, rfl, by decide +kernel, by decide +kernel⟩
theorem ok__law_plain {P : Program} {w : World} {K : PySem.W.Frag} {mg : Str → Option Value} {base : Heap} (E : Env P K mg) : Fn P w K mg base CX0 1 "_law_plain" (sp3 fun a b c H Q _ => ∃ b1 b2 h l r, Dp K H a (dSeqI b1 h) ∧ Dp K H b (dSeqI b2 l) ∧ Dp K H c (.int r) ∧ 0 ≤ r ∧ RSm h l r ∧ RetD K (dRaw (lawF h l r).1 (lawF h l r).2.1 (lawF h l r).2.2) H Q) := by
  obtain ⟨fd, F⟩ := E.dd__law_plain
  refine Fn.mk0 F E.g__law_plain sc__law_plain sp3_len (fun _ _ _ _ _ _ us hl => match us, hl with | [_, _, _], _ => rfl) (fun cdv A outer s H vs Q X hr h => ?_)
  have nd := sc__law_plain.nd
  obtain ⟨v0, v1, v2, rfl, h⟩ := h
  refine ⟨_, (pss_cons (ps_if (pt_cmpR (kEq K hr) (pe_callB (kLen K) (by rfl) E.f_len (by decide +kernel) (pa_cons (pv 1) pa_nil)) (pe_int) (nomark _))
   (pss_one (ps_ret (pe_tup (pa_cons (pe_callTy (kTup K) (by rfl) E.f_tuple (by decide +kernel) (pa_cons (pv 0) pa_nil)) (pa_cons (pe_tup pa_nil) (pa_cons (pe_int) pa_nil))))))
   pss_nil)
  (pss_cons (ps_set (i := 3) nd rfl (.inl rfl) (pe_callB (kLen K) (by rfl) E.f_len (by decide +kernel) (pa_cons (pv 1) pa_nil)))
  (pss_cut (ps_for PassesOwn.never rfl (pi_range3 (by rfl) E.f_range (pa_cons (pe_callB (kLen K) (by rfl) E.f_len (by decide +kernel) (pa_cons (pv 1) pa_nil)) (pa_cons (pe_int) (pa_cons (pe_un un_neg (pe_int)) pa_nil)))) (pg_name (i := 4) nd rfl (.inr rfl))
   (pss_cons (ps_set (i := 5) nd rfl (.inl rfl) (pe_op xDiv (pe_callB (kLen K) (by rfl) E.f_len (by decide +kernel) (pa_cons (pv 1) pa_nil)) (pv 4)))
  (pss_cons (ps_if (PW.pt (pw_or (pt_cmpR (kNe K hr) (pe_op (kMul K) (pv 5) (pv 4)) (pe_callB (kLen K) (by rfl) E.f_len (by decide +kernel) (pa_cons (pv 1) pa_nil)) (nomark _)) (pw_or1 (pt_cmpR (kNe K hr) (pe_op xMod (pe_callTy xInt (by rfl) E.f_int (by decide +kernel) (pa_cons (pv 2) pa_nil)) (pv 5)) (pe_int) (nomark _)))))
   (pss_one (ps_continue))
   pss_nil)
  (pss_cons (ps_set (i := 6) nd rfl (.inr rfl) (pe_op xDiv (pv 2) (pv 5)))
  (pss_one (ps_if (kTru K (pe_callB (kAll K rfl) (by rfl) E.f_all (by decide +kernel) (pa_cons (pe_lc (own := [("k", 9)]) (g := gName 9) (tt := tYes) rfl nd (pi_range1 (by rfl) E.f_range (pa_cons (pe_op xSub (pe_callB (kLen K) (by rfl) E.f_len (by decide +kernel) (pa_cons (pv 1) pa_nil)) (pv 4)) pa_nil)) (blkOk_by (N := N__law_plain) (sc := defScope s__law_plain) (by decide +kernel)) (fun _ _ _ _ _ => pg_name (i := 9) nd rfl (Or.inl rfl)) (fun _ _ _ _ _ => pts_nil) (fun _ _ _ _ _ => pe_cmpR (kEq K hr) (pe_ix (kIx K) (pv 1) (pe_op (kAdd K) (pv 9) (pv 4)) (fun _ _ => rfl)) (pe_op (kAdd K) (pe_ix (kIx K) (pv 1) (pv 9) (fun _ _ => rfl)) (pv 6)) (nomark _))) pa_nil)) (by intro _; rfl))
   (pss_one (ps_set (i := 3) nd rfl (.inl rfl) (pv 4)))
   pss_nil))))))
  (pss_cons (ps_set (i := 2) nd rfl (.inl rfl) (pe_op xDiv (pv 2) (pe_op xDiv (pe_callB (kLen K) (by rfl) E.f_len (by decide +kernel) (pa_cons (pv 1) pa_nil)) (pv 3))))
  (pss_cons (ps_set (i := 7) nd rfl (.inl rfl) (pe_op (kAdd K) (pe_callTy (kLst K) (by rfl) E.f_list (by decide +kernel) (pa_cons (pv 0) pa_nil)) (pe_callTy (kLst K) (by rfl) E.f_list (by decide +kernel) (pa_cons (pe_slice (kSl K) (pv 1) po_none (po_some (pv 3))) pa_nil))))
  (pss_cons (ps_set (i := 8) nd rfl (.inl rfl) (pe_callB (kLen K) (by rfl) E.f_len (by decide +kernel) (pa_cons (pv 7) pa_nil)))
  (pss_cons (ps_while PassesOwn.never (PW.pt (pw_and (pt_cmpR op_gt (pv 8) (pv 3) (nomark _)) (pw_and1 (pt_cmpR (kEq K hr) (pe_ix (kIx K) (pv 7) (pe_op xSub (pe_op xSub (pv 8) (pe_int)) (pv 3)) (fun _ _ => rfl)) (pe_op xSub (pe_ix (kIx K) (pv 7) (pe_op xSub (pv 8) (pe_int)) (fun _ _ => rfl)) (pv 2)) (nomark _)))))
   (pss_one (ps_set (i := 8) nd rfl (.inl rfl) (pe_op xSub (pv 8) (pe_int)))))
  (pss_one (ps_ret (pe_tup (pa_cons (pe_callTy (kTup K) (by rfl) E.f_tuple (by decide +kernel) (pa_cons (pe_slice (kSl K) (pv 7) po_none (po_some (pe_op xSub (pv 8) (pv 3)))) pa_nil)) (pa_cons (pe_callTy (kTup K) (by rfl) E.f_tuple (by decide +kernel) (pa_cons (pe_slice (kSl K) (pv 7) (po_some (pe_op xSub (pv 8) (pv 3))) (po_some (pv 8))) pa_nil)) (pa_cons (pv 2) pa_nil))))))))))))), ?_⟩
  change (_ : TS) _ [some v0, some v1, some v2, none, none, none, none, none, none, none] H
  try dsimp only [cxOf, Cx.nox, Cx.blk]
  obtain ⟨b1, b2, h, l, r, hh, hl, hri, hr0, ⟨r1, r2, r3, r4⟩, k⟩ := h
  obtain ⟨th, rfl, s1⟩ := dp_seqE hh
  obtain ⟨tl, rfl, s2⟩ := dp_seqE hl
  obtain rfl := dp_toInt hri
  unfold lawF at k
  walk_at "w"
  by_cases hn : l = []
  · subst hn
    rw [if_pos rfl] at k
    walk_at "w"
    intro p0 H0 e0 s0
    walk_at "w"
    intro p1 H1 n1 e1 h1
    walk_at "w"
    intro p2 H2 n2 e2 h2
    exact k _ _ ((e0.trans e1).trans e2) (dp_of_raw (st_of h2) (ex_t e2 (ex_t e1 s0)) (ex_t e2 (st_of h1)))
  · rw [if_neg hn] at k
    have hl0 : 0 < l.length := List.length_pos_iff.mpr hn
    walk_at "w"
    refine w_cut (M := fun σ' H' => ∃ (s : Nat) (a b c : Option V), σ' = [some (.ref th), some (.ref tl), some (.int r), some (.int s), a, b, c, none, none, none] ∧ Ex H H' ∧ 1 ≤ s ∧ s ≤ l.length ∧ (s = l.length ∨ slOk l r s) ∧ ∀ j, 1 ≤ j → j < s → ¬ slOk l r j) ?_ ?_
    · walk_at "w"
      refine i_r3 ?_
      walk_at "w"
      have hrg : RgC (l.length : Int) 0 (-1) l.length := by
        have := RgC.neg (i := (l.length : Int)) (j := 0) (by omega) (by omega) (by omega) (by omega)
        rwa [show ((l.length : Int) - 0).toNat = l.length by omega] at this
      refine i_x3 (n := l.length) hrg ?_
      refine for_rangeC (lo := l.length) (c := -1) (n := l.length) (Pv := fun i σ' H' => ∃ (s : Nat) (a b c : Option V), σ' = [some (.ref th), some (.ref tl), some (.int r), some (.int s), a, b, c, none, none, none] ∧ Ex H H' ∧ 1 ≤ s ∧ s ≤ l.length ∧ (s = l.length ∨ slOk l r s) ∧ ∀ j, l.length < j + i → j < s → ¬ slOk l r j)
        ⟨l.length, _, _, _, rfl, Ex.refl H, by omega, Nat.le_refl _, .inl rfl, fun j h1 h2 => by omega⟩ ?_ ?_
      · rintro i σ' H' hi ⟨s, a, b, c, rfl, e, hs1, hs2, hs3, hnot⟩
        obtain ⟨m, hm⟩ : ∃ m : Nat, m + i = l.length := ⟨l.length - i, by omega⟩
        have hm0 : 0 < m := by omega
        rw [show ((l.length : Int) + (i : Int) * -1) = (m : Int) by omega]
        have hq : 0 < (l.length : Int) / m := Int.le_ediv_of_mul_le (by omega) (by omega)
        have hq2 : (l.length : Int) / m ≤ l.length := Int.ediv_le_self _ (by omega)
        have hme : (l.length : Int) % m + m * ((l.length : Int) / m) = l.length := Int.emod_add_mul_ediv ..
        have hno : ¬ slOk l r m → ∀ j, l.length < j + (i + 1) → j < s → ¬ slOk l r j := fun hn j h1 h2 => by
          by_cases hj : j = m
          · rw [hj]; exact hn
          · exact hnot j (by omega) h2
        walk_at "w"
        by_cases c1 : (l.length : Int) % m = 0
        · have c1' : (l.length : Int) / m * m = l.length := by rw [Int.mul_comm]; omega
          walk_at "w"
          by_cases c2 : r % ((l.length : Int) / m) = 0
          · walk_at "w"
            refine lcJ_r0 (v := fun i => .bl (decide (gI l (i + m) = gI l i + r / ((l.length : Int) / m)))) (by omega) (fun x => [_, _, _, _, _, _, _, _, _, some x]) (fun x => rfl) (fun x => rfl) (fun j H1 Q' e1 hj hq => ?_) (fun p H2 np e2 hp => ?_)
            · walk_at "w"
              exact hq H1 (Ex.refl _)
            · rw [map_bl_range] at hp
              walk_at "w"
              refine r_all (sq_of hp) rfl ?_
              rw [all_range]
              walk_at "w"
              by_cases c3 : ∀ j : Nat, j < ((l.length : Int) - m).toNat → gI l (j + m) = gI l j + r / ((l.length : Int) / m)
              · walk_at "w"
                exact ⟨m, _, _, _, rfl, e.trans e2, hm0, by omega, .inr ⟨c1, c2, fun j hj => c3 j (by omega)⟩, fun j h1 h2 => by omega⟩
              · walk_at "w"
                refine ⟨s, _, _, _, rfl, e.trans e2, hs1, hs2, hs3, hno fun h => c3 fun j hj => ?_⟩
                exact h.2.2 j (by omega)
          · walk_at "w"
            refine w_cont ?_
            exact ⟨s, _, _, _, rfl, e, hs1, hs2, hs3, hno fun h => c2 h.2.1⟩
        · have c1' : ¬ ((l.length : Int) / m * m = l.length) := by rw [Int.mul_comm]; omega
          walk_at "w"
          refine w_cont ?_
          exact ⟨s, _, _, _, rfl, e, hs1, hs2, hs3, hno fun h => c1 h.1⟩
      · rintro σ' H' ⟨s, a, b, c, rfl, e, hs1, hs2, hs3, hnot⟩
        exact ⟨s, a, b, c, rfl, e, hs1, hs2, hs3, fun j h1 h2 => hnot j (by omega) h2⟩
    rintro σ' H1 ⟨s, a, b, c, rfl, e1, hs1, hs2, hs3, hnot⟩
    have hsl : shortLoop l r = (l.take s, r / ((l.length : Int) / s)) := by
      by_cases q : s = l.length
      · rw [shortLoop_none (fun j h1 h2 => hnot j h1 (by omega)), q, List.take_length, Int.ediv_self (by omega), Int.ediv_one]
      · exact shortLoop_some hs1 (by omega) (hs3.resolve_left q) hnot
    have hq : 0 < (l.length : Int) / s := Int.le_ediv_of_mul_le (by omega) (by omega)
    have hq2 : (l.length : Int) / s ≤ l.length := Int.ediv_le_self _ (by omega)
    have hlen : (l.take s).length = s := by rw [List.length_take]; omega
    rw [hsl] at k
    dsimp only at k
    rw [hlen] at k
    walk_at "w"
    intro p2 H2 n2 e2 h2
    walk_at "w"
    intro p3 H3 e3 s3
    walk_at "w"
    intro p4 H4 n4 e4 h4
    rw [Int.toNat_natCast] at h4
    refine r_addL (e4 _ _ (e3 _ _ h2)) h4 (by walk_at "sz") fun p5 H5 n5 e5 h5 => ?_
    rw [show vI h ++ vI (l.take s) = vI (h ++ l.take s) from List.map_append.symm] at h5
    have hrl : (h ++ l.take s).length = h.length + s := by rw [List.length_append, hlen]
    generalize hrow : h ++ l.take s = row at *
    generalize hr' : r / ((l.length : Int) / s) = r' at *
    walk_at "w"
    refine ⟨fun m σ' H' => σ' = [some (.ref th), some (.ref tl), some (.int r'), some (.int s), a, b, c, some (.ref p5), some (.int (m : Int)), none] ∧ H' = H5 ∧ s ≤ m ∧ m ≤ row.length ∧ lcut row s r' row.length = lcut row s r' m, ⟨row.length, rfl, rfl, by omega, Nat.le_refl _, rfl⟩, ?_⟩
    rintro m σ' H' ⟨rfl, rfl, hm1, hm2, hc⟩
    walk_at "w"
    cases m with
    | zero => omega
    | succ m =>
      have fin : lcut row s r' (m + 1) = m + 1 → tRet (tTup (tCons (tCB (rTupU K) (tCons (tSl (rSl K) (tVar 7) tNoPart (tPart (tOp rSubI (tVar 8) (tVar 3)))) tNil)) (tCons (tCB (rTupU K) (tCons (tSl (rSl K) (tVar 7) (tPart (tOp rSubI (tVar 8) (tVar 3))) (tPart (tVar 8))) tNil)) (tCons (tVar 2) tNil))))
          { nx := fun _ H' => Q .non H', rt := Q } [some (.ref th), some (.ref tl), some (.int r'), some (.int s), a, b, c, some (.ref p5), some (.int ((m + 1 : Nat) : Int)), none] H' := by
        intro hf
        walk_at "w"
        intro p6 H6 n6 e6 h6
        walk_at "w"
        intro p7 H7 e7 s7
        walk_at "w"
        intro p8 H8 n8 e8 h8
        walk_at "w"
        intro p9 H9 e9 s9
        walk_at "w"
        intro p10 H10 n10 e10 h10
        rw [hc, hf] at k
        rw [show (((m + 1 : Nat) : Int) - s).toNat = m + 1 - s by omega] at s7 s9
        rw [show (((m + 1 : Nat) : Int) - (((m + 1 : Nat) : Int) - s)).toNat = s by omega] at s9
        exact k _ _ (by walk_at "ex") (dp_of_raw (st_of h10) (by walk_at "hp") (by walk_at "hp"))
      by_cases c1 : (s : Int) < ((m + 1 : Nat) : Int)
      · walk_at "w"
        rw [show ((m + 1 : Nat) : Int) - 1 = (m : Int) by omega]
        by_cases c2 : gI row ((m : Int) - s) = gI row m - r'
        · walk_at "w"
          refine ⟨_, fun σ2 H2 h2 => ⟨m, Nat.lt_succ_self m, h2⟩, ?_⟩
          walk_at "w"
          rw [show ((m + 1 : Nat) : Int) - 1 = (m : Int) by omega]
          refine ⟨rfl, rfl, by omega, by omega, ?_⟩
          rw [hc]
          exact if_pos ⟨by omega, c2⟩
        · refine w_dF c2 ?_
          exact fin (if_neg fun q => c2 q.2)
      · refine w_dF c1 ?_
        with_reducible refine w_bF rfl ?_
        exact fin (if_neg fun q => c1 (by omega))

end
section
/-- the loop going on both ways -/
def extL (l : List Int) (r : Int) (i : Int) : Int := gI l (i % l.length) + r * (i / l.length)
def Per (g : Int → Int) (s : Nat) (d : Int) : Prop := ∀ i : Int, g (i + s) = g i + d
theorem Per.mulN {g : Int → Int} {s : Nat} {d : Int} (p : Per g s d) : ∀ (z : Nat) (i : Int), g (i + s * z) = g i + d * z
  | 0, i => by simp
  | z + 1, i => by
    rw [show i + (s : Int) * ((z + 1 : Nat) : Int) = (i + s * z) + s by rw [Int.natCast_add, Int.mul_add]; omega, p, p.mulN z i, Int.natCast_add, Int.mul_add]
    omega
theorem Per.mul {g : Int → Int} {s : Nat} {d : Int} (p : Per g s d) (z i : Int) : g (i + s * z) = g i + d * z := by
  rcases Int.le_total 0 z with h | h
  · obtain ⟨n, rfl⟩ := Int.eq_ofNat_of_zero_le h
    exact p.mulN n i
  · obtain ⟨n, hn⟩ := Int.eq_ofNat_of_zero_le (show 0 ≤ -z by omega)
    obtain rfl : z = -(n : Int) := by omega
    have := p.mulN n (i + s * -(n : Int))
    rw [show i + (s : Int) * -(n : Int) + s * n = i by rw [Int.mul_neg]; omega] at this
    rw [this, Int.mul_neg, Int.mul_neg]
    omega
theorem Per.ext {g g' : Int → Int} {s : Nat} {d : Int} (hs : 1 ≤ s) (p : Per g s d) (p' : Per g' s d) (h : ∀ k : Nat, k < s → g k = g' k) (i : Int) : g i = g' i := by
  have e : i % s + s * (i / s) = i := Int.emod_add_mul_ediv ..
  have h0 := Int.emod_nonneg i (show (s : Int) ≠ 0 by omega)
  have h1 := Int.emod_lt_of_pos i (show (0 : Int) < s by omega)
  obtain ⟨k, hk⟩ := Int.eq_ofNat_of_zero_le h0
  rw [← e, p.mul, p'.mul, hk, h k (by omega)]
theorem Per.shift {g : Int → Int} {s : Nat} {d : Int} (p : Per g s d) (m : Int) : Per (fun i => g (i + m)) s d := fun i => by
  show g (i + s + m) = g (i + m) + d
  rw [show i + (s : Int) + m = i + m + s by omega, p]
theorem Per.unshift {g : Int → Int} {s : Nat} {d : Int} (m : Int) (p : Per (fun i => g (i + m)) s d) : Per g s d := fun i => by
  have := p (i - m)
  simp only at this
  rwa [show i - m + (s : Int) + m = i + s by omega, show i - m + m = i by omega] at this
theorem Per.val {g : Int → Int} {s : Nat} {d : Int} (p : Per g s d) : g s - g 0 = d := by
  have := p 0
  rw [Int.zero_add] at this
  omega
theorem extL_per {l : List Int} {r : Int} (hl : l ≠ []) : Per (extL l r) l.length r := fun i => by
  have h0 : 0 < l.length := List.length_pos_iff.mpr hl
  unfold extL
  rw [Int.add_emod_right, Int.add_ediv_of_dvd_right (Int.dvd_refl _), Int.ediv_self (by omega), Int.mul_add]
  omega
theorem extL_small {l : List Int} {r : Int} {k : Nat} (h : k < l.length) : extL l r k = gI l k := by
  unfold extL
  rw [Int.emod_eq_of_lt (by omega) (by omega), Int.ediv_eq_zero_of_lt (by omega) (by omega)]
  omega
theorem bkV_ext {l : List Int} {r : Int} (hl : l ≠ []) (back : Int) : bkV l r back = extL l r (-1 - back) := by
  have h0 : 0 < l.length := List.length_pos_iff.mpr hl
  have e : back % l.length + l.length * (back / l.length) = back := Int.emod_add_mul_ediv ..
  have h1 := Int.emod_nonneg back (show (l.length : Int) ≠ 0 by omega)
  have h2 := Int.emod_lt_of_pos back (show (0 : Int) < l.length by omega)
  have e2 : -1 - back = (-1 - back % l.length + l.length) + l.length * (-(back / l.length) - 1) := by
    rw [Int.mul_sub, Int.mul_neg]
    omega
  unfold extL bkV
  generalize back % (l.length : Int) = t at *
  generalize back / (l.length : Int) = q at *
  rw [e2, Int.add_mul_emod_self_left, Int.add_mul_ediv_left _ _ (by omega), Int.emod_eq_of_lt (by omega) (by omega), Int.ediv_eq_zero_of_lt (by omega) (by omega), Int.zero_add, Int.mul_sub, Int.mul_add, Int.mul_neg]
  omega
/-- the value behind j others -/
def fV (h l : List Int) (r : Int) (j : Nat) : Int := if j < h.length then gI h j else extL l r ((j : Int) - h.length)
theorem vat_fV {h l : List Int} {r : Int} (hl : l ≠ []) (j : Nat) : vat h l r ((j : Int) + 1) = some (fV h l r j) := by
  unfold vat fV
  rw [if_neg (by omega), if_neg hl]
  by_cases c : j < h.length
  · rw [if_pos (by omega), if_pos c, show (j : Int) + 1 - 1 = j by omega]
  · rw [if_neg (by omega), if_neg c]
    unfold extL
    rw [show (j : Int) + 1 - h.length - 1 = j - h.length by omega]
theorem fV_head {h l : List Int} {r : Int} {j : Nat} (c : j < h.length) : fV h l r j = gI h j := if_pos c
theorem fV_loop {h l : List Int} {r : Int} {j : Nat} (c : h.length ≤ j) : fV h l r j = extL l r ((j : Int) - h.length) := if_neg (by omega)
theorem slOk_per {l : List Int} {r : Int} {m : Nat} (hl : l ≠ []) (hm : 1 ≤ m) (h : slOk l r m) : Per (extL l r) m (r / ((l.length : Int) / m)) := by
  obtain ⟨h1, h2, h3⟩ := h
  have h0 : 0 < l.length := List.length_pos_iff.mpr hl
  obtain ⟨q, hq⟩ : m ∣ l.length := Int.natCast_dvd_natCast.mp (Int.dvd_of_emod_eq_zero h1)
  have hqL : (l.length : Int) / m = q := by
    rw [hq, Int.natCast_mul, Int.mul_ediv_cancel_left _ (by omega)]
  rw [hqL] at h2 h3 ⊢
  have hq0 : 0 < q := by
    rcases Nat.eq_zero_or_pos q with e | e
    · rw [e, Nat.mul_zero] at hq; omega
    · exact e
  obtain ⟨d, hd⟩ := Int.dvd_of_emod_eq_zero h2
  have hdq : r / (q : Int) = d := by rw [hd, Int.mul_ediv_cancel_left _ (by omega)]
  rw [hdq] at h3 ⊢
  have run : ∀ (k u : Nat), u + m * k < l.length → gI l ((u + m * k : Nat) : Int) = gI l u + d * k := by
    intro k
    induction k with
    | zero => intro u _; simp
    | succ k ih =>
      intro u hu
      rw [Nat.mul_add, Nat.mul_one, ← Nat.add_assoc] at hu ⊢
      rw [Int.natCast_add, h3 (u + m * k) hu, ih u (by omega), Int.natCast_add, Int.mul_add]
      omega
  have P := extL_per (r := r) hl
  intro i
  have e : i % l.length + l.length * (i / l.length) = i := Int.emod_add_mul_ediv ..
  have g0 := Int.emod_nonneg i (show (l.length : Int) ≠ 0 by omega)
  have g1 := Int.emod_lt_of_pos i (show (0 : Int) < l.length by omega)
  obtain ⟨t, ht⟩ := Int.eq_ofNat_of_zero_le g0
  rw [ht] at e g1
  generalize i / l.length = z at e
  subst e
  rw [show (t : Int) + l.length * z + m = ((t + m : Nat) : Int) + l.length * z by omega, P.mul, P.mul, extL_small (k := t) (by omega)]
  by_cases c : t + m < l.length
  · rw [extL_small c, Int.natCast_add, h3 t c]
    omega
  · have hu : t + m = (t + m - l.length) + l.length := by omega
    obtain ⟨q', rfl⟩ : ∃ q', q = q' + 1 := ⟨q - 1, by omega⟩
    have hq' : l.length = m * q' + m := by rw [hq, Nat.mul_add, Nat.mul_one]
    rw [hu, Int.natCast_add, P, extL_small (by omega)]
    have := run q' (t + m - l.length) (by omega)
    rw [show t + m - l.length + m * q' = t by omega] at this
    rw [this, hd, Int.natCast_add, Int.add_mul, Int.mul_comm d]
    simp only [Int.natCast_one, Int.one_mul]
    generalize (q' : Int) * d = y
    omega
theorem per_slOk {l : List Int} {r d : Int} {m q : Nat} (hm : 1 ≤ m) (hq : 1 ≤ q) (hL : l.length = m * q) (hr : r = d * q) (p : Per (extL l r) m d) : slOk l r m ∧ r / ((l.length : Int) / m) = d := by
  have hqL : (l.length : Int) / m = q := by
    rw [hL, Int.natCast_mul, Int.mul_ediv_cancel_left _ (by omega)]
  have hrq : r / (q : Int) = d := by rw [hr, Int.mul_ediv_cancel _ (by omega)]
  refine ⟨⟨by rw [hL, Int.natCast_mul, Int.mul_emod_right], by rw [hqL, hr, Int.mul_emod_left], fun i hi => ?_⟩, by rw [hqL, hrq]⟩
  rw [hqL, hrq]
  have := p i
  rw [extL_small (by omega), ← Int.natCast_add, extL_small hi] at this
  exact this
theorem per_dvd {g : Int → Int} {s L : Nat} {d r : Int} (hs : 1 ≤ s) (p : Per g s d) (hmin : ∀ t, 1 ≤ t → t < s → ∀ d, ¬ Per g t d) (P : Per g L r) : L = s * (L / s) ∧ r = d * ((L / s : Nat) : Int) := by
  have e : s * (L / s) + L % s = L := Nat.div_add_mod ..
  have hlt := Nat.mod_lt L hs
  have hz : L % s = 0 := by
    rcases Nat.eq_zero_or_pos (L % s) with h | h
    · exact h
    · refine (hmin _ h hlt (r - d * ((L / s : Nat) : Int)) fun i => ?_).elim
      have h1 := P i
      have h2 := p.mulN (L / s) (i + ((L % s : Nat) : Int))
      rw [show i + ((L % s : Nat) : Int) + (s : Int) * ((L / s : Nat) : Int) = i + L by
        rw [← Int.natCast_mul]; omega] at h2
      omega
  refine ⟨by omega, ?_⟩
  have h1 := P 0
  have h2 := p.mulN (L / s) 0
  rw [show (0 : Int) + (s : Int) * ((L / s : Nat) : Int) = 0 + L by rw [← Int.natCast_mul]; omega] at h2
  omega
theorem least_nat {p : Nat → Prop} {n : Nat} (h : p n) : ∃ m, m ≤ n ∧ p m ∧ ∀ j, j < m → ¬ p j := by
  induction n using Nat.strongRecOn with
  | _ n ih =>
    by_cases q : ∃ j, j < n ∧ p j
    · obtain ⟨j, h1, h2⟩ := q
      obtain ⟨m, h3, h4⟩ := ih j h1 h2
      exact ⟨m, by omega, h4⟩
    · exact ⟨n, Nat.le_refl _, h, fun j h1 h2 => q ⟨j, h1, h2⟩⟩
theorem shortLoop_char {l : List Int} {r : Int} (hl : l ≠ []) : ∃ s : Nat, 1 ≤ s ∧ s ≤ l.length ∧ shortLoop l r = (l.take s, extL l r s - extL l r 0) ∧ Per (extL l r) s (extL l r s - extL l r 0) ∧ ∀ t, 1 ≤ t → t < s → ∀ d, ¬ Per (extL l r) t d := by
  have h0 : 0 < l.length := List.length_pos_iff.mpr hl
  have P := extL_per (r := r) hl
  obtain ⟨s, hs, ⟨hs1, d, p⟩, hmin⟩ := least_nat (p := fun s => 1 ≤ s ∧ ∃ d, Per (extL l r) s d) (n := l.length) ⟨h0, r, P⟩
  have hmin' : ∀ t, 1 ≤ t → t < s → ∀ d, ¬ Per (extL l r) t d := fun t h1 h2 d h => hmin t h2 ⟨h1, d, h⟩
  refine ⟨s, hs1, hs, ?_, by rw [p.val]; exact p, hmin'⟩
  rw [p.val]
  have hno : ∀ j, 1 ≤ j → j < s → ¬ slOk l r j := fun j h1 h2 h => hmin' j h1 h2 _ (slOk_per hl h1 h)
  obtain ⟨e1, e2⟩ := per_dvd hs1 p hmin' P
  have hq : 1 ≤ l.length / s := Nat.div_pos hs hs1
  obtain ⟨o1, o2⟩ := per_slOk hs1 hq e1 e2 p
  by_cases c : s < l.length
  · rw [shortLoop_some hs1 c o1 hno, o2]
  · obtain rfl : s = l.length := by omega
    rw [shortLoop_none hno, List.take_length, ← p.val, P.val]
theorem gI_take {l : List Int} {s k : Nat} (h : k < s) : gI (l.take s) k = gI l k := by
  unfold gI
  rw [Int.toNat_natCast, List.getD_eq_getElem?_getD, List.getD_eq_getElem?_getD, List.getElem?_take_of_lt h]
theorem extL_take {l : List Int} {r d : Int} {s : Nat} (h1 : 1 ≤ s) (hs : s ≤ l.length) (p : Per (extL l r) s d) (i : Int) : extL (l.take s) d i = extL l r i := by
  have hl : (l.take s).length = s := by rw [List.length_take]; omega
  have P := extL_per (l := l.take s) (r := d) (by intro e; rw [e] at hl; simp at hl; omega)
  rw [hl] at P
  refine P.ext h1 p (fun k hk => ?_) i
  rw [extL_small (by omega), extL_small (by omega), gI_take hk]
theorem cutH_eq {h l : List Int} {r : Int} : ∀ k, ∀ j, cutH h l r k ≤ j → j < k → gI h j = bkV l r ((h.length : Int) - (j + 1))
  | 0, j, _, h2 => by omega
  | k + 1, j, h1, h2 => by
    unfold cutH at h1
    split at h1
    · rename_i c
      by_cases e : j = k
      · subst e; exact c
      · exact cutH_eq k j h1 (by omega)
    · omega
theorem cutH_ne {h l : List Int} {r : Int} : ∀ k c, cutH h l r k = c + 1 → gI h c ≠ bkV l r ((h.length : Int) - (c + 1))
  | 0, c, e => by simp [cutH] at e
  | k + 1, c, e => by
    unfold cutH at e
    split at e
    · exact cutH_ne k c e
    · rename_i q
      obtain rfl : k = c := by omega
      exact q

end
section
/-- the least period and the least head, from the values alone -/
structure PFat (f : Nat → Int) (g : Int → Int) (c s : Nat) (pf : List Int × List Int × Int) : Prop where
  s1 : 1 ≤ s
  per : Per g s (g s - g 0)
  min : ∀ t, 1 ≤ t → t < s → ∀ d, ¬ Per g t d
  eq : ∀ j : Nat, c ≤ j → f j = g j
  ne : ∀ c', c = c' + 1 → f c' ≠ g c'
  pf : pf = ((List.range c).map f, (List.range s).map fun i : Nat => g ((c + i : Nat) : Int), g s - g 0)
theorem PFat.uniq {f : Nat → Int} {g : Int → Int} {c s c' s' : Nat} {p q : List Int × List Int × Int} (a : PFat f g c s p) (b : PFat f g c' s' q) : p = q := by
  have e1 : s = s' := by
    rcases Nat.lt_trichotomy s s' with h | h | h
    · exact (b.min _ a.s1 h _ a.per).elim
    · exact h
    · exact (a.min _ b.s1 h _ b.per).elim
  have key : ∀ {c c' s s' : Nat} {p q : List Int × List Int × Int}, PFat f g c s p → PFat f g c' s' q → ¬ c < c' := fun {c c' s s' p q} a b h => by
    obtain ⟨m, rfl⟩ : ∃ m, c' = m + 1 := ⟨c' - 1, by omega⟩
    exact b.ne m rfl (a.eq m (by omega))
  have e2 : c = c' := by have := key a b; have := key b a; omega
  rw [a.pf, b.pf, e1, e2]
theorem gI_map_range {f : Nat → Int} {n k : Nat} (h : k < n) : gI ((List.range n).map f) k = f k := by
  unfold gI
  rw [Int.toNat_natCast, List.getD_eq_getElem?_getD, List.getElem?_map, List.getElem?_range h]
  rfl
theorem ext_gI {a b : List Int} (hl : a.length = b.length) (h : ∀ k : Nat, k < a.length → gI a k = gI b k) : a = b := by
  refine List.ext_getElem hl fun k h1 h2 => ?_
  have := h k h1
  unfold gI at this
  rw [Int.toNat_natCast, List.getD_eq_getElem?_getD, List.getD_eq_getElem?_getD, List.getElem?_eq_getElem h1, List.getElem?_eq_getElem h2] at this
  exact this
theorem plainF_at {h l : List Int} {r : Int} (hl : l ≠ []) : ∃ c s, c ≤ h.length ∧ s ≤ l.length ∧ PFat (fV h l r) (fun i => extL l r (i - h.length)) c s (plainF h l r) := by
  obtain ⟨s, h1, h2, e, p, hmin⟩ := shortLoop_char (r := r) hl
  have hs : (l.take s).length = s := by rw [List.length_take]; omega
  have hls : l.take s ≠ [] := fun e => by rw [e] at hs; simp at hs; omega
  have E := extL_take h1 h2 p
  have pv : ∀ m : Int, extL l r (s - m) - extL l r (0 - m) = extL l r s - extL l r 0 := fun m => by
    have q1 := p (0 - m)
    rw [show (0 : Int) - m + s = s - m by omega] at q1
    omega
  refine ⟨cutH h (l.take s) (extL l r s - extL l r 0) h.length, s, cutH_le _ _ _ _, h2, h1, ?_, ?_, fun j hj => ?_, fun c' hc => ?_, ?_⟩
  · show Per _ _ (extL l r (s - h.length) - extL l r (0 - h.length))
    rw [pv]
    intro i
    have := p (i - h.length)
    rwa [show i - (h.length : Int) + s = i + s - h.length by omega] at this
  · intro t t1 t2 d q
    refine hmin t t1 t2 d (Per.unshift (-(h.length : Int)) ?_)
    intro i
    have := q i
    simp only [Int.sub_eq_add_neg] at this ⊢
    exact this
  · by_cases c : j < h.length
    · rw [fV_head c, cutH_eq _ j hj c, bkV_ext hls, E]
      congr 1
      omega
    · exact fV_loop (by omega)
  · have hle := cutH_le h (l.take s) (extL l r s - extL l r 0) h.length
    have := cutH_ne _ c' hc
    rw [bkV_ext hls, E] at this
    rw [fV_head (by omega)]
    intro q
    refine this (q.trans ?_)
    congr 1
    omega
  · unfold plainF
    rw [if_neg hl, e]
    dsimp only
    have hle := cutH_le h (l.take s) (extL l r s - extL l r 0) h.length
    generalize hcd : cutH h (l.take s) (extL l r s - extL l r 0) h.length = c at *
    have hc1 : ∀ j, c ≤ j → j < h.length → gI h j = extL l r ((j : Int) - h.length) := fun j a b => by
      have := cutH_eq h.length j (by rw [hcd]; exact a) b
      rw [this, bkV_ext hls, E]
      congr 1
      omega
    rw [pv, hs]
    refine congr (congrArg _ ?_) (congr (congrArg _ ?_) rfl)
    · refine ext_gI (by rw [List.length_take, List.length_map, List.length_range]; omega) fun k hk => ?_
      rw [List.length_take] at hk
      rw [gI_take (by omega), gI_map_range (by omega), fV_head (by omega)]
    · refine List.map_congr_left fun i _ => ?_
      rw [show (c : Int) + 1 + i = ((c + i : Nat) : Int) + 1 by omega, vat_fV hls]
      show fV h (l.take s) _ (c + i) = _
      by_cases q : c + i < h.length
      · rw [fV_head q, hc1 _ (by omega) q]
      · rw [fV_loop (by omega), E]

end
section
theorem gI_append {a b : List Int} {k : Nat} : gI (a ++ b) k = if k < a.length then gI a k else gI b ((k - a.length : Nat) : Int) := by
  unfold gI
  rw [Int.toNat_natCast, Int.toNat_natCast, List.getD_eq_getElem?_getD, List.getD_eq_getElem?_getD, List.getD_eq_getElem?_getD]
  split
  · rename_i h
    rw [List.getElem?_append_left h]
  · rename_i h
    rw [List.getElem?_append_right (by omega)]
theorem gI_drop {a : List Int} {m k : Nat} : gI (a.drop m) k = gI a ((m + k : Nat) : Int) := by
  unfold gI
  rw [Int.toNat_natCast, Int.toNat_natCast, List.getD_eq_getElem?_getD, List.getD_eq_getElem?_getD, List.getElem?_drop]
theorem lcut_cutH {h l' : List Int} {r' : Int} {row : List Int} {s : Nat} (hs : 1 ≤ s) (hl : l' ≠ []) (hp : Per (extL l' r') s r')
    (h1 : ∀ k : Nat, k < h.length → gI row k = gI h k) (h2 : ∀ k : Nat, k < s → gI row ((h.length + k : Nat) : Int) = extL l' r' k) :
    ∀ k, k ≤ h.length → (∀ j : Nat, k ≤ j → j < h.length → gI h j = extL l' r' ((j : Int) - h.length)) → lcut row s r' (k + s) = cutH h l' r' k + s
  | 0, _, _ => by
    obtain ⟨s, rfl⟩ : ∃ t, s = t + 1 := ⟨s - 1, by omega⟩
    rw [Nat.zero_add]
    unfold lcut cutH
    rw [if_neg (by omega), Nat.zero_add]
  | k + 1, hk, hj => by
    have hkk : gI row ((k + s : Nat) : Int) = extL l' r' ((k : Int) - h.length) + r' := by
      have := hp ((k : Int) - h.length)
      rw [← this]
      by_cases c : k + s < h.length
      · rw [h1 _ c, hj _ (by omega) c]
        congr 1
        omega
      · have := h2 (k + s - h.length) (by omega)
        rw [show h.length + (k + s - h.length) = k + s by omega] at this
        rw [this]
        congr 1
        omega
    have e1 : gI row (((k + s : Nat) : Int) - s) = gI h k := by
      rw [show ((k + s : Nat) : Int) - s = (k : Int) by omega, h1 k (by omega)]
    have e2 : bkV l' r' ((h.length : Int) - (k + 1)) = extL l' r' ((k : Int) - h.length) := by
      rw [bkV_ext hl]
      congr 1
      omega
    rw [show k + 1 + s = (k + s) + 1 by omega]
    unfold lcut cutH
    rw [e1, hkk, e2]
    by_cases c : gI h k = extL l' r' ((k : Int) - h.length)
    · rw [if_pos ⟨by omega, by omega⟩, if_pos c]
      refine lcut_cutH hs hl hp h1 h2 k (by omega) fun j a b => ?_
      by_cases q : j = k
      · subst q; exact c
      · exact hj j (by omega) b
    · rw [if_neg (fun q => c (by omega)), if_neg c]
      omega
theorem lawF_eq (h l : List Int) (r : Int) : lawF h l r = plainF h l r := by
  by_cases hl : l = []
  · unfold lawF plainF
    rw [if_pos hl, if_pos hl]
  obtain ⟨s, h1, h2, e, p, hmin⟩ := shortLoop_char (r := r) hl
  have hs : (l.take s).length = s := by rw [List.length_take]; omega
  have hls : l.take s ≠ [] := fun e => by rw [e] at hs; simp at hs; omega
  have E := extL_take h1 h2 p
  have p' : Per (extL (l.take s) (extL l r s - extL l r 0)) s (extL l r s - extL l r 0) := fun i => by rw [E, E, p]
  unfold lawF plainF
  rw [if_neg hl, if_neg hl, e]
  dsimp only
  rw [hs, List.length_append, hs]
  have r1 : ∀ k : Nat, k < h.length → gI (h ++ l.take s) k = gI h k := fun k hk => by rw [gI_append, if_pos hk]
  have r2 : ∀ k : Nat, k < s → gI (h ++ l.take s) ((h.length + k : Nat) : Int) = extL (l.take s) (extL l r s - extL l r 0) k := fun k hk => by
    rw [gI_append, if_neg (by omega), show h.length + k - h.length = k by omega, extL_small (by omega)]
  have e3 := lcut_cutH h1 hls p' r1 r2 h.length (Nat.le_refl _) (fun j a b => by omega)
  have hle := cutH_le h (l.take s) (extL l r s - extL l r 0) h.length
  rw [e3, Nat.add_sub_cancel]
  have hc1 := fun j (a : cutH h (l.take s) (extL l r s - extL l r 0) h.length ≤ j) (b : j < h.length) => cutH_eq h.length j a b
  generalize cutH h (l.take s) (extL l r s - extL l r 0) h.length = c at *
  refine congr (congrArg _ ?_) (congr (congrArg _ ?_) rfl)
  · rw [List.take_append_of_le_length hle]
  · refine ext_gI (by rw [List.length_take, List.length_drop, List.length_append, hs, List.length_map, List.length_range]; omega) fun k hk => ?_
    rw [List.length_take, List.length_drop, List.length_append, hs] at hk
    have hk : k < s := by omega
    rw [gI_take hk, gI_drop, gI_map_range (f := fun i : Nat => (vat h (l.take s) (extL l r s - extL l r 0) ((c : Int) + 1 + i)).getD 0) hk, show (c : Int) + 1 + k = ((c + k : Nat) : Int) + 1 by omega, vat_fV hls]
    show _ = fV h (l.take s) _ (c + k)
    by_cases q : c + k < h.length
    · rw [r1 _ q, fV_head q]
    · have := r2 (c + k - h.length) (by omega)
      rw [show h.length + (c + k - h.length) = c + k by omega] at this
      rw [this, fV_loop (by omega)]
      congr 1
      omega
theorem gI_nn {a : List Int} (h : allPos a) (i : Int) : 0 ≤ gI a i := by
  unfold gI
  rw [List.getD_eq_getElem?_getD]
  by_cases c : i.toNat < a.length
  · rw [List.getElem?_eq_getElem c]
    exact h _ (List.getElem_mem _)
  · rw [List.getElem?_eq_none (by omega)]
    exact Int.le_refl _
theorem extL_nn {l : List Int} {r i : Int} (h : allPos l) (hr : 0 ≤ r) (hi : 0 ≤ i) : 0 ≤ extL l r i :=
  Int.add_nonneg (gI_nn h _) (Int.mul_nonneg hr (Int.ediv_nonneg hi (by omega)))
theorem fV_nn {h l : List Int} {r : Int} (V : Val h l r) (j : Nat) : 0 ≤ fV h l r j := by
  unfold fV
  split
  · exact gI_nn V.p1 _
  · exact extL_nn V.p2 V.r0 (by omega)
theorem extL_up {h l : List Int} {r : Int} (V : Val h l r) (hl : l ≠ []) (i : Int) : extL l r i ≤ extL l r (i + 1) := by
  have h0 : 0 < l.length := List.length_pos_iff.mpr hl
  have P := extL_per (r := r) hl
  have e : i % l.length + l.length * (i / l.length) = i := Int.emod_add_mul_ediv ..
  have g0 := Int.emod_nonneg i (show (l.length : Int) ≠ 0 by omega)
  have g1 := Int.emod_lt_of_pos i (show (0 : Int) < l.length by omega)
  obtain ⟨t, ht⟩ := Int.eq_ofNat_of_zero_le g0
  rw [ht] at e g1
  generalize i / l.length = z at e
  subst e
  rw [show (t : Int) + l.length * z + 1 = ((t + 1 : Nat) : Int) + l.length * z by omega, P.mul, P.mul, extL_small (k := t) (by omega)]
  by_cases c : t + 1 < l.length
  · rw [extL_small c]
    have := V.r2 t c
    rw [show ((t + 1 : Nat) : Int) = (t : Int) + 1 by omega]
    omega
  · have := V.ll hl
    have q := P 0
    have q0 := extL_small (r := r) (l := l) (k := 0) h0
    rw [Int.zero_add] at q
    rw [show (l.length : Int) - 1 = t by omega] at this
    rw [show t + 1 = l.length by omega, q, show (0 : Int) = ((0 : Nat) : Int) from rfl, q0]
    show gI l t + r * z ≤ gI l 0 + r + r * z
    omega
theorem fV_up {h l : List Int} {r : Int} (V : Val h l r) (hl : l ≠ []) (j : Nat) : fV h l r j ≤ fV h l r (j + 1) := by
  by_cases c : j + 1 < h.length
  · rw [fV_head c, fV_head (by omega)]
    exact V.r1 j c
  · by_cases d : j < h.length
    · rw [fV_head d, fV_loop (by omega)]
      have := V.hl (by intro e; rw [e] at d; simp at d) hl
      rw [show ((j + 1 : Nat) : Int) - h.length = ((0 : Nat) : Int) by omega, extL_small (List.length_pos_iff.mpr hl)]
      rw [show (h.length : Int) - 1 = j by omega] at this
      exact this
    · rw [fV_loop (by omega), fV_loop (by omega)]
      have := extL_up V hl ((j : Int) - h.length)
      rwa [show (j : Int) - h.length + 1 = ((j + 1 : Nat) : Int) - h.length by omega] at this
theorem tell_gI {f : Nat → Int} {n cut k : Nat} (h : cut + k < n) : gI (((List.range n).map f).drop cut) k = f (cut + k) := by
  rw [gI_drop, gI_map_range h]
theorem tell_gT {f : Nat → Int} {n cut k : Nat} (h : k < cut) (h2 : k < n) : gI (((List.range n).map f).take cut) k = f k := by
  rw [gI_take h, gI_map_range h2]
theorem tell_plain {h l : List Int} {r : Int} (hl : l ≠ []) (more turns : Nat) (ht : 1 ≤ turns) :
    plainF (((List.range (h.length + more + l.length * turns)).map (fV h l r)).take (h.length + more)) (((List.range (h.length + more + l.length * turns)).map (fV h l r)).drop (h.length + more)) (r * turns) = plainF h l r := by
  have h0 : 0 < l.length := List.length_pos_iff.mpr hl
  have hL : 0 < l.length * turns := Nat.mul_pos h0 ht
  have e1 : (((List.range (h.length + more + l.length * turns)).map (fV h l r)).take (h.length + more)).length = h.length + more := by
    rw [List.length_take, List.length_map, List.length_range]; omega
  have e2 : (((List.range (h.length + more + l.length * turns)).map (fV h l r)).drop (h.length + more)).length = l.length * turns := by
    rw [List.length_drop, List.length_map, List.length_range]; omega
  have g1 : ∀ k, k < h.length + more → gI (((List.range (h.length + more + l.length * turns)).map (fV h l r)).take (h.length + more)) k = fV h l r k := fun k hk => tell_gT hk (by omega)
  have g2 : ∀ k, k < l.length * turns → gI (((List.range (h.length + more + l.length * turns)).map (fV h l r)).drop (h.length + more)) k = fV h l r (h.length + more + k) := fun k hk => tell_gI (by omega)
  generalize ((List.range (h.length + more + l.length * turns)).map (fV h l r)).take (h.length + more) = h2 at *
  generalize ((List.range (h.length + more + l.length * turns)).map (fV h l r)).drop (h.length + more) = l2 at *
  have hl2 : l2 ≠ [] := fun e => by rw [e] at e2; simp at e2; omega
  have P2 := extL_per (r := r * turns) hl2
  have P1 : Per (fun i => extL l r (i + more)) l2.length (r * turns) := Per.shift (fun i => by
    rw [e2, Int.natCast_mul, (extL_per hl).mulN]) more
  have ee := P2.ext (by omega) P1 fun k hk => by
    rw [extL_small hk, g2 k (by omega), fV_loop (by omega)]
    congr 1
    omega
  have fe : fV h2 l2 (r * turns) = fV h l r := funext fun j => by
    by_cases c : j < h2.length
    · rw [fV_head c, g1 j (by omega)]
    · rw [fV_loop (by omega), ee, fV_loop (by omega), e1]
      congr 1
      omega
  have ge : (fun i : Int => extL l2 (r * turns) (i - h2.length)) = fun i => extL l r (i - h.length) := funext fun i => by
    rw [ee, e1]
    congr 1
    omega
  obtain ⟨c, s, _, _, A⟩ := plainF_at (h := h) (r := r) hl
  obtain ⟨c2, s2, _, _, B⟩ := plainF_at (h := h2) (r := r * turns) hl2
  rw [fe, ge] at B
  exact B.uniq A
theorem tell_val {h l : List Int} {r : Int} (V : Val h l r) (hl : l ≠ []) (more turns : Nat) (ht : 1 ≤ turns) (z1 : h.length + more ≤ 50000) (z2 : l.length * turns ≤ 50000) (z3 : r * turns < 1152921504606846976) :
    Val (((List.range (h.length + more + l.length * turns)).map (fV h l r)).take (h.length + more)) (((List.range (h.length + more + l.length * turns)).map (fV h l r)).drop (h.length + more)) (r * turns) := by
  have h0 : 0 < l.length := List.length_pos_iff.mpr hl
  have hL : 0 < l.length * turns := Nat.mul_pos h0 ht
  have e1 : (((List.range (h.length + more + l.length * turns)).map (fV h l r)).take (h.length + more)).length = h.length + more := by
    rw [List.length_take, List.length_map, List.length_range]; omega
  have e2 : (((List.range (h.length + more + l.length * turns)).map (fV h l r)).drop (h.length + more)).length = l.length * turns := by
    rw [List.length_drop, List.length_map, List.length_range]; omega
  have g1 : ∀ k, k < h.length + more → gI (((List.range (h.length + more + l.length * turns)).map (fV h l r)).take (h.length + more)) k = fV h l r k := fun k hk => tell_gT hk (by omega)
  have g2 : ∀ k, k < l.length * turns → gI (((List.range (h.length + more + l.length * turns)).map (fV h l r)).drop (h.length + more)) k = fV h l r (h.length + more + k) := fun k hk => tell_gI (by omega)
  have ps : ∀ n ∈ (List.range (h.length + more + l.length * turns)).map (fV h l r), 0 ≤ n := fun n hn => by
    obtain ⟨k, _, rfl⟩ := List.mem_map.mp hn
    exact fV_nn V k
  have p1 : allPos (((List.range (h.length + more + l.length * turns)).map (fV h l r)).take (h.length + more)) := fun n hn => ps n (List.mem_of_mem_take hn)
  have p2 : allPos (((List.range (h.length + more + l.length * turns)).map (fV h l r)).drop (h.length + more)) := fun n hn => ps n (List.mem_of_mem_drop hn)
  generalize ((List.range (h.length + more + l.length * turns)).map (fV h l r)).take (h.length + more) = h2 at *
  generalize ((List.range (h.length + more + l.length * turns)).map (fV h l r)).drop (h.length + more) = l2 at *
  have up := fV_up V hl
  have rt : 0 ≤ r * turns := Int.mul_nonneg V.r0 (by omega)
  refine ⟨p1, p2, fun i hi => ?_, fun i hi => ?_, rt, fun e => ?_, fun hne _ => ?_, fun _ => ?_, ⟨by omega, z3, by omega, by omega⟩⟩
  · rw [g1 i (by omega), show (i : Int) + 1 = ((i + 1 : Nat) : Int) by omega, g1 (i + 1) (by omega)]
    exact up i
  · rw [g2 i (by omega), show (i : Int) + 1 = ((i + 1 : Nat) : Int) by omega, g2 (i + 1) (by omega)]
    exact up (h.length + more + i)
  · rw [e] at e2; simp at e2; omega
  · have hp : 0 < h2.length := List.length_pos_iff.mpr hne
    rw [e1, show ((h.length + more : Nat) : Int) - 1 = ((h.length + more - 1 : Nat) : Int) by omega, g1 _ (by omega)]
    have := g2 0 hL
    rw [show (0 : Int) = ((0 : Nat) : Int) from rfl, this]
    have := up (h.length + more - 1)
    rwa [show h.length + more - 1 + 1 = h.length + more + 0 by omega] at this
  · rw [e2, show ((l.length * turns : Nat) : Int) - 1 = ((l.length * turns - 1 : Nat) : Int) by omega, g2 _ (by omega)]
    have q := g2 0 hL
    rw [show (0 : Int) = ((0 : Nat) : Int) from rfl, q]
    have u := up (h.length + more + (l.length * turns - 1))
    have P := (extL_per (r := r) hl).mulN turns ((more : Nat) : Int)
    rw [fV_loop (j := h.length + more + (l.length * turns - 1) + 1) (by omega)] at u
    rw [fV_loop (j := h.length + more + 0) (by omega), show (((h.length + more + 0 : Nat) : Int) - h.length) = more by omega, ← P]
    refine Int.le_trans u (Int.le_of_eq ?_)
    congr 1
    rw [← Int.natCast_mul]
    omega
/-- the plain form's parts are small and no less than 0 -/
theorem plainF_ok {h l : List Int} {r : Int} (V : Val h l r) : allPos (plainF h l r).1 ∧ allPos (plainF h l r).2.1 ∧ 0 ≤ (plainF h l r).2.2 ∧ (plainF h l r).2.2 ≤ r ∧ (plainF h l r).1.length ≤ h.length ∧ (plainF h l r).2.1.length ≤ l.length := by
  by_cases hl : l = []
  · unfold plainF
    rw [if_pos hl]
    exact ⟨V.p1, fun n hn => by simp at hn, Int.le_refl _, V.r0, Nat.le_refl _, Nat.zero_le _⟩
  · obtain ⟨q1, q2⟩ := shortLoop_len l r
    obtain ⟨q3, q4⟩ := shortLoop_rise (l := l) V.r0
    have q5 := q2 hl
    have pl : allPos (shortLoop l r).1 := by
      rcases shortLoop_cases l r with e | ⟨m, _, _, _, e⟩
      · rw [e]; exact V.p2
      · rw [e]; exact fun n hn => V.p2 n (List.mem_of_mem_take hn)
    unfold plainF
    rw [if_neg hl]
    refine ⟨fun n hn => V.p1 n (List.mem_of_mem_take hn), fun n hn => ?_, q3, q4, by show (h.take _).length ≤ _; rw [List.length_take]; omega, by show (List.map _ _).length ≤ _; rw [List.length_map, List.length_range]; exact q1⟩
    obtain ⟨i, _, rfl⟩ := List.mem_map.mp hn
    generalize cutH h (shortLoop l r).1 (shortLoop l r).2 h.length = c
    show 0 ≤ (vat h _ _ ((c : Int) + 1 + i)).getD 0
    rw [show (c : Int) + 1 + i = ((c + i : Nat) : Int) + 1 by omega, vat_fV q5]
    show 0 ≤ fV h _ _ (c + i)
    unfold fV
    split
    · exact gI_nn V.p1 _
    · exact extL_nn pl q3 (by omega)

end
section
/-- two tables with the same values have one plain form -/
theorem plain_ext {h l h' l' : List Int} {r r' : Int} (hl : l ≠ []) (hl' : l' ≠ []) (e : ∀ j, fV h l r j = fV h' l' r' j) : plainF h l r = plainF h' l' r' := by
  have l0 : 0 < l.length := List.length_pos_iff.mpr hl
  have l1 : 0 < l'.length := List.length_pos_iff.mpr hl'
  have P := (extL_per (r := r) hl)
  have P' := (extL_per (r := r') hl')
  have fe : fV h l r = fV h' l' r' := funext e
  have big : ∀ j : Nat, h.length ≤ j → h'.length ≤ j → extL l r ((j : Int) - h.length) = extL l' r' ((j : Int) - h'.length) := fun j a b => by
    rw [← fV_loop a, ← fV_loop b, e]
  have Q : Per (fun i => extL l r (i - h.length)) (l.length * l'.length) (r * l'.length) := fun i => by
    show extL l r (i + ((l.length * l'.length : Nat) : Int) - h.length) = extL l r (i - h.length) + _
    rw [← P.mulN, Int.natCast_mul]
    congr 1
    omega
  have Q' : Per (fun i => extL l' r' (i - h'.length)) (l.length * l'.length) (r' * l.length) := fun i => by
    show extL l' r' (i + ((l.length * l'.length : Nat) : Int) - h'.length) = extL l' r' (i - h'.length) + _
    rw [← P'.mulN, Int.natCast_mul, Int.mul_comm (l.length : Int)]
    congr 1
    omega
  generalize hM : h.length + h'.length = M at *
  have sl : r * l'.length = r' * l.length := by
    have a := Q M
    have b := Q' M
    have c := big M (by omega) (by omega)
    have d := big (M + l.length * l'.length) (by omega) (by omega)
    simp only at a b
    rw [Int.natCast_add] at d
    omega
  rw [← sl] at Q'
  have ge : (fun i : Int => extL l r (i - h.length)) = fun i => extL l' r' (i - h'.length) := by
    have key := (Q.shift M).ext (Nat.mul_pos l0 l1) (Q'.shift M) fun k _ => by
      have := big (k + M) (by omega) (by omega)
      rw [Int.natCast_add] at this
      exact this
    refine funext fun i => ?_
    have this : extL l r (i - M + M - h.length) = extL l' r' (i - M + M - h'.length) := key (i - M)
    rwa [show i - (M : Int) + M = i by omega] at this
  obtain ⟨c, s, _, _, A⟩ := plainF_at (h := h) (r := r) hl
  obtain ⟨c2, s2, _, _, B⟩ := plainF_at (h := h') (r := r') hl'
  rw [← fe, ← ge] at B
  exact A.uniq B
/-- a row of numbers that goes on evenly makes a table -/
theorem val_of {f : Nat → Int} {xs : List Int} {c s : Nat} {d : Int} (h0 : ∀ j, 0 ≤ f j) (up : ∀ j, f j ≤ f (j + 1)) (hs : 1 ≤ s) (per : ∀ j, c ≤ j → f (j + s) = f j + d)
    (hx : xs.length = c + s) (hf : ∀ k : Nat, k < c + s → gI xs k = f k) (zc : c ≤ 50000) (zs : s ≤ 50000) (zd : d < 1152921504606846976) :
    Val (xs.take c) (xs.drop c) d ∧ xs.drop c ≠ [] ∧ ∀ j, fV (xs.take c) (xs.drop c) d j = f j := by
  have e1 : (xs.take c).length = c := by rw [List.length_take]; omega
  have e2 : (xs.drop c).length = s := by rw [List.length_drop]; omega
  have g1 : ∀ k : Nat, k < c → gI (xs.take c) k = f k := fun k hk => by rw [gI_take hk, hf k (by omega)]
  have g2 : ∀ k : Nat, k < s → gI (xs.drop c) k = f (c + k) := fun k hk => by rw [gI_drop, hf _ (by omega)]
  have ps : ∀ n ∈ xs, 0 ≤ n := fun n hn => by
    obtain ⟨k, hk, rfl⟩ := List.getElem_of_mem hn
    have := hf k (by omega)
    unfold gI at this
    rw [Int.toNat_natCast, List.getD_eq_getElem?_getD, List.getElem?_eq_getElem hk] at this
    have e : xs[k] = f k := this
    rw [e]
    exact h0 k
  have p1 : allPos (xs.take c) := fun n hn => ps n (List.mem_of_mem_take hn)
  have p2 : allPos (xs.drop c) := fun n hn => ps n (List.mem_of_mem_drop hn)
  generalize xs.take c = h at *
  generalize xs.drop c = l at *
  have hl : l ≠ [] := fun e => by rw [e] at e2; simp at e2; omega
  have d0 : 0 ≤ d := by
    have a := per c (Nat.le_refl _)
    have mono : ∀ k, f c ≤ f (c + k) := fun k => by
      induction k with
      | zero => exact Int.le_refl _
      | succ k ih => exact Int.le_trans ih (up (c + k))
    have := mono s
    omega
  refine ⟨⟨p1, p2, fun i hi => ?_, fun i hi => ?_, d0, fun e => absurd e hl, fun hne _ => ?_, fun _ => ?_, ⟨by omega, zd, by omega, by omega⟩⟩, hl, fun j => ?_⟩
  · rw [g1 i (by omega), show (i : Int) + 1 = ((i + 1 : Nat) : Int) by omega, g1 (i + 1) (by omega)]
    exact up i
  · rw [g2 i (by omega), show (i : Int) + 1 = ((i + 1 : Nat) : Int) by omega, g2 (i + 1) (by omega)]
    exact up (c + i)
  · have hp : 0 < h.length := List.length_pos_iff.mpr hne
    rw [e1, show (c : Int) - 1 = ((c - 1 : Nat) : Int) by omega, g1 _ (by omega)]
    have q := g2 0 hs
    rw [show (0 : Int) = ((0 : Nat) : Int) from rfl, q]
    have := up (c - 1)
    rwa [show c - 1 + 1 = c + 0 by omega] at this
  · rw [e2, show (s : Int) - 1 = ((s - 1 : Nat) : Int) by omega, g2 _ (by omega)]
    have q := g2 0 hs
    rw [show (0 : Int) = ((0 : Nat) : Int) from rfl, q]
    have u := up (c + (s - 1))
    rw [show c + (s - 1) + 1 = c + 0 + s by omega, per (c + 0) (by omega)] at u
    exact u
  · by_cases hj : j < c
    · rw [fV_head (by omega), g1 j hj]
    · rw [fV_loop (by omega), e1]
      have pn : ∀ z k, f (c + k + s * z) = f (c + k) + d * z := fun z k => by
        induction z with
        | zero => simp
        | succ z ih =>
          rw [Nat.mul_succ, show c + k + (s * z + s) = (c + k + s * z) + s by omega, per _ (by omega), ih, Int.natCast_add, Int.mul_add]
          omega
      have P := (extL_per (r := d) hl).mulN ((j - c) / s) ((((j - c) % s : Nat)) : Int)
      have hm : (j - c) % s + s * ((j - c) / s) = j - c := Nat.mod_add_div ..
      have hlt : (j - c) % s < s := Nat.mod_lt _ hs
      rw [e2, extL_small (by omega), g2 _ hlt, ← Int.natCast_mul, ← Int.natCast_add, hm] at P
      rw [show (j : Int) - c = ((j - c : Nat) : Int) by omega, P, ← pn]
      congr 1
      omega
/-- the value behind j others, or none -/
def TV (h l : List Int) (r : Int) (j : Nat) : Option Int := if l = [] then h[j]? else some (fV h l r j)
theorem gI_get {h : List Int} {j : Nat} (c : j < h.length) : h[j]? = some (gI h j) := by
  unfold gI
  rw [Int.toNat_natCast, List.getD_eq_getElem?_getD, List.getElem?_eq_getElem c]
  rfl
theorem vat_TV {h l : List Int} {r : Int} (j : Nat) : vat h l r ((j : Int) + 1) = TV h l r j := by
  unfold TV
  by_cases hl : l = []
  · subst hl
    rw [if_pos rfl]
    unfold vat
    rw [if_neg (by omega)]
    by_cases c : j < h.length
    · rw [if_pos (by omega), gI_get c, show (j : Int) + 1 - 1 = j by omega]
    · rw [if_neg (by omega), if_pos rfl, List.getElem?_eq_none (by omega)]
  · rw [if_neg hl, vat_fV hl]
theorem plainF_nil {h : List Int} {r : Int} : plainF h [] r = (h, [], 0) := by
  unfold plainF
  rw [if_pos rfl]
/-- the plain form is a table with the same values, and stays -/
theorem plainF_val {h l : List Int} {r : Int} (V : Val h l r) : Val (plainF h l r).1 (plainF h l r).2.1 (plainF h l r).2.2 ∧ (∀ j, TV (plainF h l r).1 (plainF h l r).2.1 (plainF h l r).2.2 j = TV h l r j) ∧
    plainF (plainF h l r).1 (plainF h l r).2.1 (plainF h l r).2.2 = plainF h l r ∧ (plainF h l r).1.length ≤ h.length ∧
    (l ≠ [] → (plainF h l r).2.1 ≠ [] ∧ ∃ q : Nat, l.length = (plainF h l r).2.1.length * q ∧ r = (plainF h l r).2.2 * q) := by
  by_cases hl : l = []
  · subst hl
    have r0 := V.e0 rfl
    subst r0
    rw [plainF_nil]
    exact ⟨V, fun j => rfl, plainF_nil, Nat.le_refl _, fun e => absurd rfl e⟩
  · obtain ⟨c, s, hc, hs, A⟩ := plainF_at (h := h) (r := r) hl
    obtain ⟨z1, z2, z3, z4⟩ := V.sm
    have l0 : 0 < l.length := List.length_pos_iff.mpr hl
    have fr : ∀ j, c ≤ j → fV h l r (j + s) = fV h l r j + ((fun i => extL l r (i - h.length)) s - (fun i => extL l r (i - h.length)) 0) := fun j hj => by
      have a := A.eq (j + s) (by omega)
      have b := A.eq j hj
      have p := A.per (j : Int)
      rw [Int.natCast_add] at a
      rw [a, b]
      exact p
    have hG : Per (fun i => extL l r (i - h.length)) l.length r := fun i => by
      have := extL_per (r := r) hl (i - h.length)
      show extL l r (i + l.length - h.length) = _
      rw [show i + (l.length : Int) - h.length = i - h.length + l.length by omega, this]
    obtain ⟨k1, k2⟩ := per_dvd A.s1 A.per A.min hG
    generalize hd : ((fun i => extL l r (i - h.length)) s - (fun i => extL l r (i - h.length)) 0) = d at *
    have d0 : 0 ≤ d := by
      have mono : ∀ k, fV h l r c ≤ fV h l r (c + k) := fun k => by
        induction k with
        | zero => exact Int.le_refl _
        | succ k ih => exact Int.le_trans ih (fV_up V hl (c + k))
      have a := mono s
      have b := fr c (Nat.le_refl _)
      omega
    have q1 : 1 ≤ l.length / s := by
      rcases Nat.eq_zero_or_pos (l.length / s) with e | e
      · rw [e, Nat.mul_zero] at k1; omega
      · exact e
    have dr : d ≤ r := by
      have := Int.mul_le_mul_of_nonneg_left (show (1 : Int) ≤ ((l.length / s : Nat) : Int) by omega) d0
      rw [Int.mul_one] at this
      exact Int.le_trans this (Int.le_of_eq k2.symm)
    have B := val_of (f := fV h l r) (xs := (List.range (c + s)).map (fV h l r)) (c := c) (s := s) (d := d) (fV_nn V) (fV_up V hl) A.s1 fr (by rw [List.length_map, List.length_range]) (fun k hk => gI_map_range hk) (by omega) (by omega) (by omega)
    have t1 : ((List.range (c + s)).map (fV h l r)).take c = (List.range c).map (fV h l r) := by
      rw [← List.map_take, List.take_range]
      congr 2
      omega
    have t2 : ((List.range (c + s)).map (fV h l r)).drop c = (List.range s).map fun i : Nat => (fun i => extL l r (i - h.length)) ((c + i : Nat) : Int) := by
      refine ext_gI (by rw [List.length_drop, List.length_map, List.length_map, List.length_range, List.length_range]; omega) fun k hk => ?_
      rw [List.length_drop, List.length_map, List.length_range] at hk
      rw [tell_gI (by omega), gI_map_range (by omega), A.eq _ (by omega)]
    rw [t1, t2] at B
    have pf := A.pf
    rw [hd] at pf
    obtain ⟨B1, B2, B3⟩ := B
    have e1 : (plainF h l r).1 = (List.range c).map (fV h l r) := by rw [pf]
    have e2 : (plainF h l r).2.1 = (List.range s).map fun i : Nat => (fun i => extL l r (i - h.length)) ((c + i : Nat) : Int) := by rw [pf]
    have e3 : (plainF h l r).2.2 = d := by rw [pf]
    rw [e1, e2, e3]
    refine ⟨B1, fun j => ?_, ?_, by rw [List.length_map, List.length_range]; exact hc, fun _ => ⟨B2, l.length / s, by rw [List.length_map, List.length_range]; exact k1, k2⟩⟩
    · unfold TV
      rw [if_neg B2, if_neg hl, B3]
    · exact plain_ext B2 hl B3
/-- the plain form with these values -/
structure Pl (f : Nat → Option Int) (h l : List Int) (r : Int) : Prop where
  val : Val h l r
  pf : plainF h l r = (h, l, r)
  tv : ∀ j, TV h l r j = f j
theorem Pl.of {h l : List Int} {r : Int} (V : Val h l r) : Pl (TV h l r) (plainF h l r).1 (plainF h l r).2.1 (plainF h l r).2.2 := by
  obtain ⟨a, b, c, _⟩ := plainF_val V
  exact ⟨a, c, b⟩
theorem Pl.uniq {f : Nat → Option Int} {h l h' l' : List Int} {r r' : Int} (a : Pl f h l r) (b : Pl f h' l' r') : h = h' ∧ l = l' ∧ r = r' := by
  have e : ∀ j, TV h l r j = TV h' l' r' j := fun j => (a.tv j).trans (b.tv j).symm
  have nn : ∀ {h l h' l' : List Int} {r r' : Int}, (∀ j, TV h l r j = TV h' l' r' j) → l = [] → l' ≠ [] → False := fun {h l h' l' r r'} e c d => by
    have := e h.length
    unfold TV at this
    rw [if_pos c, if_neg d, List.getElem?_eq_none (Nat.le_refl _)] at this
    cases this
  by_cases c : l = []
  · by_cases d : l' = []
    · subst c; subst d
      refine ⟨List.ext_getElem? fun i => ?_, rfl, (a.val.e0 rfl).trans (b.val.e0 rfl).symm⟩
      have := e i
      unfold TV at this
      rwa [if_pos rfl, if_pos rfl] at this
    · exact (nn e c d).elim
  · by_cases d : l' = []
    · exact (nn (fun j => (e j).symm) d c).elim
    · have := plain_ext c d fun j => by
        have := e j
        unfold TV at this
        rw [if_neg c, if_neg d] at this
        exact Option.some.inj this
      rw [a.pf, b.pf] at this
      cases this
      exact ⟨rfl, rfl, rfl⟩

end
section
local macro_rules | `(tactic| walk_at "hp") => `(tactic| first
  | with_reducible assumption
  | (with_reducible refine' ex_tab ?a ?b; (case a => with_reducible assumption); (case b => walk_at "hp")))
local macro_rules | `(tactic| walk_at "w2") => `(tactic| first
  | ((with_reducible refine' r_tabHead ?a ?b ?q); (case a => with_reducible assumption); (case b => walk_at "hp"))
  | ((with_reducible refine' r_tabLoop ?a ?b ?q); (case a => with_reducible assumption); (case b => walk_at "hp"))
  | ((with_reducible refine' r_tabRise ?a ?b ?q); (case a => with_reducible assumption); (case b => walk_at "hp")))
abbrev N__law_same : List Str := ["table", "raw", "one"]
theorem sc__law_same : FnScope N__law_same ["table", "raw"] (defScope s__law_same) := ⟨rfl, rfl, rfl, by decide +kernel, rfl, by decide +kernel, by decide +kernel⟩
theorem ok__law_same {P : Program} {w : World} {K : PySem.W.Frag} {mg : Str → Option Value} {base : Heap} (E : Env P K mg) : Fn P w K mg base CX0 3 "_law_same" (sp2 fun a b H Q _ => ∃ x h l r, a = .ref x ∧ TabAt K H x h l r ∧ Dp K H b (dRaw h l r) ∧ allPos h ∧ allPos l ∧ 0 ≤ r ∧ h.length ≤ 50000 ∧ l.length ≤ 50000 ∧ RetD K (.bool true) H Q) := by
  obtain ⟨fd, F⟩ := E.dd__law_same
  refine Fn.mk0 F E.g__law_same sc__law_same sp2_len (fun _ _ _ _ _ _ us hl => match us, hl with | [_, _], _ => rfl) (fun cdv A outer s H vs Q X hr h => ?_)
  have nd := sc__law_same.nd
  obtain ⟨v0, v1, rfl, h⟩ := h
  refine ⟨_, (pss_cons (ps_if (PW.pt (pw_or (pt_not (kTru K (pe_callB (kIsi K) (by rfl) E.f_isinstance (by decide +kernel) (pa_cons (pv 0) (pa_cons (pe_glob (v := .ref (He.ga K "Table")) (by rfl) E.g_Table rfl) pa_nil))) (by intro _; rfl))) (pw_or (pt_cmpR (kNe K hr) (kFld K (pv 0) rfl) (pe_ix (kIx K) (pv 1) (pe_int) (fun _ _ => rfl)) (nomark _)) (pw_or1 (pt_cmpR (kNe K hr) (kFld K (pv 0) rfl) (pe_ix (kIx K) (pv 1) (pe_int) (fun _ _ => rfl)) (nomark _))))))
   (pss_one (ps_ret (pe_bl)))
   pss_nil)
  (pss_cons (ps_if (PW.pt (pw_or (pt_not (kTru K (pe_callB (kIsi K) (by rfl) E.f_isinstance (by decide +kernel) (pa_cons (kFld K (pv 0) rfl) (pa_cons (pe_bltn (v := .ty "tuple") (by rfl) E.f_tuple (by decide +kernel) rfl) pa_nil))) (by intro _; rfl))) (pw_or1 (pt_not (kTru K (pe_callB (kIsi K) (by rfl) E.f_isinstance (by decide +kernel) (pa_cons (kFld K (pv 0) rfl) (pa_cons (pe_bltn (v := .ty "tuple") (by rfl) E.f_tuple (by decide +kernel) rfl) pa_nil))) (by intro _; rfl))))))
   (pss_one (ps_ret (pe_bl)))
   pss_nil)
  (pss_cons (ps_if (pt_not (kTru K (pe_callB (kAll K rfl) (by rfl) E.f_all (by decide +kernel) (pa_cons (pe_lc (own := [("one", 2)]) (g := gName 2) (tt := tYes) rfl nd (kSeq K (pe_op (kAdd K) (kFld K (pv 0) rfl) (kFld K (pv 0) rfl))) (blkOk_by (N := N__law_same) (sc := defScope s__law_same) (by decide +kernel)) (fun _ _ _ _ _ => pg_name (i := 2) nd rfl (Or.inl rfl)) (fun _ _ _ _ _ => pts_nil) (fun _ _ _ _ _ => pc (ok__law_is_count E) hr (by decide) pass0 rfl (pa_cons (pv 2) pa_nil))) pa_nil)) (by intro _; rfl)))
   (pss_one (ps_ret (pe_bl)))
   pss_nil)
  (pss_one (ps_ret (pe_and (pc (ok__law_is_count E) hr (by decide) pass0 rfl (pa_cons (kFld K (pv 0) rfl) pa_nil)) (pe_one (pe_cmpR (kEq K hr) (kFld K (pv 0) rfl) (pe_ix (kIx K) (pv 1) (pe_int) (fun _ _ => rfl)) (nomark _))))))))), ?_⟩
  change (_ : TS) _ [some v0, some v1, none] H
  try dsimp only [cxOf, Cx.nox, Cx.blk]
  obtain ⟨x, h, l, r, rfl, t, hD, p1, p2, p3, z1, z2, k⟩ := h
  obtain ⟨a, th, tl, rfl, s1, s2, s3⟩ := dp_raw hD
  walk_at "w"
  refine r_isiC (insB_ok E.ins_Table E.c_Table (tab_mine t).choose_spec.choose_spec) E.kit_Table_self ?_
  walk_at "w"
  intro th1 q1
  walk_at "w"
  intro tl1 q2
  walk_at "w"
  intro th2 q3
  walk_at "w"
  intro tl2 q4
  walk_at "w"
  refine i_seqT ?_
  walk_at "w"
  intro th3 q5
  walk_at "w"
  intro tl3 q6
  walk_at "w"
  refine r_addT q5 q6 (by walk_at "sz") fun p5 H5 e5 h5 => ?_
  walk_at "w"
  rw [show vI h ++ vI l = vI (h ++ l) from List.map_append.symm] at h5
  have hp : ∀ n ∈ h ++ l, 0 ≤ n := fun n hn => (List.mem_append.mp hn).elim (p1 n) (p2 n)
  refine lcJ_tup (v := fun _ => .bl true) h5 (by rw [List.length_map, List.length_append]; omega) (fun x => [_, _, some x]) (fun x => rfl) (fun x => rfl) (fun x H2 Q' e2 hx hq => ?_) (fun p H2 n2 e2 hp => ?_)
  · walk_at "w"
    obtain ⟨n, hn, rfl⟩ := List.mem_map.mp hx
    refine ⟨.int n, .int n, fun v H3 e3 d3 => ?_⟩
    rw [show dIsCount (.int n) = true from decide_eq_true (hp n hn)] at d3
    obtain rfl := dp_toBl d3
    exact hq H3 e3
  · walk_at "w"
    refine r_all (bs := (vI (h ++ l)).map fun _ => true) (sq_of hp) (List.map_map ..).symm ?_
    have : ((vI (h ++ l)).map fun _ => true).all id = true := by simp
    rw [this]
    walk_at "w"
    refine ⟨.int r, .int r, fun v H3 e3 d3 => ?_⟩
    rw [show dIsCount (.int r) = true from decide_eq_true p3] at d3
    obtain rfl := dp_toBl d3
    walk_at "w"
    rw [decide_eq_true (rfl : r = r)]
    exact k.bl (by walk_at "ex")

end
section
def leO : Option Int → Option Int → Bool
  | _, none => true
  | none, some _ => false
  | some a, some b => decide (a ≤ b)
def topO (a b : Option Int) : Option Int := if leO a b = true then b else a
def lowO (a b : Option Int) : Option Int := if leO a b = true then a else b
def jnO (g : Bool) (a b : Option Int) : Option Int := if g = true then topO a b else lowO a b
abbrev N__law_le : List Str := ["one", "other"]
theorem sc__law_le : FnScope N__law_le ["one", "other"] (defScope s__law_le) := ⟨rfl, rfl, rfl, by decide +kernel, rfl, by decide +kernel, by decide +kernel⟩
theorem ok__law_le {P : Program} {w : World} {K : PySem.W.Frag} {mg : Str → Option Value} {base : Heap} (E : Env P K mg) : Fn P w K mg base CX0 1 "_law_le" (sp2 fun a b H Q _ => ∃ o p, a = optV o ∧ b = optV p ∧ Q (.bl (leO o p)) H) := by
  obtain ⟨fd, F⟩ := E.dd__law_le
  refine Fn.mk0 F E.g__law_le sc__law_le sp2_len (fun _ _ _ _ _ _ us hl => match us, hl with | [_, _], _ => rfl) (fun cdv A outer s H vs Q X hr h => ?_)
  have nd := sc__law_le.nd
  obtain ⟨v0, v1, rfl, h⟩ := h
  refine ⟨_, (pss_one (ps_ret (pe_or (pe_cmpR xIs (pv 1) (pe_non) (nomark _)) (pe_one (pe_and (pe_cmpR xIsNot (pv 0) (pe_non) (nomark _)) (pe_one (pe_cmpR op_le (pv 0) (pv 1) (nomark _)))))))), ?_⟩
  change (_ : TS) _ [some v0, some v1] H
  try dsimp only [cxOf, Cx.nox, Cx.blk]
  obtain ⟨o, p, rfl, rfl, k⟩ := h
  cases p with
  | none =>
    simp only [optV]
    walk_at "w"
    cases o <;> exact k
  | some p =>
    cases o with
    | none => simp only [optV]; walk_at "w"; exact k
    | some o => simp only [optV]; walk_at "w"; exact k
theorem lcm_div (i j : Nat) : ((i : Int) / (Int.gcd i j : Int)) * j = ((Nat.lcm i j : Nat) : Int) := by
  show ((i : Int) / ((Nat.gcd i j : Nat) : Int)) * j = _
  rw [← Int.natCast_ediv, ← Int.natCast_mul]
  congr 1
  unfold Nat.lcm
  exact (Nat.div_mul_right_comm (Nat.gcd_dvd_left i j) j)
/-- the counts ahead of the first never -/
def cnts : List (Option Int) → List Int
  | some a :: r => a :: cnts r
  | _ => []
theorem cnts_snoc : ∀ {xs : List (Option Int)} {i : Nat} {a : Int}, (cnts (xs.take i)).length = i → xs[i]? = some (some a) → cnts (xs.take (i + 1)) = cnts (xs.take i) ++ [a] ∧ (cnts (xs.take (i + 1))).length = i + 1
  | [], _, _, _, e => by simp at e
  | none :: r, 0, a, _, e => by simp at e
  | some b :: r, 0, a, _, e => by
    simp at e
    subst e
    simp [cnts]
  | none :: r, i + 1, a, h, _ => by simp [cnts] at h
  | some b :: r, i + 1, a, h, e => by
    simp only [List.take_succ_cons, cnts, List.length_cons] at h
    have := cnts_snoc (xs := r) (i := i) (a := a) (by omega) (by simpa using e)
    simp only [List.take_succ_cons, cnts, List.length_cons, List.cons_append]
    exact ⟨congrArg _ this.1, by omega⟩
theorem cnts_stop : ∀ {xs : List (Option Int)} {i : Nat}, (cnts (xs.take i)).length = i → xs[i]? = some none → cnts xs = cnts (xs.take i)
  | [], _, _, e => by simp at e
  | none :: r, 0, _, _ => rfl
  | some b :: r, 0, _, e => by simp at e
  | none :: r, i + 1, h, _ => by simp [cnts] at h
  | some b :: r, i + 1, h, e => by
    simp only [List.take_succ_cons, cnts, List.length_cons] at h
    have := cnts_stop (xs := r) (i := i) (by omega) (by simpa using e)
    simp only [List.take_succ_cons, cnts]
    rw [this]

end
section
theorem fr_tab {K : PySem.W.Frag} {a x : Addr} {H H' : Hp} {h l : List Int} {r : Int} (f : Fr a H H') (s : SrcAt H a) (t : TabAt K H x h l r) : TabAt K H' x h l r := by
  obtain ⟨dx, th, tl, h1, h2, h3⟩ := t
  refine ⟨dx, th, tl, f x _ ?_ h1, fr_t f s h2, fr_t f s h3⟩
  rintro rfl
  obtain ⟨d, sd, c, q, _⟩ := s
  rw [h1] at q
  cases q
theorem valueAt_nn {h l : List Int} {r : Int} (ph : allPos h) (pl : allPos l) (hr : 0 ≤ r) (o : Option Int) : ∀ i, valueAt h l r o = some i → 0 ≤ i := by
  intro i e
  cases o with
  | none =>
    have e : endOf l r = some i := e
    unfold endOf at e
    split at e
    · cases e
    · cases e; exact gI_nn pl _
  | some p =>
    have e : vat h l r p = some i := e
    unfold vat at e
    split at e
    · cases e; exact Int.le_refl _
    · split at e
      · cases e; exact gI_nn ph _
      · split at e
        · cases e
        · rename_i c1 c2 _
          cases e
          exact Int.add_nonneg (gI_nn pl _) (Int.mul_nonneg hr (Int.ediv_nonneg (by omega) (by omega)))
theorem dp_toOpt {K : PySem.W.Frag} {H : Hp} {v : V} {o : Option Int} (h : Dp K H v (dOpt o)) : v = optV o := by
  cases o with
  | none => exact dp_toNon h
  | some i => exact dp_toInt h
theorem w_lstRg {K : PySem.W.Frag} {n : Int} {σ : L2.St} {H : Hp} {Q : VK} (ok : RgOk 0 n) (q : ∀ p H1, H p = none → Ex H H1 → H1 p = some (.lst (rgV 0 n)) → Q (.ref p) H1) : tLstRg (tRg1 (tC (.int n))) σ H Q := ⟨n, rfl, ok, fun p hp => q p _ hp (Ex.new hp) upd_same⟩
theorem src_fr {x y : Addr} {H H' : Hp} (n : x ≠ y) (f : Fr y H H') (q : SrcAt H x) : SrcAt H' x := by
  obtain ⟨d, s, c, w1, w2⟩ := q
  exact ⟨d, s, c, f _ _ n w1, w2⟩
theorem l_fr {K : PySem.W.Frag} {a x : Addr} {H0 H H' : Hp} {xs : List V} (f : Fr x H H') (s0 : SqL K H0 a xs) (n : H0 x = none) (s : SqL K H a xs) : SqL K H' a xs := by
  rcases s0 with s0 | s0
  · have hne : a ≠ x := by
      rintro rfl
      rcases s0 with q | ⟨o', q⟩ <;> rw [n] at q <;> cases q
    rcases s with s | s
    · rcases s with q | ⟨o', q⟩
      · exact .inl (.inl (f _ _ hne q))
      · exact .inl (.inr ⟨o', f _ _ hne q⟩)
    · exact .inr s
  · exact .inr s0

end
section
/-- deeds: none gives, some i takes at i -/
abbrev Dd := Option Int
def gV : Dd → V
  | none => .str "give"
  | some i => .int i
def gD : Dd → PyData
  | none => .str "give"
  | some i => .int i
def okD (k : Int) (d : Dd) : Prop := ∀ i, d = some i → 0 ≤ i ∧ i < k
theorem r_eqSS {K : PySem.W.Frag} {x y : Str} {H : Hp} {Q : VK} (h : Q (.bl (decide (x = y))) H) : rEqU K (.str x) (.str y) H Q := .inl ⟨rfl, by
  rw [show decide (V.str x = V.str y) = decide (x = y) from decide_eq_decide.mpr ⟨V.str.inj, congrArg _⟩]
  exact h⟩
section
variable {K : PySem.W.Frag} {H H' : Hp} {v : V} {a b : Addr} {Q : VK} {xs : List V}
theorem gV_inj {d e : Dd} : gV d = gV e ↔ d = e := by cases d <;> cases e <;> simp [gV]
theorem gV_scal (d e : Dd) : scal (gV d) (gV e) = true := by cases d <;> cases e <;> rfl
theorem r_eqG {d e : Dd} (h : Q (.bl (decide (d = e))) H) : rEqU K (gV d) (gV e) H Q := .inl ⟨gV_scal d e, by
  rw [show decide (gV d = gV e) = decide (d = e) from decide_eq_decide.mpr gV_inj]
  exact h⟩
theorem r_eqGive {d : Dd} (h : Q (.bl (decide (d = none))) H) : rEqU K (gV d) (.str "give") H Q := r_eqG (e := none) h
theorem r_eqTake {d : Dd} {i : Int} (h : Q (.bl (decide (d = some i))) H) : rEqU K (gV d) (.int i) H Q := r_eqG (e := some i) h
theorem dp_gD (d : Dd) : Dp K H (gV d) (gD d) := by
  cases d
  · exact .str _
  · exact .int _
theorem dpAll_gD : ∀ {w : List Dd}, DpAll K H (w.map gV) (w.map gD)
  | [] => .nil
  | d :: _ => .cons (dp_gD d) dpAll_gD
theorem dpAll_toG : ∀ {w : List Dd} {vs : List V}, DpAll K H vs (w.map gD) → vs = w.map gV
  | [], _, .nil => rfl
  | none :: _, _, .cons (.str _) r => by rw [dpAll_toG r]; rfl
  | some i :: _, _, .cons (.int _) r => by rw [dpAll_toG r]; rfl
def dW (w : List Dd) : PyData := .tuple (w.map gD)
theorem dp_dW {w : List Dd} (h : Dp K H v (dW w)) : ∃ a, v = .ref a ∧ SqT K H a (w.map gV) := by
  unfold dW at h
  cases h with
  | tup h a => rw [dpAll_toG a] at h; exact ⟨_, rfl, h⟩
theorem dp_of_dW {w : List Dd} (h : SqT K H a (w.map gV)) : Dp K H (.ref a) (dW w) := .tup h dpAll_gD
theorem shpAll_gD {n : Nat} : ∀ w : List Dd, shpAll n (w.map gD) = true
  | [] => by cases n <;> (unfold shpAll; rfl)
  | d :: w => by
    rw [List.map_cons]
    unfold shpAll
    rw [shpAll_gD w]
    cases d <;> cases n <;> rfl
theorem dDeep_gD (w : List Dd) : dDeepAll (w.map gD) = w.map gD := by
  rw [dDeepAll_eq, List.map_map]
  congr 1
  funext d
  cases d <;> rfl
/-- a seq of deeds as data -/
theorem sqE_d {w : List Dd} (h : SqE K H a (w.map gV)) (z : w.length ≤ 50000) : ∃ d, Dp K H (.ref a) d ∧ dIsSeq d = true ∧ dDeep d = dW w ∧ ∀ n, shp (n + 1) d = true := by
  have zz : decide ((w.map gD).length ≤ 50000) = true := by rw [List.length_map, decide_eq_true z]
  rcases h with h | h
  · refine ⟨.list (w.map gD), .lst h dpAll_gD, rfl, by show PyData.tuple (dDeepAll (w.map gD)) = _; rw [dDeep_gD]; rfl, fun n => ?_⟩
    show (decide ((w.map gD).length ≤ 50000) && shpAll n (w.map gD)) = true
    rw [zz, shpAll_gD]
    rfl
  · refine ⟨.tuple (w.map gD), .tup h dpAll_gD, rfl, by show PyData.tuple (dDeepAll (w.map gD)) = _; rw [dDeep_gD]; rfl, fun n => ?_⟩
    show (decide ((w.map gD).length ≤ 50000) && shpAll n (w.map gD)) = true
    rw [zz, shpAll_gD]
    rfl
/-- rows of deeds -/
def WsAt (K : PySem.W.Frag) (H : Hp) : List V → List (List Dd) → Prop
  | [], [] => True
  | x :: xs, w :: ws => (∃ p, x = .ref p ∧ SqE K H p (w.map gV)) ∧ WsAt K H xs ws
  | _, _ => False
theorem ws_len : ∀ {xs : List V} {ws : List (List Dd)}, WsAt K H xs ws → xs.length = ws.length
  | [], [], _ => rfl
  | _ :: _, _ :: _, h => congrArg Nat.succ (ws_len h.2)
  | [], _ :: _, h => h.elim
  | _ :: _, [], h => h.elim
theorem ws_ex (e : Ex H H') : ∀ {xs : List V} {ws : List (List Dd)}, WsAt K H xs ws → WsAt K H' xs ws
  | [], [], _ => trivial
  | _ :: _, _ :: _, h => ⟨let ⟨p, e1, s⟩ := h.1; ⟨p, e1, ex_e e s⟩, ws_ex e h.2⟩
  | [], _ :: _, h => h.elim
  | _ :: _, [], h => h.elim
theorem ws_get : ∀ {xs : List V} {ws : List (List Dd)} {i : Nat} {x : V}, WsAt K H xs ws → xs[i]? = some x → ∃ p w, x = .ref p ∧ ws[i]? = some w ∧ SqE K H p (w.map gV)
  | [], [], _, _, _, e => by simp at e
  | _ :: _, w :: _, 0, _, h, e => by
    obtain ⟨p, e1, s⟩ := h.1
    simp at e
    subst e
    exact ⟨p, w, e1, rfl, s⟩
  | _ :: _, _ :: _, i + 1, x, h, e => by
    obtain ⟨p, w, e1, e2, s⟩ := ws_get (i := i) (x := x) h.2 (by simpa using e)
    exact ⟨p, w, e1, by simpa using e2, s⟩
  | [], _ :: _, _, _, h, _ => h.elim
  | _ :: _, [], _, _, h, _ => h.elim
theorem ws_mem {xs : List V} {ws : List (List Dd)} {x : V} (h : WsAt K H xs ws) (hx : x ∈ xs) : ∃ p w, x = .ref p ∧ w ∈ ws ∧ SqE K H p (w.map gV) := by
  obtain ⟨i, hi⟩ := List.getElem?_of_mem hx
  obtain ⟨p, w, e1, e2, s⟩ := ws_get h hi
  exact ⟨p, w, e1, List.mem_of_getElem? e2, s⟩
theorem ws_of : ∀ {xs : List V} {ws : List (List Dd)}, DpAll K H xs (ws.map dW) → WsAt K H xs ws
  | _, [], .nil => trivial
  | _, _ :: _, .cons a r => ⟨let ⟨p, e, s⟩ := dp_dW a; ⟨p, e, .inr s⟩, ws_of r⟩
/-- rows as data -/
theorem ws_d : ∀ {xs : List V} {ws : List (List Dd)}, WsAt K H xs ws → (∀ w ∈ ws, w.length ≤ 50000) → ∃ ds, DpAll K H xs ds ∧ dDeepAll ds = ws.map dW ∧ (∀ n, shpAll (n + 1) ds = true) ∧ ds.length = ws.length
  | [], [], _, _ => ⟨[], .nil, rfl, fun n => (by unfold shpAll; rfl), rfl⟩
  | x :: xs, w :: ws, h, z => by
    obtain ⟨⟨p, rfl, s⟩, h2⟩ := h
    obtain ⟨d, h1, _, h3, h4⟩ := sqE_d s (z w List.mem_cons_self)
    obtain ⟨ds, g1, g2, g3, g4⟩ := ws_d h2 fun u hu => z u (List.mem_cons_of_mem _ hu)
    refine ⟨d :: ds, .cons h1 g1, ?_, fun n => ?_, congrArg Nat.succ g4⟩
    · show dDeep d :: dDeepAll ds = _
      rw [h3, g2]
      rfl
    · unfold shpAll
      rw [h4, g3]
      rfl
  | [], _ :: _, h, _ => h.elim
  | _ :: _, [], h, _ => h.elim
theorem sqW_d {ws : List (List Dd)} (h : SqE K H a xs) (hw : WsAt K H xs ws) (z : ∀ w ∈ ws, w.length ≤ 50000) (zz : ws.length ≤ 50000) : ∃ d, Dp K H (.ref a) d ∧ dIsSeq d = true ∧ dDeep d = .tuple (ws.map dW) ∧ shp 6 d = true := by
  obtain ⟨ds, g1, g2, g3, g4⟩ := ws_d hw z
  have z2 : decide (ds.length ≤ 50000) = true := decide_eq_true (by omega)
  rcases h with h | h
  · refine ⟨.list ds, .lst h g1, rfl, by show PyData.tuple (dDeepAll ds) = _; rw [g2], ?_⟩
    show (decide (ds.length ≤ 50000) && shpAll 5 ds) = true
    rw [z2, g3]
    rfl
  · refine ⟨.tuple ds, .tup h g1, rfl, by show PyData.tuple (dDeepAll ds) = _; rw [g2], ?_⟩
    show (decide (ds.length ≤ 50000) && shpAll 5 ds) = true
    rw [z2, g3]
    rfl
end
abbrev N_is_deed : List Str := ["inlets", "thing"]
theorem sc_is_deed : FnScope N_is_deed ["inlets", "thing"] (defScope s_is_deed) := ⟨rfl, rfl, rfl, by decide +kernel, rfl, by decide +kernel, by decide +kernel⟩
theorem ok_is_deed {P : Program} {w : World} {K : PySem.W.Frag} {mg : Str → Option Value} {base : Heap} (E : Env P K mg) : Fn P w K mg base CX0 2 "is_deed" (sp2 fun a v H Q _ => ∃ (k : Int) (d : Dd), a = .int k ∧ v = gV d ∧ okD k d ∧ ∀ H', Ex H H' → Q (.bl true) H') := by
  obtain ⟨fd, F⟩ := E.dd_is_deed
  refine Fn.mk0 F E.g_is_deed sc_is_deed sp2_len (fun _ _ _ _ _ _ us hl => match us, hl with | [_, _], _ => rfl) (fun cdv A outer s H vs Q X hr h => ?_)
  have nd := sc_is_deed.nd
  obtain ⟨v0, v1, rfl, h⟩ := h
  refine ⟨_, (pss_cons (ps_if (kTru K (pe_callB (kIsi K) (by rfl) E.f_isinstance (by decide +kernel) (pa_cons (pv 1) (pa_cons (pe_bltn (v := .ty "str") (by rfl) E.f_str (by decide +kernel) rfl) pa_nil))) (by intro _; rfl))
   (pss_one (ps_ret (pe_cmpR (kEq K hr) (pv 1) ((E.k_GIVE).elim fun t e => pe_glob (v := .str "give") (by rfl) e ⟨t, rfl⟩) (nomark _))))
   pss_nil)
  (pss_one (ps_ret (pe_and (pc (ok_is_integer E) hr (by decide) pass0 rfl (pa_cons (pv 1) pa_nil)) (pe_one (pe_chain op_le op_lt (pe_int) (pv 1) (pv 0))))))), ?_⟩
  change (_ : TS) _ [some v0, some v1] H
  try dsimp only [cxOf, Cx.nox, Cx.blk]
  obtain ⟨k0, d, rfl, rfl, ok, k⟩ := h
  cases d with
  | none =>
    simp only [gV]
    walk_at "w"
    refine r_eqSS ?_
    exact k _ (Ex.refl _)
  | some i =>
    obtain ⟨o1, o2⟩ := ok i rfl
    simp only [gV]
    walk_at "w"
    refine ⟨.int i, .int i, fun v H1 e1 d1 => ?_⟩
    obtain rfl := dp_toBl d1
    walk_at "w"
    rw [decide_eq_true o2]
    exact k _ e1
abbrev N_is_deeds : List Str := ["inlets", "thing", "one"]
theorem sc_is_deeds : FnScope N_is_deeds ["inlets", "thing"] (defScope s_is_deeds) := ⟨rfl, rfl, rfl, by decide +kernel, rfl, by decide +kernel, by decide +kernel⟩
theorem ok_is_deeds {P : Program} {w : World} {K : PySem.W.Frag} {mg : Str → Option Value} {base : Heap} (E : Env P K mg) : Fn P w K mg base CX0 3 "is_deeds" (sp2 fun a v H Q _ => ∃ (k : Int) (p : Addr) (b : List Dd), a = .int k ∧ v = .ref p ∧ SqE K H p (b.map gV) ∧ b.length ≤ 50000 ∧ (∀ d ∈ b, okD k d) ∧ ∀ H', Ex H H' → Q (.bl true) H') := by
  obtain ⟨fd, F⟩ := E.dd_is_deeds
  refine Fn.mk0 F E.g_is_deeds sc_is_deeds sp2_len (fun _ _ _ _ _ _ us hl => match us, hl with | [_, _], _ => rfl) (fun cdv A outer s H vs Q X hr h => ?_)
  have nd := sc_is_deeds.nd
  obtain ⟨v0, v1, rfl, h⟩ := h
  refine ⟨_, (pss_one (ps_ret (pe_and (pc (ok_is_listed E) hr (by decide) pass0 rfl (pa_cons (pv 1) pa_nil)) (pe_one (pe_callB (kAll K rfl) (by rfl) E.f_all (by decide +kernel) (pa_cons (pe_lc (own := [("one", 2)]) (g := gName 2) (tt := tYes) rfl nd (kSeq K (pv 1)) (blkOk_by (N := N_is_deeds) (sc := defScope s_is_deeds) (by decide +kernel)) (fun _ _ _ _ _ => pg_name (i := 2) nd rfl (Or.inl rfl)) (fun _ _ _ _ _ => pts_nil) (fun _ _ _ _ _ => pc (ok_is_deed E) hr (by decide) pass0 rfl (pa_cons (pv 0) (pa_cons (pv 2) pa_nil)))) pa_nil)))))), ?_⟩
  change (_ : TS) _ [some v0, some v1, none] H
  try dsimp only [cxOf, Cx.nox, Cx.blk]
  obtain ⟨k0, p, b, rfl, rfl, s, z, ok, k⟩ := h
  obtain ⟨d, hd, hq, _, _⟩ := sqE_d s z
  walk_at "w"
  refine ⟨d, .inl hd, fun v H1 e1 d1 => ?_⟩
  rw [hq] at d1
  obtain rfl := dp_toBl d1
  walk_at "w"
  have key : ∀ (x : V) (H2 : Hp) (Q' : VK), x ∈ b.map gV → (∀ H3, Ex H2 H3 → Q' (.bl true) H3) → ∃ (k : Int) (d : Dd), V.int k0 = .int k ∧ x = gV d ∧ okD k d ∧ ∀ H', Ex H2 H' → Q' (.bl true) H' := fun x H2 Q' hx hq => by
    obtain ⟨d, hd, rfl⟩ := List.mem_map.mp hx
    exact ⟨k0, d, rfl, rfl, ok d hd, hq⟩
  have fin : ∀ (p : Addr) (H2 : Hp), Ex H H2 → H2 p = some (.lst ((b.map gV).map fun _ => V.bl true)) → rAll K [.ref p] H2 (fun v H => Q v H) := fun p H2 e2 hp => by
    refine r_all (bs := (b.map gV).map fun _ => true) (sq_of hp) (by simp [Function.comp]) ?_
    rw [show ((b.map gV).map fun _ => true).all id = true by simp]
    exact k _ e2
  rcases s with s | s
  · refine i_seqL ?_
    walk_at "w"
    refine lcJ_list (v := fun _ => .bl true) (ex_l e1 s) (by rw [List.length_map]; omega) (fun x => [_, _, some x]) (fun x => rfl) (fun x => rfl) (fun x H2 Q' e2 hx hq => ?_) (fun p H2 n2 e2 hp => ?_)
    · walk_at "w"
      exact key x H2 Q' hx hq
    · walk_at "w"
      exact fin p H2 (e1.trans e2) hp
  · refine i_seqT ?_
    walk_at "w"
    refine lcJ_tup (v := fun _ => .bl true) (ex_t e1 s) (by rw [List.length_map]; omega) (fun x => [_, _, some x]) (fun x => rfl) (fun x => rfl) (fun x H2 Q' e2 hx hq => ?_) (fun p H2 n2 e2 hp => ?_)
    · walk_at "w"
      exact key x H2 Q' hx hq
    · walk_at "w"
      exact fin p H2 (e1.trans e2) hp
theorem r_lenE {K : PySem.W.Frag} {H : Hp} {Q : VK} {a : Addr} {xs : List V} (h : SqE K H a xs) (q : Q (.int (xs.length : Int)) H) : rLenU K [.ref a] H Q := h.elim (fun h => r_lenL h q) (fun h => r_lenT h q)
theorem r_ixE {K : PySem.W.Frag} {H : Hp} {Q : VK} {a : Addr} {xs : List V} {i : Int} {v : V} (h : SqE K H a xs) (ha : atI xs i = some v) (q : Q v H) : rIx K (.ref a) (.int i) H Q := h.elim (fun h => r_ixL h ha q) (fun h => r_ixT h ha q)
abbrev N_is_ways : List Str := ["inlets", "thing", "one"]
theorem sc_is_ways : FnScope N_is_ways ["inlets", "thing"] (defScope s_is_ways) := ⟨rfl, rfl, rfl, by decide +kernel, rfl, by decide +kernel, by decide +kernel⟩
theorem ok_is_ways {P : Program} {w : World} {K : PySem.W.Frag} {mg : Str → Option Value} {base : Heap} (E : Env P K mg) : Fn P w K mg base CX0 4 "is_ways" (sp2 fun a v H Q _ => ∃ (k : Int) (p : Addr) (xs : List V) (ws : List (List Dd)), a = .int k ∧ v = .ref p ∧ SqE K H p xs ∧ WsAt K H xs ws ∧ 1 ≤ ws.length ∧ ws.length ≤ 4 ∧ (∀ w ∈ ws, w ≠ [] ∧ w.length ≤ 50000 ∧ ∀ d ∈ w, okD k d) ∧ ∀ H', Ex H H' → Q (.bl true) H') := by
  obtain ⟨fd, F⟩ := E.dd_is_ways
  refine Fn.mk0 F E.g_is_ways sc_is_ways sp2_len (fun _ _ _ _ _ _ us hl => match us, hl with | [_, _], _ => rfl) (fun cdv A outer s H vs Q X hr h => ?_)
  have nd := sc_is_ways.nd
  obtain ⟨v0, v1, rfl, h⟩ := h
  refine ⟨_, (pss_cons (ps_if (PW.pt (pw_or (pt_not (kTru K (pc (ok_is_listed E) hr (by decide) pass0 rfl (pa_cons (pv 1) pa_nil)) (by intro _; rfl))) (pw_or1 (pt_not (pt_chain op_le op_le (pe_int) (pe_callB (kLen K) (by rfl) E.f_len (by decide +kernel) (pa_cons (pv 1) pa_nil)) ((E.k_MOST_WAYS).elim fun t e => pe_glob (v := .int 4) (by rfl) e ⟨t, rfl⟩))))))
   (pss_one (ps_ret (pe_bl)))
   pss_nil)
  (pss_one (ps_ret (pe_callB (kAll K rfl) (by rfl) E.f_all (by decide +kernel) (pa_cons (pe_lc (own := [("one", 2)]) (g := gName 2) (tt := tYes) rfl nd (kSeq K (pv 1)) (blkOk_by (N := N_is_ways) (sc := defScope s_is_ways) (by decide +kernel)) (fun _ _ _ _ _ => pg_name (i := 2) nd rfl (Or.inl rfl)) (fun _ _ _ _ _ => pts_nil) (fun _ _ _ _ _ => pe_and (pc (ok_is_deeds E) hr (by decide) pass0 rfl (pa_cons (pv 0) (pa_cons (pv 2) pa_nil))) (pe_one (pe_cmpR op_gt (pe_callB (kLen K) (by rfl) E.f_len (by decide +kernel) (pa_cons (pv 2) pa_nil)) (pe_int) (nomark _))))) pa_nil))))), ?_⟩
  change (_ : TS) _ [some v0, some v1, none] H
  try dsimp only [cxOf, Cx.nox, Cx.blk]
  obtain ⟨k0, p, xs, ws, rfl, rfl, s, hw, z1, z2, ok, k⟩ := h
  obtain ⟨d, hd, hq, _, _⟩ := sqW_d s hw (fun w h => (ok w h).2.1) (by omega)
  have zl := ws_len hw
  walk_at "w"
  refine ⟨d, .inl hd, fun v H1 e1 d1 => ?_⟩
  rw [hq] at d1
  obtain rfl := dp_toBl d1
  have s1 := ex_e e1 s
  walk_at "w"
  refine r_lenE s1 ?_
  walk_at "w"
  have key : ∀ (x : V) (H2 : Hp), Ex H H2 → x ∈ xs → ∃ p w, x = .ref p ∧ SqE K H2 p (w.map gV) ∧ w ≠ [] ∧ w.length ≤ 50000 ∧ ∀ d ∈ w, okD k0 d := fun x H2 e2 hx => by
    obtain ⟨p, w, e1, hm, s⟩ := ws_mem hw hx
    obtain ⟨a, b, c⟩ := ok w hm
    exact ⟨p, w, e1, ex_e e2 s, a, b, c⟩
  have fin : ∀ (p : Addr) (H2 : Hp), Ex H H2 → H2 p = some (.lst (xs.map fun _ => V.bl true)) → rAll K [.ref p] H2 (fun v H => Q v H) := fun p H2 e2 hp => by
    refine r_all (bs := xs.map fun _ => true) (sq_of hp) (by simp [Function.comp]) ?_
    rw [show (xs.map fun _ => true).all id = true by simp]
    exact k _ e2
  rcases s with s | s
  · refine i_seqL ?_
    walk_at "w"
    refine lcJ_list (v := fun _ => .bl true) (ex_l e1 s) (by omega) (fun x => [_, _, some x]) (fun x => rfl) (fun x => rfl) (fun x H2 Q' e2 hx hq => ?_) (fun p H2 n2 e2 hp => ?_)
    · obtain ⟨q, w, rfl, sw, wn, wz, wo⟩ := key x H2 (e1.trans e2) hx
      walk_at "w"
      refine ⟨k0, q, w, rfl, rfl, sw, wz, wo, fun H3 e3 => ?_⟩
      have sw3 := ex_e e3 sw
      have wl : 0 < w.length := List.length_pos_iff.mpr wn
      walk_at "w"
      refine r_lenE sw3 ?_
      rw [List.length_map]
      walk_at "w"
      rw [decide_eq_true (show (0 : Int) < w.length by omega)]
      exact hq _ e3
    · walk_at "w"
      exact fin p H2 (e1.trans e2) hp
  · refine i_seqT ?_
    walk_at "w"
    refine lcJ_tup (v := fun _ => .bl true) (ex_t e1 s) (by omega) (fun x => [_, _, some x]) (fun x => rfl) (fun x => rfl) (fun x H2 Q' e2 hx hq => ?_) (fun p H2 n2 e2 hp => ?_)
    · obtain ⟨q, w, rfl, sw, wn, wz, wo⟩ := key x H2 (e1.trans e2) hx
      walk_at "w"
      refine ⟨k0, q, w, rfl, rfl, sw, wz, wo, fun H3 e3 => ?_⟩
      have sw3 := ex_e e3 sw
      have wl : 0 < w.length := List.length_pos_iff.mpr wn
      walk_at "w"
      refine r_lenE sw3 ?_
      rw [List.length_map]
      walk_at "w"
      rw [decide_eq_true (show (0 : Int) < w.length by omega)]
      exact hq _ e3
    · walk_at "w"
      exact fin p H2 (e1.trans e2) hp

end
section
def dMk (k : Int) (b : List Dd) (ws : List (List Dd)) : PyData := .tuple [.int k, dW b, .tuple (ws.map dW)]
/-- a maker that may be made -/
structure MkOk (k : Int) (b : List Dd) (ws : List (List Dd)) : Prop where
  k1 : 1 ≤ k
  k3 : k ≤ 3
  ob : ∀ d ∈ b, okD k d
  zb : b.length ≤ 600
  w1 : 1 ≤ ws.length
  w4 : ws.length ≤ 4
  ow : ∀ w ∈ ws, w ≠ [] ∧ ∀ d ∈ w, okD k d
  zw : ∀ w ∈ ws, w.length ≤ if ws.length = 1 then 600 else 24
theorem MkOk.z6 {k : Int} {b : List Dd} {ws : List (List Dd)} (h : MkOk k b ws) : ∀ w ∈ ws, w.length ≤ 600 := fun w hw => by
  have := h.zw w hw
  split at this <;> omega
theorem kn_ib : ¬ (("inlets" : Str) = "begin") := by decide +kernel
theorem kn_iw : ¬ (("inlets" : Str) = "ways") := by decide +kernel
theorem kn_bw : ¬ (("begin" : Str) = "ways") := by decide +kernel
def kF (a b c : V) : List (Str × V) := putF "ways" c (putF "begin" b (putF "inlets" a []))
section
variable {a b c : V}
theorem kF_in : (kF a b c).lookup ("inlets" : Str) = some a := by
  unfold kF
  rw [lookup_putF, if_neg kn_iw, lookup_putF, if_neg kn_ib, lookup_putF, if_pos rfl]
theorem kF_be : (kF a b c).lookup ("begin" : Str) = some b := by
  unfold kF
  rw [lookup_putF, if_neg kn_bw, lookup_putF, if_pos rfl]
theorem kF_wa : (kF a b c).lookup ("ways" : Str) = some c := by
  unfold kF
  rw [lookup_putF, if_pos rfl]
theorem kF_no {m : Str} (h1 : ¬ m = "inlets") (h2 : ¬ m = "begin") (h3 : ¬ m = "ways") : (kF a b c).lookup m = none := by
  unfold kF
  rw [lookup_putF, if_neg h3, lookup_putF, if_neg h2, lookup_putF, if_neg h1]
  rfl
end
/-- a maker stands at x -/
def MakAt (K : PySem.W.Frag) (H : Hp) (x : Addr) (k : Int) (b : List Dd) (ws : List (List Dd)) : Prop := ∃ dx vb vw, H x = some (.ins (He.ga K "Maker") dx (kF (.int k) vb vw)) ∧ Dp K H vb (dW b) ∧ Dp K H vw (.tuple (ws.map dW))
theorem ex_mak {K : PySem.W.Frag} {H H' : Hp} {x : Addr} {k : Int} {b : List Dd} {ws : List (List Dd)} (e : Ex H H') (t : MakAt K H x k b ws) : MakAt K H' x k b ws := by
  obtain ⟨dx, vb, vw, h1, h2, h3⟩ := t
  exact ⟨dx, vb, vw, e _ _ h1, dp_ex e h2, dp_ex e h3⟩
section
variable {P : Program} {K : PySem.W.Frag} {mg : Str → Option Value} {H : Hp} {x : Addr} {k : Int} {b : List Dd} {ws : List (List Dd)} {Q : VK}
theorem r_makIn (E : Env P K mg) (t : MakAt K H x k b ws) (q : Q (.int k) H) : GetF K "inlets" (.ref x) H Q := by
  obtain ⟨dx, vb, vw, h1, h2, h3⟩ := t
  exact r_getF h1 E.c_Maker E.na_Maker_inlets kF_in q
theorem r_makBe (E : Env P K mg) (t : MakAt K H x k b ws) (q : ∀ a, SqT K H a (b.map gV) → Q (.ref a) H) : GetF K "begin" (.ref x) H Q := by
  obtain ⟨dx, vb, vw, h1, h2, h3⟩ := t
  obtain ⟨a, rfl, s⟩ := dp_dW h2
  exact r_getF h1 E.c_Maker E.na_Maker_begin kF_be (q a s)
theorem dp_ways {v : V} (h : Dp K H v (.tuple (ws.map dW))) : ∃ a xs, v = .ref a ∧ SqT K H a xs ∧ DpAll K H xs (ws.map dW) := by
  cases h with
  | tup h a => exact ⟨_, _, rfl, h, a⟩
theorem r_makWa (E : Env P K mg) (t : MakAt K H x k b ws) (q : ∀ a xs, SqT K H a xs → DpAll K H xs (ws.map dW) → Q (.ref a) H) : GetF K "ways" (.ref x) H Q := by
  obtain ⟨dx, vb, vw, h1, h2, h3⟩ := t
  obtain ⟨a, xs, rfl, s, d⟩ := dp_ways h3
  exact r_getF h1 E.c_Maker E.na_Maker_ways kF_wa (q a xs s d)
end
theorem tex_fri {H H' : Hp} {p C dx : Addr} {fs : List (Str × V)} (hp : H p = some (.ins C dx fs)) (f : Fr p H H') : TEx H H' := fun b xs q => by
  have hb : b ≠ p := by
    rintro rfl
    rcases q with q | ⟨o', q⟩ <;> rw [hp] at q <;> cases q
  rcases q with q | ⟨o', q⟩
  · exact .inl (f b _ hb q)
  · exact .inr ⟨o', f b _ hb q⟩
theorem imm_dW (w : List Dd) : imm (dW w) = true := by
  have : ∀ w : List Dd, immAll (w.map gD) = true := fun w => by
    induction w with
    | nil => rfl
    | cons d w ih =>
      show (imm (gD d) && immAll (w.map gD)) = true
      rw [ih]
      cases d <;> rfl
  exact this w
theorem imm_dWs (ws : List (List Dd)) : imm (.tuple (ws.map dW)) = true := by
  have : ∀ ws : List (List Dd), immAll (ws.map dW) = true := fun ws => by
    induction ws with
    | nil => rfl
    | cons d w ih =>
      show (imm (dW d) && immAll (w.map dW)) = true
      rw [ih, imm_dW]
      rfl
  exact this ws
abbrev spMaker (K : PySem.W.Frag) : Sp := sp4 fun x a b c H Q _ => ∃ (p dx : Addr) (k : Int) (pb pw : Addr) (bs : List Dd) (xs : List V) (ws : List (List Dd)), x = .ref p ∧ H p = some (.ins (He.ga K "Maker") dx []) ∧ a = .int k ∧ b = .ref pb ∧ c = .ref pw ∧
  SqE K H pb (bs.map gV) ∧ SqE K H pw xs ∧ WsAt K H xs ws ∧ MkOk k bs ws ∧ ∀ H', MakAt K H' p k bs ws → Fr p H H' → Q .non H'
theorem sqE_fri {K : PySem.W.Frag} {H H' : Hp} {p a C dx : Addr} {fs : List (Str × V)} {xs : List V} (hp : H p = some (.ins C dx fs)) (f : Fr p H H') (s : SqE K H a xs) : SqE K H' a xs := by
  rcases s with s | s
  · refine .inl ?_
    have key : ∀ u, H a = some u → (∃ o', u = .frz o' (.lst xs)) ∨ u = .lst xs → a ≠ p := by
      rintro u hu hc rfl
      rw [hp] at hu
      cases hu
      rcases hc with ⟨_, hc⟩ | hc <;> cases hc
    rcases s with (s | ⟨o', s⟩) | s
    · exact .inl (.inl (f _ _ (key _ s (.inr rfl)) s))
    · exact .inl (.inr ⟨o', f _ _ (key _ s (.inl ⟨o', rfl⟩)) s⟩)
    · exact .inr s
  · exact .inr (tex_t (tex_fri hp f) s)
theorem ws_fri {K : PySem.W.Frag} {H H' : Hp} {p C dx : Addr} {fs : List (Str × V)} (hp : H p = some (.ins C dx fs)) (f : Fr p H H') : ∀ {xs : List V} {ws : List (List Dd)}, WsAt K H xs ws → WsAt K H' xs ws
  | [], [], _ => trivial
  | _ :: _, _ :: _, h => ⟨let ⟨p, e1, s⟩ := h.1; ⟨p, e1, sqE_fri hp f s⟩, ws_fri hp f h.2⟩
  | [], _ :: _, h => h.elim
  | _ :: _, [], h => h.elim
abbrev N_Maker_init : List Str := ["self", "inlets", "begin", "ways", "most", "way"]
theorem sc_Maker_init : FnScope N_Maker_init ["self", "inlets", "begin", "ways"] (defScope s_Maker_init) := ⟨rfl, rfl, rfl, by decide +kernel, rfl, by decide +kernel, by decide +kernel⟩
theorem fx_Maker_init {P : Program} {w : World} {K : PySem.W.Frag} {mg : Str → Option Value} {base : Heap} (E : Env P K mg) : ∃ fd, FunD K "__init__" "Maker.__init__" (defArgs s_Maker_init) (defBody s_Maker_init) (defScope s_Maker_init) (d_Maker_init.dvs K) [] (d_Maker_init.adr K) fd ∧ FnOk P w K mg base CX0 9 (d_Maker_init.adr K) fd ["self", "inlets", "begin", "ways"] (spMaker K) := by
  obtain ⟨fd, F⟩ := E.dd_Maker_init
  refine ⟨fd, F, fnok0 F sc_Maker_init sp4_len (fun cdv A outer s H vs Q X hr h => ?_)⟩
  have nd := sc_Maker_init.nd
  obtain ⟨v0, v1, v2, v3, rfl, h⟩ := h
  refine ⟨_, (pss_cons (ps_if (PW.pt (pw_or (pt_not (kTru K (pc (ok_is_integer E) hr (by decide) pass0 rfl (pa_cons (pv 1) pa_nil)) (by intro _; rfl))) (pw_or1 (pt_not (pt_chain op_le op_le (pe_int) (pv 1) ((E.k_MOST_INLETS).elim fun t e => pe_glob (v := .int 3) (by rfl) e ⟨t, rfl⟩))))))
   (pss_one (ps_never))
   pss_nil)
  (pss_cons (ps_if (pt_not (kTru K (pc (ok_is_deeds E) hr (by decide) pass0 rfl (pa_cons (pv 1) (pa_cons (pv 2) pa_nil))) (by intro _; rfl)))
   (pss_one (ps_never))
   pss_nil)
  (pss_cons (ps_if (pt_not (kTru K (pc (ok_is_ways E) hr (by decide) pass0 rfl (pa_cons (pv 1) (pa_cons (pv 3) pa_nil))) (by intro _; rfl)))
   (pss_one (ps_never))
   pss_nil)
  (pss_cut (ps_set (i := 4) nd rfl (.inr rfl) (pe_ifExp (pt_cmpR (kEq K hr) (pe_callB (kLen K) (by rfl) E.f_len (by decide +kernel) (pa_cons (pv 3) pa_nil)) (pe_int) (nomark _)) ((E.k_MOST_DEEDS).elim fun t e => pe_glob (v := .int 600) (by rfl) e ⟨t, rfl⟩) ((E.k_MOST_DEEDS_EACH).elim fun t e => pe_glob (v := .int 24) (by rfl) e ⟨t, rfl⟩)))
  (pss_cut (ps_if (PW.pt (pw_or (pt_cmpR op_gt (pe_callB (kLen K) (by rfl) E.f_len (by decide +kernel) (pa_cons (pv 2) pa_nil)) ((E.k_MOST_DEEDS).elim fun t e => pe_glob (v := .int 600) (by rfl) e ⟨t, rfl⟩) (nomark _)) (pw_or1 (kTru K (pe_callB (kAny K rfl) (by rfl) E.f_any (by decide +kernel) (pa_cons (pe_lc (own := [("way", 5)]) (g := gName 5) (tt := tYes) rfl nd (kSeq K (pv 3)) (blkOk_by (N := N_Maker_init) (sc := defScope s_Maker_init) (by decide +kernel)) (fun _ _ _ _ _ => pg_name (i := 5) nd rfl (Or.inl rfl)) (fun _ _ _ _ _ => pts_nil) (fun _ _ _ _ _ => pe_cmpR op_gt (pe_callB (kLen K) (by rfl) E.f_len (by decide +kernel) (pa_cons (pv 5) pa_nil)) (pv 4) (nomark _))) pa_nil)) (by intro _; rfl)))))
   (pss_one (ps_never))
   pss_nil)
  (pss_cons (kFldS K (ps_fld (pv 0) (pv 1) rfl))
  (pss_cons (kFldS K (ps_fld (pv 0) (pc (ok_deep E) hr (by decide) pass0 rfl (pa_cons (pv 2) pa_nil)) rfl))
  (pss_one (kFldS K (ps_fld (pv 0) (pc (ok_deep E) hr (by decide) pass0 rfl (pa_cons (pv 3) pa_nil)) rfl)))))))))), ?_⟩
  change (_ : TS) _ [some v0, some v1, some v2, some v3, none, none] H
  try dsimp only [cxOf, Cx.nox, Cx.blk]
  obtain ⟨p, dx, k0, pb, pw, bs, xs, ws, rfl, hp, rfl, rfl, rfl, sb, sw, hw, ok, k⟩ := h
  obtain ⟨k1, k3, ob, zb, w1, w4, ow, zw⟩ := id ok
  have z6 := ok.z6
  have zl := ws_len hw
  walk_at "w"
  refine ⟨.int k0, .int k0, fun v H1 e1 d1 => ?_⟩
  obtain rfl := dp_toBl d1
  walk_at "w"
  refine ⟨k0, pb, bs, rfl, rfl, ex_e e1 sb, by omega, ob, fun H2 e2 => ?_⟩
  walk_at "w"
  have E2 := e1.trans e2
  refine ⟨k0, pw, xs, ws, rfl, rfl, ex_e E2 sw, ws_ex E2 hw, w1, w4, fun w h => ⟨(ow w h).1, by have := z6 w h; omega, (ow w h).2⟩, fun H3 e3 => ?_⟩
  have E3 := E2.trans e3
  have sw3 := ex_e E3 sw
  walk_at "w"
  refine w_cut (M := fun σ' H' => ∃ m : Int, σ' = [some (.ref p), some (.int k0), some (.ref pb), some (.ref pw), some (.int m), none] ∧ H' = H3 ∧ ∀ w ∈ ws, (w.length : Int) ≤ m) ?_ ?_
  · walk_at "w"
    refine r_lenE sw3 ?_
    by_cases c : ws.length = 1
    · walk_at "w"
      exact ⟨_, rfl, rfl, fun w h => by have := zw w h; rw [if_pos c] at this; omega⟩
    · walk_at "w"
      exact ⟨_, rfl, rfl, fun w h => by have := zw w h; rw [if_neg c] at this; omega⟩
  rintro σ' H' ⟨m, rfl, rfl, hm⟩
  have sb3 := ex_e E3 sb
  have hw3 := ws_ex E3 hw
  have key : ∀ (x : V) (H2 : Hp), Ex H' H2 → x ∈ xs → ∃ (p : Addr) (w : List Dd), x = .ref p ∧ SqE K H2 p (w.map gV) ∧ (w.length : Int) ≤ m := fun x H2 e2 hx => by
    obtain ⟨q, w, e1, hm2, s⟩ := ws_mem hw3 hx
    exact ⟨q, w, e1, ex_e e2 s, hm w hm2⟩
  have any0 : (xs.map fun _ => false).any id = false := by simp
  have sE : ∀ {H2 : Hp} {b : Bool}, b = false → b = false := fun h => h
  refine w_cut (M := fun σ' H2 => σ' = [some (.ref p), some (.int k0), some (.ref pb), some (.ref pw), some (.int m), none] ∧ Ex H' H2) ?_ ?_
  · walk_at "w"
    refine r_lenE sb3 ?_
    rw [List.length_map]
    walk_at "w"
    have sw4 := ex_e E3 sw
    rcases sw4 with s | s
    · refine i_seqL ?_
      walk_at "w"
      refine lcJ_list (v := fun _ => .bl false) s (by omega) (fun x => [_, _, _, _, _, some x]) (fun x => rfl) (fun x => rfl) (fun x H2 Q' e2 hx hq => ?_) (fun pl H2 n2 e2 hp => ?_)
      · obtain ⟨q, w, rfl, sq, hl⟩ := key x H2 e2 hx
        walk_at "w"
        refine r_lenE sq ?_
        rw [List.length_map]
        walk_at "w"
        rw [decide_eq_false (show ¬ m < (w.length : Int) by omega)]
        exact hq _ (Ex.refl _)
      · walk_at "w"
        refine r_any (bs := xs.map fun _ => false) (sq_of hp) (by simp [Function.comp]) ?_
        rw [any0]
        walk_at "w"
        exact ⟨rfl, e2⟩
    · refine i_seqT ?_
      walk_at "w"
      refine lcJ_tup (v := fun _ => .bl false) s (by omega) (fun x => [_, _, _, _, _, some x]) (fun x => rfl) (fun x => rfl) (fun x H2 Q' e2 hx hq => ?_) (fun pl H2 n2 e2 hp => ?_)
      · obtain ⟨q, w, rfl, sq, hl⟩ := key x H2 e2 hx
        walk_at "w"
        refine r_lenE sq ?_
        rw [List.length_map]
        walk_at "w"
        rw [decide_eq_false (show ¬ m < (w.length : Int) by omega)]
        exact hq _ (Ex.refl _)
      · walk_at "w"
        refine r_any (bs := xs.map fun _ => false) (sq_of hp) (by simp [Function.comp]) ?_
        rw [any0]
        walk_at "w"
        exact ⟨rfl, e2⟩
  rintro σ' G ⟨rfl, e4⟩
  have E4 := E3.trans e4
  have hpG := E4 _ _ hp
  have sbG := ex_e E4 sb
  have swG := ex_e E4 sw
  have hwG := ws_ex E4 hw
  clear key any0 sb3 hw3 sw3 e1 e2 e3 e4 E2 E3
  walk_at "w"
  refine r_putF hpG E.c_Maker E.na_Maker_inlets (by decide) ?_
  have F1 : Fr p G (upd G p (.ins (He.ga K "Maker") dx (putF "inlets" (.int k0) []))) := Fr.upd
  have hp1 : upd G p (.ins (He.ga K "Maker") dx (putF "inlets" (.int k0) [])) p = some (.ins (He.ga K "Maker") dx (putF "inlets" (.int k0) [])) := upd_same
  generalize upd G p (.ins (He.ga K "Maker") dx (putF "inlets" (.int k0) [])) = G1 at *
  have sb1 := sqE_fri hpG F1 sbG
  have sw1 := sqE_fri hpG F1 swG
  have hw1 := ws_fri hpG F1 hwG
  obtain ⟨d1, hd1, _, hq1, hs1⟩ := sqE_d sb1 (by omega)
  walk_at "w"
  refine ⟨d1, hd1, hs1 5, fun v2 G2 e2 t2 => ?_⟩
  rw [hq1] at t2
  have hp2 := e2 _ _ hp1
  walk_at "w"
  refine r_putF hp2 E.c_Maker E.na_Maker_begin (Nat.lt_of_le_of_lt (putF_len _ _ _) (by decide)) ?_
  have F3 : Fr p G2 (upd G2 p (.ins (He.ga K "Maker") dx (putF "begin" v2 (putF "inlets" (.int k0) [])))) := Fr.upd
  have hp3 : upd G2 p (.ins (He.ga K "Maker") dx (putF "begin" v2 (putF "inlets" (.int k0) []))) p = some (.ins (He.ga K "Maker") dx (putF "begin" v2 (putF "inlets" (.int k0) []))) := upd_same
  generalize upd G2 p (.ins (He.ga K "Maker") dx (putF "begin" v2 (putF "inlets" (.int k0) []))) = G3 at *
  have t3 := dp_tex (tex_fri hp2 F3) (imm_dW bs) t2
  have sw3 := sqE_fri hp2 F3 (ex_e e2 sw1)
  have hw3 := ws_fri hp2 F3 (ws_ex e2 hw1)
  obtain ⟨d2, hd2, _, hq2, hs2⟩ := sqW_d sw3 hw3 (fun w h => by have := z6 w h; omega) (by omega)
  walk_at "w"
  refine ⟨d2, hd2, hs2, fun v4 G4 e4 t4 => ?_⟩
  rw [hq2] at t4
  have hp4 := e4 _ _ hp3
  walk_at "w"
  refine r_putF hp4 E.c_Maker E.na_Maker_ways (Nat.lt_of_le_of_lt (Nat.le_trans (putF_len _ _ _) (Nat.succ_le_succ (putF_len _ _ _))) (by decide)) ?_
  have F5 : Fr p G4 (upd G4 p (.ins (He.ga K "Maker") dx (kF (.int k0) v2 v4))) := Fr.upd
  refine k _ ⟨dx, v2, v4, upd_same, dp_tex (tex_fri hp4 F5) (imm_dW bs) (dp_ex e4 t3), dp_tex (tex_fri hp4 F5) (imm_dWs ws) t4⟩ ?_
  exact (((((Fr.of E4).trans F1).trans (Fr.of e2)).trans F3).trans (Fr.of e4)).trans F5
section
variable {P : Program} {w : World} {K : PySem.W.Frag} {mg : Str → Option Value} {base : Heap}
theorem ok_Maker3 (E : Env P K mg) : Mkc P w K mg base CX0 9 "Maker" (He.ga K "Maker") (spMaker K) [] := by
  obtain ⟨fd, F, k⟩ := fx_Maker_init (P := P) (w := w) (base := base) E
  exact ⟨_, fd, _, [], E.mk_Maker, k, E.g_Maker, F.bindsN (fun _ _ _ _ _ _ us hl => match us, hl with | [_, _, _, _], _ => rfl), .nil⟩
end
/-- Maker(..) made -/
theorem mk_mak {K : PySem.W.Frag} {H : Hp} {Q : VK} {k : Int} {pb pw : Addr} {bs : List Dd} {xs : List V} {ws : List (List Dd)} (sb : SqE K H pb (bs.map gV)) (sw : SqE K H pw xs) (hw : WsAt K H xs ws) (ok : MkOk k bs ws)
    (q : ∀ x H2, Ex H H2 → MakAt K H2 x k bs ws → Q (.ref x) H2) : MakeI (He.ga K "Maker") (spMaker K) [] E0 [.int k, .ref pb, .ref pw] H Q := by
  intro x dx nx ndx ne
  have ex : Ex H (upd (upd H dx (.own x)) x (.ins (He.ga K "Maker") dx [])) := fun b o e => by
    rw [upd_ne (ne_of_none e nx), upd_ne (ne_of_none e ndx)]
    exact e
  refine ⟨_, _, _, _, rfl, x, dx, k, pb, pw, bs, xs, ws, rfl, upd_same, rfl, rfl, rfl, ex_e ex sb, ex_e ex sw, ws_ex ex hw, ok, fun H' t f => ⟨rfl, q x H' (fun b o e => ?_) t⟩⟩
  exact f b o (ne_of_none e nx) (ex b o e)
theorem mak_mine {K : PySem.W.Frag} {H : Hp} {x : Addr} {k : Int} {b : List Dd} {ws : List (List Dd)} (t : MakAt K H x k b ws) : ∃ dx fl, H x = some (.ins (He.ga K "Maker") dx fl) := by
  obtain ⟨dx, a, b, h1, _⟩ := t
  exact ⟨dx, _, h1⟩
theorem eqv_gD (d e : Dd) : PyData.eqv (gD d) (gD e) = decide (d = e) := by
  cases d with
  | none => cases e with
    | none => rw [decide_eq_true rfl]; show (("give" : Str) == "give") = true; exact beq_self_eq_true _
    | some j => rfl
  | some i => cases e with
    | none => rfl
    | some j =>
      show (i == j) = _
      by_cases h : i = j <;> simp [h]
theorem eqv_gDs : ∀ xs ys : List Dd, PyData.eqvAll (xs.map gD) (ys.map gD) = decide (xs = ys)
  | [], [] => rfl
  | [], _ :: _ => rfl
  | _ :: _, [] => rfl
  | x :: xs, y :: ys => by
    show (PyData.eqv (gD x) (gD y) && PyData.eqvAll (xs.map gD) (ys.map gD)) = _
    rw [eqv_gDs xs ys, eqv_gD]
    by_cases h : x = y
    · subst h; simp
    · simp [h]
theorem eqv_dW (x y : List Dd) : PyData.eqv (dW x) (dW y) = decide (x = y) := eqv_gDs x y
theorem eqv_dWs : ∀ xs ys : List (List Dd), PyData.eqvAll (xs.map dW) (ys.map dW) = decide (xs = ys)
  | [], [] => rfl
  | [], _ :: _ => rfl
  | _ :: _, [] => rfl
  | x :: xs, y :: ys => by
    show (PyData.eqv (dW x) (dW y) && PyData.eqvAll (xs.map dW) (ys.map dW)) = _
    rw [eqv_dWs xs ys, eqv_dW]
    by_cases h : x = y
    · subst h; simp
    · simp [h]
theorem lay_gD (d : Dd) : (gD d).canLay0 = true ∧ (gD d).depth = 0 := by
  cases d
  · exact ⟨by decide +kernel, rfl⟩
  · exact ⟨rfl, rfl⟩
theorem lay_gDs : ∀ w : List Dd, PyData.canLayAll0 (w.map gD) = true ∧ PyData.depthAll (w.map gD) = 0
  | [] => ⟨rfl, rfl⟩
  | d :: w => by
    obtain ⟨a, b⟩ := lay_gDs w
    obtain ⟨c, e⟩ := lay_gD d
    refine ⟨?_, ?_⟩
    · show ((gD d).canLay0 && PyData.canLayAll0 (w.map gD)) = true
      rw [a, c]; rfl
    · show max (gD d).depth (PyData.depthAll (w.map gD)) = 0
      rw [b, e]; rfl
theorem shaped_dW (w : List Dd) : SeqAt.shaped (dW w) = true := by
  show (PyData.canLayAll0 (w.map gD) && decide (PyData.depthAll (w.map gD) + 1 ≤ 64)) = true
  rw [(lay_gDs w).1, (lay_gDs w).2]
  rfl
theorem lay_dWs : ∀ ws : List (List Dd), PyData.canLayAll0 (ws.map dW) = true ∧ PyData.depthAll (ws.map dW) ≤ 1
  | [] => ⟨rfl, Nat.zero_le _⟩
  | w :: ws => by
    obtain ⟨a, b⟩ := lay_dWs ws
    refine ⟨?_, ?_⟩
    · show (PyData.canLayAll0 (w.map gD) && PyData.canLayAll0 (ws.map dW)) = true
      rw [a, (lay_gDs w).1]; rfl
    · show max (PyData.depthAll (w.map gD) + 1) (PyData.depthAll (ws.map dW)) ≤ 1
      rw [(lay_gDs w).2]; omega
theorem shaped_dWs (ws : List (List Dd)) : SeqAt.shaped (.tuple (ws.map dW)) = true := by
  show (PyData.canLayAll0 (ws.map dW) && decide (PyData.depthAll (ws.map dW) + 1 ≤ 64)) = true
  rw [(lay_dWs ws).1, decide_eq_true (show PyData.depthAll (ws.map dW) + 1 ≤ 64 by have := (lay_dWs ws).2; omega)]
  rfl

end
section
/-- one deed more: what was taken ahead of each give, and in all -/
def tkp (i : Int) (s : List Int × Int) (d : Dd) : List Int × Int := if d = none then (s.1 ++ [s.2], s.2) else if d = some i then (s.1, s.2 + 1) else s
def tkn (i : Int) (ds : List Dd) : List Int × Int := ds.foldl (tkp i) ([], 0)
theorem tkn_snoc (i : Int) (ds : List Dd) (d : Dd) : tkn i (ds ++ [d]) = tkp i (tkn i ds) d := by
  unfold tkn
  rw [List.foldl_append]
  rfl
/-- counts that do not fall, up to a number -/
structure Stn (k : Nat) (s : List Int × Int) : Prop where
  ri : rising s.1
  lo : ∀ n ∈ s.1, 0 ≤ n ∧ n ≤ s.2
  c0 : 0 ≤ s.2
  cl : s.2 ≤ k
  ll : s.1.length ≤ k
theorem tkp_ok {i : Int} {k : Nat} {s : List Int × Int} (h : Stn k s) (d : Dd) : Stn (k + 1) (tkp i s d) := by
  obtain ⟨h1, h2, h3, h4, h5⟩ := h
  unfold tkp
  split
  · refine ⟨rising_app h1 fun n hn => (h2 n hn).2, fun n hn => ?_, h3, by dsimp only; omega, by dsimp only; rw [List.length_append, List.length_singleton]; omega⟩
    rcases List.mem_append.mp hn with hn | hn
    · exact h2 n hn
    · rw [List.mem_singleton] at hn
      dsimp only
      omega
  · split
    · exact ⟨h1, fun n hn => by have := h2 n hn; dsimp only; omega, by dsimp only; omega, by dsimp only; omega, by dsimp only; omega⟩
    · exact ⟨h1, h2, h3, by omega, by omega⟩
theorem tkn_ok (i : Int) (ds : List Dd) : Stn ds.length (tkn i ds) := by
  suffices h : ∀ (ds : List Dd) (k : Nat) (s : List Int × Int), Stn k s → Stn (k + ds.length) (ds.foldl (tkp i) s) by
    have := h ds 0 ([], 0) ⟨fun i hi => absurd hi (by simp), fun n hn => absurd hn List.not_mem_nil, Int.le_refl _, Int.le_refl _, Nat.le_refl _⟩
    rwa [Nat.zero_add] at this
  intro ds
  induction ds with
  | nil => exact fun k s h => h
  | cons d ds ih =>
    intro k s h
    rw [List.foldl_cons, List.length_cons, show k + (ds.length + 1) = k + 1 + ds.length by omega]
    exact ih _ _ (tkp_ok h d)
abbrev spTakes (K : PySem.W.Frag) : Sp := sp2 fun a b H Q _ => ∃ (p : Addr) (ds : List Dd) (i : Int), a = .ref p ∧ b = .int i ∧ SqE K H p (ds.map gV) ∧ ds.length ≤ 50000 ∧ ∀ q t H', Ex H H' → SqT K H' q [.ref t, .int (tkn i ds).2] → H t = none → H' t = some (.lst (vI (tkn i ds).1)) → Q (.ref q) H'
/-- a for over a list or a tuple that stands -/
theorem forE {K : PySem.W.Frag} {a : Addr} {xs : List V} {g : TG} {tb : TS} {D : Ends} {σ : L2.St} {H H0 : Hp} {J : It} (hJ : (J = Itl K a ∧ SqL K H0 a xs) ∨ (J = Itt K a ∧ SqT K H0 a xs)) (Pv : Nat → L2.St → Hp → Prop) (h0 : Pv 0 σ H) (hk : ∀ i σ' H', Pv i σ' H' → Ex H0 H')
    (hb : ∀ i x σ' H', xs[i]? = some x → Pv i σ' H' → g x σ' H' fun σ2 H2 => tb { D with nx := Pv (i + 1), ct := Pv (i + 1), bk := D.nx } σ2 H2) (hd : ∀ σ' H', Pv xs.length σ' H' → D.nx σ' H') : ForJ J g tb D σ H := by
  rcases hJ with ⟨rfl, s⟩ | ⟨rfl, s⟩
  · exact for_list (xs := xs) (Pv := Pv) h0 (fun i σ' H' _ q => ex_l (hk i σ' H' q) s) hb hd
  · exact for_tup (xs := xs) (Pv := Pv) h0 (fun i σ' H' _ q => ex_t (hk i σ' H' q) s) hb hd
abbrev N_takes_ahead : List Str := ["deeds", "inlet", "told", "taken", "deed"]
theorem sc_takes_ahead : FnScope N_takes_ahead ["deeds", "inlet"] (defScope s_takes_ahead) := ⟨rfl, rfl, rfl, by decide +kernel, rfl, by decide +kernel, by decide +kernel⟩
theorem ok_takes_ahead {P : Program} {w : World} {K : PySem.W.Frag} {mg : Str → Option Value} {base : Heap} (E : Env P K mg) : Fn P w K mg base CX0 1 "takes_ahead" (spTakes K) := by
  obtain ⟨fd, F⟩ := E.dd_takes_ahead
  refine Fn.mk0 F E.g_takes_ahead sc_takes_ahead sp2_len (fun _ _ _ _ _ _ us hl => match us, hl with | [_, _], _ => rfl) (fun cdv A outer s H vs Q X hr h => ?_)
  have nd := sc_takes_ahead.nd
  obtain ⟨v0, v1, rfl, h⟩ := h
  refine ⟨_, (pss_cons (ps_set (i := 2) nd rfl (.inl rfl) (pe_lst (pa_nil)))
  (pss_cons (ps_set (i := 3) nd rfl (.inl rfl) (pe_int))
  (pss_cons (ps_for PassesOwn.never rfl (kSeq K (pv 0)) (pg_name (i := 4) nd rfl (.inl rfl))
   (pss_one (ps_if (pt_cmpR (kEq K hr) (pv 4) ((E.k_GIVE).elim fun t e => pe_glob (v := .str "give") (by rfl) e ⟨t, rfl⟩) (nomark _))
   (pss_one (ps_expr (kBM K (pe_bm PySem.F.plainAttrs_list PySem.F.slot_list_append PySem.F.type_list_append mt_append (pv 2) (pa_cons (pv 3) pa_nil)))))
   (pss_one (ps_if (pt_cmpR (kEq K hr) (pv 4) (pv 1) (nomark _))
   (pss_one (ps_aug (i := 3) nd rfl (.inl rfl) (pe_int) ip_add))
   pss_nil)))))
  (pss_one (ps_ret (pe_tup (pa_cons (pv 2) (pa_cons (pv 3) pa_nil)))))))), ?_⟩
  change (_ : TS) _ [some v0, some v1, none, none, none] H
  try dsimp only [cxOf, Cx.nox, Cx.blk]
  obtain ⟨p, ds, it, rfl, rfl, hs, hz, k⟩ := h
  walk_at "w"
  intro t H1 n1 e1 g1
  walk_at "w"
  rcases hs with s | s
  case' inl => refine i_seqL ?_; walk_at "w"
  case' inr => refine i_seqT ?_; walk_at "w"
  all_goals
    refine forE (xs := ds.map gV) (by first | exact .inl ⟨rfl, s⟩ | exact .inr ⟨rfl, s⟩) (Pv := fun i σ' H' => ∃ u : Option V, σ' = [some (.ref p), some (.int it), some (.ref t), some (.int (tkn it (ds.take i)).2), u] ∧ Ex H H' ∧ H' t = some (.lst (vI (tkn it (ds.take i)).1))) ⟨_, rfl, e1, g1⟩ (fun _ _ H' q => by obtain ⟨_, _, e, _⟩ := q; exact e) ?_ ?_
    · rintro i v σ' H' hi ⟨u, rfl, e, g⟩
      have hi2 := (List.getElem?_eq_some_iff.mp hi).1
      rw [List.length_map] at hi2
      rw [List.getElem?_map, List.getElem?_eq_getElem hi2] at hi
      obtain rfl : gV ds[i] = v := Option.some.inj hi
      have e2 : tkn it (ds.take (i + 1)) = tkp it (tkn it (ds.take i)) ds[i] := by
        rw [List.take_add_one, List.getElem?_eq_getElem hi2]
        exact tkn_snoc it _ _
      have zl := (tkn_ok it (ds.take i)).ll
      rw [List.length_take] at zl
      generalize ds[i] = d at *
      rw [e2]
      generalize tkn it (ds.take i) = sd at *
      unfold tkp
      have hsl : SqL K H' t (vI sd.1) := sq_of g
      walk_at "w"
      refine r_eqGive ?_
      by_cases c : d = none
      · rw [decide_eq_true c, if_pos c]
        walk_at "w"
        refine r_app (K := K) g (sz_lt (by rw [List.length_map]; omega)) ?_
        have gg : upd H' t (.lst (vI sd.1 ++ [.int sd.2])) t = some (.lst (vI (sd.1 ++ [sd.2]))) := by
          rw [upd_same]
          show _ = some (HO.lst (List.map V.int _))
          rw [List.map_append]
          rfl
        walk_at "w"
        exact ⟨_, rfl, Ex.mut e n1, gg⟩
      · rw [decide_eq_false c, if_neg c]
        walk_at "w"
        refine r_eqTake ?_
        by_cases c2 : d = some it
        · rw [decide_eq_true c2, if_pos c2]
          walk_at "w"
          refine ⟨_, rfl, ?_⟩
          walk_at "w"
          refine ⟨_, _, rfl, rfl, ?_⟩
          dsimp only [List.set]
          exact ⟨_, rfl, e, g⟩
        · rw [decide_eq_false c2, if_neg c2]
          walk_at "w"
          exact ⟨_, rfl, e, g⟩
    rintro σ' H' ⟨u, rfl, e, g⟩
    rw [List.length_map, List.take_length] at g
    rw [List.length_map, List.take_length]
    walk_at "w"
    intro q H2 n2 e2 g2
    exact k q t H2 (e.trans e2) (st_of g2) n1 (e2 _ _ g)
abbrev N__law_ahead : List Str := ["deeds", "inlet", "told", "taken", "deed"]
theorem sc__law_ahead : FnScope N__law_ahead ["deeds", "inlet"] (defScope s__law_ahead) := ⟨rfl, rfl, rfl, by decide +kernel, rfl, by decide +kernel, by decide +kernel⟩
theorem ok__law_ahead {P : Program} {w : World} {K : PySem.W.Frag} {mg : Str → Option Value} {base : Heap} (E : Env P K mg) : Fn P w K mg base CX0 1 "_law_ahead" (spTakes K) := by
  obtain ⟨fd, F⟩ := E.dd__law_ahead
  refine Fn.mk0 F E.g__law_ahead sc__law_ahead sp2_len (fun _ _ _ _ _ _ us hl => match us, hl with | [_, _], _ => rfl) (fun cdv A outer s H vs Q X hr h => ?_)
  have nd := sc__law_ahead.nd
  obtain ⟨v0, v1, rfl, h⟩ := h
  refine ⟨_, (pss_cons (ps_set (i := 2) nd rfl (.inl rfl) (pe_lst (pa_nil)))
  (pss_cons (ps_set (i := 3) nd rfl (.inl rfl) (pe_int))
  (pss_cons (ps_for PassesOwn.never rfl (kSeq K (pv 0)) (pg_name (i := 4) nd rfl (.inl rfl))
   (pss_one (ps_if (pt_cmpR (kEq K hr) (pv 4) (pe_str) (nomark _))
   (pss_one (ps_expr (kBM K (pe_bm PySem.F.plainAttrs_list PySem.F.slot_list_append PySem.F.type_list_append mt_append (pv 2) (pa_cons (pv 3) pa_nil)))))
   (pss_one (ps_if (pt_cmpR (kEq K hr) (pv 4) (pv 1) (nomark _))
   (pss_one (ps_set (i := 3) nd rfl (.inl rfl) (pe_op (kAdd K) (pv 3) (pe_int))))
   pss_nil)))))
  (pss_one (ps_ret (pe_tup (pa_cons (pv 2) (pa_cons (pv 3) pa_nil)))))))), ?_⟩
  change (_ : TS) _ [some v0, some v1, none, none, none] H
  try dsimp only [cxOf, Cx.nox, Cx.blk]
  obtain ⟨p, ds, it, rfl, rfl, hs, hz, k⟩ := h
  walk_at "w"
  intro t H1 n1 e1 g1
  walk_at "w"
  rcases hs with s | s
  case' inl => refine i_seqL ?_; walk_at "w"
  case' inr => refine i_seqT ?_; walk_at "w"
  all_goals
    refine forE (xs := ds.map gV) (by first | exact .inl ⟨rfl, s⟩ | exact .inr ⟨rfl, s⟩) (Pv := fun i σ' H' => ∃ u : Option V, σ' = [some (.ref p), some (.int it), some (.ref t), some (.int (tkn it (ds.take i)).2), u] ∧ Ex H H' ∧ H' t = some (.lst (vI (tkn it (ds.take i)).1))) ⟨_, rfl, e1, g1⟩ (fun _ _ H' q => by obtain ⟨_, _, e, _⟩ := q; exact e) ?_ ?_
    · rintro i v σ' H' hi ⟨u, rfl, e, g⟩
      have hi2 := (List.getElem?_eq_some_iff.mp hi).1
      rw [List.length_map] at hi2
      rw [List.getElem?_map, List.getElem?_eq_getElem hi2] at hi
      obtain rfl : gV ds[i] = v := Option.some.inj hi
      have e2 : tkn it (ds.take (i + 1)) = tkp it (tkn it (ds.take i)) ds[i] := by
        rw [List.take_add_one, List.getElem?_eq_getElem hi2]
        exact tkn_snoc it _ _
      have zl := (tkn_ok it (ds.take i)).ll
      rw [List.length_take] at zl
      generalize ds[i] = d at *
      rw [e2]
      generalize tkn it (ds.take i) = sd at *
      unfold tkp
      have hsl : SqL K H' t (vI sd.1) := sq_of g
      walk_at "w"
      refine r_eqGive ?_
      by_cases c : d = none
      · rw [decide_eq_true c, if_pos c]
        walk_at "w"
        refine r_app (K := K) g (sz_lt (by rw [List.length_map]; omega)) ?_
        have gg : upd H' t (.lst (vI sd.1 ++ [.int sd.2])) t = some (.lst (vI (sd.1 ++ [sd.2]))) := by
          rw [upd_same]
          show _ = some (HO.lst (List.map V.int _))
          rw [List.map_append]
          rfl
        walk_at "w"
        exact ⟨_, rfl, Ex.mut e n1, gg⟩
      · rw [decide_eq_false c, if_neg c]
        walk_at "w"
        refine r_eqTake ?_
        by_cases c2 : d = some it
        · rw [decide_eq_true c2, if_pos c2]
          walk_at "w"
          exact ⟨_, rfl, e, g⟩
        · rw [decide_eq_false c2, if_neg c2]
          walk_at "w"
          exact ⟨_, rfl, e, g⟩
    rintro σ' H' ⟨u, rfl, e, g⟩
    rw [List.length_map, List.take_length] at g
    rw [List.length_map, List.take_length]
    walk_at "w"
    intro q H2 n2 e2 g2
    exact k q t H2 (e.trans e2) (st_of g2) n1 (e2 _ _ g)
theorem gI_memR {ns : List Int} {r : Int} (r0 : 0 ≤ r) (r1 : r < ns.length) : gI ns r ∈ ns := by
  unfold gI
  rw [List.getD_eq_getElem?_getD, List.getElem?_eq_getElem (show r.toNat < ns.length by omega)]
  exact List.getElem_mem _
theorem gI_mapA {l : List Int} {c : Int} {i : Int} (h0 : 0 ≤ i) (h1 : i < l.length) : gI (l.map (c + ·)) i = c + gI l i := by
  unfold gI
  have h2 : i.toNat < l.length := by omega
  rw [List.getD_eq_getElem?_getD, List.getD_eq_getElem?_getD, List.getElem?_map, List.getElem?_eq_getElem h2]
  rfl
/-- a head and a loop counted through make a table -/
def tbL (s t : List Int × Int) : List Int := t.1.map (s.2 + ·)
def tbR (t : List Int × Int) : Int := if t.1 = [] then 0 else t.2
theorem tb_val {m n : Nat} {s t : List Int × Int} (A : Stn m s) (B : Stn n t) (zm : m ≤ 40000) (zn : n ≤ 40000) : Val s.1 (tbL s t) (tbR t) := by
  unfold tbL tbR
  obtain ⟨a1, a2, a3, a4, a5⟩ := A
  obtain ⟨b1, b2, b3, b4, b5⟩ := B
  have ne : t.1.map (s.2 + ·) ≠ [] → t.1 ≠ [] := fun h e => h (by rw [e]; rfl)
  have r0 : (0 : Int) ≤ (if t.1 = [] then 0 else t.2) ∧ (if t.1 = [] then 0 else t.2) ≤ n := by split <;> omega
  have rr : t.1 ≠ [] → (if t.1 = [] then 0 else t.2) = t.2 := fun h => if_neg h
  refine ⟨fun n hn => (a2 n hn).1, fun n hn => ?_, a1, fun i hi => ?_, r0.1, fun e => if_pos (List.map_eq_nil_iff.mp e), fun h1 h2 => ?_, fun h2 => ?_, ⟨by omega, by omega, by omega, by rw [List.length_map]; omega⟩⟩
  · obtain ⟨m, hm, rfl⟩ := List.mem_map.mp hn
    have := (b2 m hm).1
    omega
  · rw [List.length_map] at hi
    rw [gI_mapA (by omega) (by omega), gI_mapA (by omega) (by omega)]
    have := b1 i hi
    omega
  · have l0 : 0 < t.1.length := List.length_pos_iff.mpr (ne h2)
    have h0 : 0 < s.1.length := List.length_pos_iff.mpr h1
    rw [gI_mapA (by omega) (by omega)]
    have x1 := (a2 _ (gI_memR (ns := s.1) (r := (s.1.length : Int) - 1) (by omega) (by omega))).2
    have x2 := (b2 _ (gI_memR (ns := t.1) (r := 0) (by omega) (by omega))).1
    omega
  · have l0 : 0 < t.1.length := List.length_pos_iff.mpr (ne h2)
    rw [List.length_map, gI_mapA (by omega) (by omega), gI_mapA (by omega) (by omega), rr (ne h2)]
    have x1 := (b2 _ (gI_memR (ns := t.1) (r := (t.1.length : Int) - 1) (by omega) (by omega))).2
    have x2 := (b2 _ (gI_memR (ns := t.1) (r := 0) (by omega) (by omega))).1
    omega
def cntV : V → Int
  | .int i => i
  | _ => 0
theorem map_cnt (c : Int) (l : List Int) : (vI l).map (fun x => V.int (c + cntV x)) = vI (l.map (c + ·)) := by
  show (l.map V.int).map (fun x => V.int (c + cntV x)) = (l.map (c + ·)).map V.int
  rw [List.map_map, List.map_map]
  rfl
/-- the deeds of ways, by their numbers -/
def fl (ws : List (List Dd)) (ns : List Int) : List Dd := (ns.map fun n => ws.getD n.toNat []).flatten
theorem fl_snoc (ws : List (List Dd)) (ns : List Int) (n : Int) : fl ws (ns ++ [n]) = fl ws ns ++ ws.getD n.toNat [] := by
  unfold fl
  rw [List.map_append, List.flatten_append]
  simp
theorem fl_take_le (ws : List (List Dd)) : ∀ (ns : List Int) (i : Nat), (fl ws (ns.take i)).length ≤ (fl ws ns).length
  | [], i => by rw [List.take_nil]; exact Nat.le_refl _
  | n :: ns, 0 => Nat.zero_le _
  | n :: ns, i + 1 => by
    have := fl_take_le ws ns i
    show (fl ws (n :: ns.take i)).length ≤ _
    unfold fl at *
    rw [List.map_cons, List.map_cons, List.flatten_cons, List.flatten_cons, List.length_append, List.length_append]
    omega
/-- way numbers -/
def okN (ws : List (List Dd)) (ns : List Int) : Prop := ∀ n ∈ ns, 0 ≤ n ∧ n < ws.length
/-- a course: first rounds, then rounds -/
def CrsAt (K : PySem.W.Frag) (H : Hp) (v : V) (ns ms : List Int) : Prop := ∃ c p q, v = .ref c ∧ SqE K H c [.ref p, .ref q] ∧ SqE K H p (vI ns) ∧ SqE K H q (vI ms)
theorem crs_ex {K : PySem.W.Frag} {H H' : Hp} {v : V} {ns ms : List Int} (e : Ex H H') (h : CrsAt K H v ns ms) : CrsAt K H' v ns ms := by
  obtain ⟨c, p, q, rfl, a, b, d⟩ := h
  exact ⟨c, p, q, rfl, ex_e e a, ex_e e b, ex_e e d⟩
abbrev N_check_inlet : List Str := ["maker", "inlet"]
theorem sc_check_inlet : FnScope N_check_inlet ["maker", "inlet"] (defScope s_check_inlet) := ⟨rfl, rfl, rfl, by decide +kernel, rfl, by decide +kernel, by decide +kernel⟩
theorem ok_check_inlet {P : Program} {w : World} {K : PySem.W.Frag} {mg : Str → Option Value} {base : Heap} (E : Env P K mg) : Fn P w K mg base CX0 2 "check_inlet" (sp2 fun a b H Q _ => ∃ p k bs ws i, a = .ref p ∧ MakAt K H p k bs ws ∧ b = .int i ∧ 0 ≤ i ∧ i < k ∧ ∀ H', Ex H H' → Q .non H') := by
  obtain ⟨fd, F⟩ := E.dd_check_inlet
  refine Fn.mk0 F E.g_check_inlet sc_check_inlet sp2_len (fun _ _ _ _ _ _ us hl => match us, hl with | [_, _], _ => rfl) (fun cdv A outer s H vs Q X hr h => ?_)
  have nd := sc_check_inlet.nd
  obtain ⟨v0, v1, rfl, h⟩ := h
  refine ⟨_, (pss_one (ps_if (PW.pt (pw_or (pt_not (kTru K (pc (ok_is_integer E) hr (by decide) pass0 rfl (pa_cons (pv 1) pa_nil)) (by intro _; rfl))) (pw_or1 (pt_not (pt_chain op_le op_lt (pe_int) (pv 1) (kFld K (pv 0) rfl))))))
   (pss_one (ps_never))
   pss_nil)), ?_⟩
  change (_ : TS) _ [some v0, some v1] H
  try dsimp only [cxOf, Cx.nox, Cx.blk]
  obtain ⟨p, k0, bs, ws, i, rfl, t, rfl, i0, i1, k⟩ := h
  walk_at "w"
  refine ⟨.int i, .int i, fun v H1 e1 d1 => ?_⟩
  obtain rfl := dp_toBl d1
  walk_at "w"
  refine r_makIn E (ex_mak e1 t) ?_
  walk_at "w"
  exact k _ e1
theorem sqE_int_d {K : PySem.W.Frag} {H : Hp} {a : Addr} {ns : List Int} (h : SqE K H a (vI ns)) : ∃ d, Dp K H (.ref a) d ∧ dIsSeq d = true := by
  rcases h with h | h
  · exact ⟨_, dp_of_intL h, rfl⟩
  · exact ⟨_, dp_of_ints h, rfl⟩
abbrev N_is_way_numbers : List Str := ["thing", "ways", "least", "most", "one"]
theorem sc_is_way_numbers : FnScope N_is_way_numbers ["thing", "ways", "least", "most"] (defScope s_is_way_numbers) := ⟨rfl, rfl, rfl, by decide +kernel, rfl, by decide +kernel, by decide +kernel⟩
theorem ok_is_way_numbers {P : Program} {w : World} {K : PySem.W.Frag} {mg : Str → Option Value} {base : Heap} (E : Env P K mg) : Fn P w K mg base CX0 2 "is_way_numbers" (sp4 fun a b c d H Q _ => ∃ (p : Addr) (ns : List Int) (w lo hi : Int), a = .ref p ∧ SqE K H p (vI ns) ∧ b = .int w ∧ c = .int lo ∧ d = .int hi ∧ lo ≤ ns.length ∧ ns.length ≤ hi ∧ hi ≤ 1000 ∧ (∀ n ∈ ns, 0 ≤ n ∧ n < w) ∧ ∀ H', Ex H H' → Q (.bl true) H') := by
  obtain ⟨fd, F⟩ := E.dd_is_way_numbers
  refine Fn.mk0 F E.g_is_way_numbers sc_is_way_numbers sp4_len (fun _ _ _ _ _ _ us hl => match us, hl with | [_, _, _, _], _ => rfl) (fun cdv A outer s H vs Q X hr h => ?_)
  have nd := sc_is_way_numbers.nd
  obtain ⟨v0, v1, v2, v3, rfl, h⟩ := h
  refine ⟨_, (pss_cons (ps_if (PW.pt (pw_or (pt_not (kTru K (pc (ok_is_listed E) hr (by decide) pass0 rfl (pa_cons (pv 0) pa_nil)) (by intro _; rfl))) (pw_or1 (pt_not (pt_chain op_le op_le (pv 2) (pe_callB (kLen K) (by rfl) E.f_len (by decide +kernel) (pa_cons (pv 0) pa_nil)) (pv 3))))))
   (pss_one (ps_ret (pe_bl)))
   pss_nil)
  (pss_one (ps_ret (pe_callB (kAll K rfl) (by rfl) E.f_all (by decide +kernel) (pa_cons (pe_lc (own := [("one", 4)]) (g := gName 4) (tt := tYes) rfl nd (kSeq K (pv 0)) (blkOk_by (N := N_is_way_numbers) (sc := defScope s_is_way_numbers) (by decide +kernel)) (fun _ _ _ _ _ => pg_name (i := 4) nd rfl (Or.inl rfl)) (fun _ _ _ _ _ => pts_nil) (fun _ _ _ _ _ => pe_and (pc (ok_is_integer E) hr (by decide) pass0 rfl (pa_cons (pv 4) pa_nil)) (pe_one (pe_chain op_le op_lt (pe_int) (pv 4) (pv 1))))) pa_nil))))), ?_⟩
  change (_ : TS) _ [some v0, some v1, some v2, some v3, none] H
  try dsimp only [cxOf, Cx.nox, Cx.blk]
  obtain ⟨p, ns, wn, lo, hi, rfl, s, rfl, rfl, rfl, z1, z2, z3, ok, k⟩ := h
  obtain ⟨d, hd, hq⟩ := sqE_int_d s
  walk_at "w"
  refine ⟨d, .inl hd, fun v H1 e1 d1 => ?_⟩
  rw [hq] at d1
  obtain rfl := dp_toBl d1
  have s1 := ex_e e1 s
  walk_at "w"
  have fin : ∀ (p : Addr) (H2 : Hp), Ex H H2 → H2 p = some (.lst ((vI ns).map fun _ => V.bl true)) → rAll K [.ref p] H2 (fun v H => Q v H) := fun p H2 e2 hp => by
    refine r_all (bs := (vI ns).map fun _ => true) (sq_of hp) (by simp [Function.comp]) ?_
    rw [show ((vI ns).map fun _ => true).all id = true by simp]
    exact k _ e2
  rcases s1 with s | s
  case' inl =>
    refine i_seqL ?_
    walk_at "w"
    refine lcJ_list (v := fun _ => .bl true) s (by rw [List.length_map]; omega) (fun x => [_, _, _, _, some x]) (fun x => rfl) (fun x => rfl) (fun x H2 Q' e2 hx hq => ?_) (fun p H2 n2 e2 hp => ?_)
  case' inr =>
    refine i_seqT ?_
    walk_at "w"
    refine lcJ_tup (v := fun _ => .bl true) s (by rw [List.length_map]; omega) (fun x => [_, _, _, _, some x]) (fun x => rfl) (fun x => rfl) (fun x H2 Q' e2 hx hq => ?_) (fun p H2 n2 e2 hp => ?_)
  all_goals first
    | (walk_at "w"
       exact fin p H2 (e1.trans e2) hp)
    | (obtain ⟨n, hn, rfl⟩ := List.mem_map.mp hx
       obtain ⟨o1, o2⟩ := ok n hn
       walk_at "w"
       refine ⟨.int n, .int n, fun v H3 e3 d3 => ?_⟩
       obtain rfl := dp_toBl d3
       walk_at "w"
       rw [decide_eq_true o2]
       exact hq _ e3)
abbrev N_is_course : List Str := ["maker", "thing", "ways"]
theorem sc_is_course : FnScope N_is_course ["maker", "thing"] (defScope s_is_course) := ⟨rfl, rfl, rfl, by decide +kernel, rfl, by decide +kernel, by decide +kernel⟩
theorem ok_is_course {P : Program} {w : World} {K : PySem.W.Frag} {mg : Str → Option Value} {base : Heap} (E : Env P K mg) : Fn P w K mg base CX0 3 "is_course" (sp2 fun a b H Q _ => ∃ p k bs ws ns ms, a = .ref p ∧ MakAt K H p k bs ws ∧ CrsAt K H b ns ms ∧ okN ws ns ∧ okN ws ms ∧ ns.length ≤ 200 ∧ 1 ≤ ms.length ∧ ms.length ≤ 40 ∧ ∀ H', Ex H H' → Q (.bl true) H') := by
  obtain ⟨fd, F⟩ := E.dd_is_course
  refine Fn.mk0 F E.g_is_course sc_is_course sp2_len (fun _ _ _ _ _ _ us hl => match us, hl with | [_, _], _ => rfl) (fun cdv A outer s H vs Q X hr h => ?_)
  have nd := sc_is_course.nd
  obtain ⟨v0, v1, rfl, h⟩ := h
  refine ⟨_, (pss_cons (ps_if (PW.pt (pw_or (pt_not (kTru K (pc (ok_is_listed E) hr (by decide) pass0 rfl (pa_cons (pv 1) pa_nil)) (by intro _; rfl))) (pw_or1 (pt_cmpR (kNe K hr) (pe_callB (kLen K) (by rfl) E.f_len (by decide +kernel) (pa_cons (pv 1) pa_nil)) (pe_int) (nomark _)))))
   (pss_one (ps_ret (pe_bl)))
   pss_nil)
  (pss_cons (ps_set (i := 2) nd rfl (.inl rfl) (pe_callB (kLen K) (by rfl) E.f_len (by decide +kernel) (pa_cons (kFld K (pv 0) rfl) pa_nil)))
  (pss_one (ps_ret (pe_and (pc (ok_is_way_numbers E) hr (by decide) pass0 rfl (pa_cons (pe_ix (kIx K) (pv 1) (pe_int) (fun _ _ => rfl)) (pa_cons (pv 2) (pa_cons (pe_int) (pa_cons ((E.k_MOST_FIRST).elim fun t e => pe_glob (v := .int 200) (by rfl) e ⟨t, rfl⟩) pa_nil))))) (pe_one (pc (ok_is_way_numbers E) hr (by decide) pass0 rfl (pa_cons (pe_ix (kIx K) (pv 1) (pe_int) (fun _ _ => rfl)) (pa_cons (pv 2) (pa_cons (pe_int) (pa_cons ((E.k_MOST_THEN).elim fun t e => pe_glob (v := .int 40) (by rfl) e ⟨t, rfl⟩) pa_nil))))))))))), ?_⟩
  change (_ : TS) _ [some v0, some v1, none] H
  try dsimp only [cxOf, Cx.nox, Cx.blk]
  obtain ⟨p, k0, bs, ws, ns, ms, rfl, t, ⟨c, p1, p2, rfl, sc, s1, s2⟩, o1, o2, z1, z2, z3, k⟩ := h
  walk_at "w"
  obtain ⟨d1, hd1, _⟩ := sqE_int_d s1
  obtain ⟨d2, hd2, _⟩ := sqE_int_d s2
  have hd : ∃ d, Dp K H (.ref c) d ∧ dIsSeq d = true := by
    rcases sc with s | s
    · exact ⟨.list [d1, d2], .lst s (.cons hd1 (.cons hd2 .nil)), rfl⟩
    · exact ⟨.tuple [d1, d2], .tup s (.cons hd1 (.cons hd2 .nil)), rfl⟩
  obtain ⟨d, hd, hq⟩ := hd
  refine ⟨d, .inl hd, fun v H1 e1 q1 => ?_⟩
  rw [hq] at q1
  obtain rfl := dp_toBl q1
  walk_at "w"
  refine r_lenE (ex_e e1 sc) ?_
  walk_at "w"
  refine r_makWa E (ex_mak e1 t) fun pw xs sx dx => ?_
  have zl := (dpAll_len dx).trans (List.length_map ..)
  walk_at "w"
  refine r_ixE (ex_e e1 sc) (v := .ref p1) rfl ?_
  walk_at "w"
  refine ⟨p1, ns, _, 0, 200, rfl, ex_e e1 s1, rfl, rfl, rfl, by omega, by omega, by decide, fun n hn => by have := o1 n hn; omega, fun H2 e2 => ?_⟩
  walk_at "w"
  refine r_ixE (ex_e (e1.trans e2) sc) (v := .ref p2) rfl ?_
  walk_at "w"
  exact ⟨p2, ms, _, 1, 40, rfl, ex_e (e1.trans e2) s2, rfl, rfl, rfl, by omega, by omega, by decide, fun n hn => by have := o2 n hn; omega, fun H3 e3 => k _ ((e1.trans e2).trans e3)⟩

end
section
theorem way_get {K : PySem.W.Frag} {H : Hp} {xs : List V} {ws : List (List Dd)} {n : Int} (h : DpAll K H xs (ws.map dW)) (n0 : 0 ≤ n) (n1 : n < ws.length) : ∃ q, atI xs n = some (.ref q) ∧ SqT K H q ((ws.getD n.toNat []).map gV) := by
  have zl := (dpAll_len h).trans (List.length_map ..)
  have hl : n.toNat < xs.length := by omega
  have hw : n.toNat < ws.length := by omega
  obtain ⟨d, h1, h2⟩ := dpAll_get h (List.getElem?_eq_getElem hl)
  rw [List.getElem?_map, List.getElem?_eq_getElem hw] at h1
  have h1 : dW ws[n.toNat] = d := Option.some.inj h1
  subst h1
  obtain ⟨q, e, s⟩ := dp_dW h2
  refine ⟨q, atI_pos n0 (by rw [List.getElem?_eq_getElem hl, e]), ?_⟩
  rw [List.getD_eq_getElem?_getD, List.getElem?_eq_getElem hw]
  exact s
noncomputable def ndP (i : Int) (bs : List Dd) (ws : List (List Dd)) (ns ms : List Int) : List Int × List Int × Int := plainF (tkn i (bs ++ fl ws ns)).1 (tbL (tkn i (bs ++ fl ws ns)) (tkn i (fl ws ms))) (tbR (tkn i (fl ws ms)))
abbrev spNeed (K : PySem.W.Frag) : Sp := sp3 fun a b c H Q _ => ∃ (p : Addr) (k : Int) (bs : List Dd) (ws : List (List Dd)) (i : Int) (ns ms : List Int), a = .ref p ∧ MakAt K H p k bs ws ∧ b = .int i ∧ 0 ≤ i ∧ i < k ∧ CrsAt K H c ns ms ∧ okN ws ns ∧ okN ws ms ∧ ns.length ≤ 200 ∧ 1 ≤ ms.length ∧ ms.length ≤ 40 ∧
  (bs ++ fl ws ns).length ≤ 40000 ∧ (fl ws ms).length ≤ 40000 ∧ ∀ t H2, Ex H H2 → TabAt K H2 t (ndP i bs ws ns ms).1 (ndP i bs ws ns ms).2.1 (ndP i bs ws ns ms).2.2 → Q (.ref t) H2
abbrev N_need_on : List Str := ["maker", "inlet", "course", "deeds", "number", "head", "taken", "again", "loop", "rise", "more"]
theorem sc_need_on : FnScope N_need_on ["maker", "inlet", "course"] (defScope s_need_on) := ⟨rfl, rfl, rfl, by decide +kernel, rfl, by decide +kernel, by decide +kernel⟩
theorem ok_need_on {P : Program} {w : World} {K : PySem.W.Frag} {mg : Str → Option Value} {base : Heap} (E : Env P K mg) : Fn P w K mg base CX0 12 "need_on" (spNeed K) := by
  obtain ⟨fd, F⟩ := E.dd_need_on
  refine Fn.mk0 F E.g_need_on sc_need_on sp3_len (fun _ _ _ _ _ _ us hl => match us, hl with | [_, _, _], _ => rfl) (fun cdv A outer s H vs Q X hr h => ?_)
  have nd := sc_need_on.nd
  obtain ⟨v0, v1, v2, rfl, h⟩ := h
  refine ⟨_, (pss_cons (ps_set (i := 3) nd rfl (.inl rfl) (pe_callTy (kLst K) (by rfl) E.f_list (by decide +kernel) (pa_cons (kFld K (pv 0) rfl) pa_nil)))
  (pss_cut (ps_for PassesOwn.never rfl (kSeq K (pe_ix (kIx K) (pv 2) (pe_int) (fun _ _ => rfl))) (pg_name (i := 4) nd rfl (.inl rfl))
   (pss_one (ps_set (i := 3) nd rfl (.inl rfl) (pe_op (kAdd K) (pv 3) (pe_callTy (kLst K) (by rfl) E.f_list (by decide +kernel) (pa_cons (pe_ix (kIx K) (kFld K (pv 0) rfl) (pv 4) (fun _ _ => rfl)) pa_nil))))))
  (pss_cons (ps_asg (pc (ok_takes_ahead E) hr (by decide) pass0 rfl (pa_cons (pv 3) (pa_cons (pv 1) pa_nil))) (kGtup K rfl (pgs_cons (pg_name (i := 5) nd rfl (.inl rfl)) (pgs_cons (pg_name (i := 6) nd rfl (.inr rfl)) (pgs_nil)))))
  (pss_cons (ps_set (i := 7) nd rfl (.inl rfl) (pe_lst (pa_nil)))
  (pss_cut (ps_for PassesOwn.never rfl (kSeq K (pe_ix (kIx K) (pv 2) (pe_int) (fun _ _ => rfl))) (pg_name (i := 4) nd rfl (.inl rfl))
   (pss_one (ps_set (i := 7) nd rfl (.inl rfl) (pe_op (kAdd K) (pv 7) (pe_callTy (kLst K) (by rfl) E.f_list (by decide +kernel) (pa_cons (pe_ix (kIx K) (kFld K (pv 0) rfl) (pv 4) (fun _ _ => rfl)) pa_nil))))))
  (pss_cons (ps_asg (pc (ok_takes_ahead E) hr (by decide) pass0 rfl (pa_cons (pv 7) (pa_cons (pv 1) pa_nil))) (kGtup K rfl (pgs_cons (pg_name (i := 8) nd rfl (.inl rfl)) (pgs_cons (pg_name (i := 9) nd rfl (.inl rfl)) (pgs_nil)))))
  (pss_cons (ps_if (pt_cmpR (kEq K hr) (pe_callB (kLen K) (by rfl) E.f_len (by decide +kernel) (pa_cons (pv 8) pa_nil)) (pe_int) (nomark _))
   (pss_one (ps_ret (pmk (ok_Table1 E) hr (by decide) pass0 rfl (pa_cons (pv 5) pa_nil))))
   pss_nil)
  (pss_one (ps_ret (pmk (ok_Table3 E) hr (by decide) pass0 rfl (pa_cons (pv 5) (pa_cons (pe_lc (own := [("more", 10)]) (g := gName 10) (tt := tYes) rfl nd (kSeq K (pv 8)) (blkOk_by (N := N_need_on) (sc := defScope s_need_on) (by decide +kernel)) (fun _ _ _ _ _ => pg_name (i := 10) nd rfl (Or.inl rfl)) (fun _ _ _ _ _ => pts_nil) (fun _ _ _ _ _ => pe_op (kAdd K) (pv 6) (pv 10))) (pa_cons (pv 9) pa_nil))))))))))))), ?_⟩
  change (_ : TS) _ [some v0, some v1, some v2, none, none, none, none, none, none, none, none] H
  try dsimp only [cxOf, Cx.nox, Cx.blk]
  obtain ⟨p, k0, bs, ws, it, ns, ms, rfl, t, rfl, i0, i1, ⟨c, p1, p2, rfl, sc, s1, s2⟩, o1, o2, z1, z2, z3, zd, za, k⟩ := h
  have W := tb_val (tkn_ok it (bs ++ fl ws ns)) (tkn_ok it (fl ws ms)) zd za
  unfold ndP at k
  walk_at "w"
  refine r_makBe E t fun a sa => ?_
  walk_at "w"
  intro pd0 H1 n1 e1 g1
  refine w_cut (M := fun σ' H' => ∃ (pd : Addr) (u : Option V), σ' = [some (.ref p), some (.int it), some (.ref c), some (.ref pd), u, none, none, none, none, none, none] ∧ Ex H H' ∧ H' pd = some (.lst ((bs ++ fl ws ns).map gV))) ?_ ?_
  dsimp only [List.set]
  walk_at "w"
  rcases s1 with s | s
  case' inl =>
    refine i_seqL ?_
    walk_at "w"
    refine r_ixE (ex_e e1 sc) (v := .ref p1) rfl ?_
    walk_at "w"
  case' inr =>
    refine i_seqT ?_
    walk_at "w"
    refine r_ixE (ex_e e1 sc) (v := .ref p1) rfl ?_
    walk_at "w"
  iterate 2
   focus
    refine forE (xs := vI ns) (by first | exact .inl ⟨rfl, s⟩ | exact .inr ⟨rfl, s⟩) (Pv := fun i σ' H' => ∃ (pd : Addr) (u : Option V), σ' = [some (.ref p), some (.int it), some (.ref c), some (.ref pd), u, none, none, none, none, none, none] ∧ Ex H H' ∧ H' pd = some (.lst ((bs ++ fl ws (ns.take i)).map gV))) ⟨pd0, _, rfl, e1, by rw [g1]; simp [fl]⟩ (fun _ _ H' q => by obtain ⟨_, _, _, e, _⟩ := q; exact e) ?_ ?_
    · rintro i v σ' H' hi ⟨pd, u, rfl, e, g⟩
      have hi2 := (List.getElem?_eq_some_iff.mp hi).1
      rw [List.length_map] at hi2
      rw [List.getElem?_map, List.getElem?_eq_getElem hi2] at hi
      obtain rfl : V.int ns[i] = v := Option.some.inj hi
      obtain ⟨q0, q1⟩ := o1 ns[i] (List.getElem_mem _)
      have e2 : bs ++ fl ws (ns.take (i + 1)) = (bs ++ fl ws (ns.take i)) ++ ws.getD ns[i].toNat [] := by
        rw [List.take_add_one, List.getElem?_eq_getElem hi2]
        show bs ++ fl ws (ns.take i ++ [ns[i]]) = _
        rw [fl_snoc, List.append_assoc]
      have zl : (bs ++ fl ws (ns.take (i + 1))).length ≤ 40000 := by
        have := fl_take_le ws ns (i + 1)
        rw [List.length_append] at zd ⊢
        omega
      generalize ns[i] = nn at *
      rw [e2] at zl ⊢
      generalize bs ++ fl ws (ns.take i) = ds at *
      walk_at "w"
      refine r_makWa E (ex_mak e t) fun pw xs sx dx => ?_
      obtain ⟨q, ha, sq⟩ := way_get dx q0 q1
      walk_at "w"
      refine r_ixT sx ha ?_
      walk_at "w"
      intro pl H2 n2 e3 g2
      walk_at "w"
      refine r_addL (e3 _ _ g) g2 (sz_of (by rw [List.length_map, List.length_map]; rw [List.length_append] at zl; omega)) fun pd2 H3 n3 e4 g3 => ?_
      walk_at "w"
      refine ⟨pd2, _, rfl, (e.trans e3).trans e4, ?_⟩
      rw [g3, List.map_append]
    · rintro σ' H2 ⟨pd, u, rfl, e, g⟩
      rw [List.length_map, List.take_length] at g
      exact ⟨pd, _, rfl, e, g⟩
  rintro σ' H2 ⟨pd, u, rfl, e, g⟩
  walk_at "w"
  refine ⟨pd, _, it, rfl, rfl, .inl (sq_of g), by omega, fun q tl H3 e3 sq nt gt => ?_⟩
  walk_at "w"
  intro pa0 H4 n4 e4 g4
  have E4 := (e.trans e3).trans e4
  have gt4 := e4 _ _ gt
  clear sq nt g gt
  refine w_cut (M := fun σ' H' => ∃ (pa : Addr) (u : Option V), σ' = [some (.ref p), some (.int it), some (.ref c), some (.ref pd), u, some (.ref tl), some (.int (tkn it (bs ++ fl ws ns)).2), some (.ref pa), none, none, none] ∧ Ex H4 H' ∧ H' pa = some (.lst ((fl ws ms).map gV))) ?_ ?_
  dsimp only [List.set]
  walk_at "w"
  rcases s2 with s | s
  case' inl =>
    refine i_seqL ?_
    walk_at "w"
    refine r_ixE (ex_e E4 sc) (v := .ref p2) rfl ?_
    walk_at "w"
  case' inr =>
    refine i_seqT ?_
    walk_at "w"
    refine r_ixE (ex_e E4 sc) (v := .ref p2) rfl ?_
    walk_at "w"
  iterate 2
   focus
    refine forE (xs := vI ms) (by first | exact .inl ⟨rfl, s⟩ | exact .inr ⟨rfl, s⟩) (Pv := fun i σ' H' => ∃ (pa : Addr) (u : Option V), σ' = [some (.ref p), some (.int it), some (.ref c), some (.ref pd), u, some (.ref tl), some (.int (tkn it (bs ++ fl ws ns)).2), some (.ref pa), none, none, none] ∧ Ex H H' ∧ Ex H4 H' ∧ H' pa = some (.lst ((fl ws (ms.take i)).map gV))) ⟨pa0, _, rfl, E4, Ex.refl _, by rw [g4]; simp [fl]⟩ (fun _ _ H' q => by obtain ⟨_, _, _, e, _⟩ := q; exact e) ?_ ?_
    · rintro i v σ' H' hi ⟨pa, u, rfl, e, e', g⟩
      have hi2 := (List.getElem?_eq_some_iff.mp hi).1
      rw [List.length_map] at hi2
      rw [List.getElem?_map, List.getElem?_eq_getElem hi2] at hi
      obtain rfl : V.int ms[i] = v := Option.some.inj hi
      obtain ⟨q0, q1⟩ := o2 ms[i] (List.getElem_mem _)
      have e2 : fl ws (ms.take (i + 1)) = (fl ws (ms.take i)) ++ ws.getD ms[i].toNat [] := by
        rw [List.take_add_one, List.getElem?_eq_getElem hi2]
        show fl ws (ms.take i ++ [ms[i]]) = _
        rw [fl_snoc]
      have zl : (fl ws (ms.take (i + 1))).length ≤ 40000 := by
        have := fl_take_le ws ms (i + 1)
        omega
      generalize ms[i] = nn at *
      rw [e2] at zl ⊢
      generalize fl ws (ms.take i) = ds at *
      walk_at "w"
      refine r_makWa E (ex_mak e t) fun pw xs sx dx => ?_
      obtain ⟨q, ha, sq⟩ := way_get dx q0 q1
      walk_at "w"
      refine r_ixT sx ha ?_
      walk_at "w"
      intro pl H2 n2 e3 g2
      walk_at "w"
      refine r_addL (e3 _ _ g) g2 (sz_of (by rw [List.length_map, List.length_map]; rw [List.length_append] at zl; omega)) fun pd2 H3 n3 e4 g3 => ?_
      walk_at "w"
      refine ⟨pd2, _, rfl, (e.trans e3).trans e4, (e'.trans e3).trans e4, ?_⟩
      rw [g3, List.map_append]
    · rintro σ' H2 ⟨pa, u, rfl, e, e', g⟩
      rw [List.length_map, List.take_length] at g
      exact ⟨pa, _, rfl, e', g⟩
  rintro σ' H5 ⟨pa, u, rfl, e5, g5⟩
  walk_at "w"
  refine ⟨pa, _, it, rfl, rfl, .inl (sq_of g5), by omega, fun q2 t2 H6 e6 sq2 nt2 gt2 => ?_⟩
  have E6 := (E4.trans e5).trans e6
  have sh : SqL K H6 tl (vI (tkn it (bs ++ fl ws ns)).1) := sq_of (e6 _ _ (e5 _ _ gt4))
  have sl : SqL K H6 t2 (vI (tkn it (fl ws ms)).1) := sq_of gt2
  have zz := (tkn_ok it (fl ws ms)).ll
  unfold tbL tbR at W k
  walk_at "w"
  by_cases cc : (tkn it (fl ws ms)).1 = []
  · rw [if_pos cc, cc] at W k
    have c0 : ((tkn it (fl ws ms)).1.length : Int) = 0 := by rw [cc]; rfl
    walk_at "w"
    exact mk_tab (b1 := false) (b2 := true) rfl (dp_of_intL sh) (dp_of_ints (ns := []) (E.t0_Table _)) (.int 0) W fun x H7 e7 T => k x H7 (E6.trans e7) T
  · rw [if_neg cc] at W k
    have l0 : 0 < (tkn it (fl ws ms)).1.length := List.length_pos_iff.mpr cc
    walk_at "w"
    refine i_seqL ?_
    walk_at "w"
    refine lcJ_list (v := fun x => .int ((tkn it (bs ++ fl ws ns)).2 + cntV x)) sl (by rw [List.length_map]; omega) (fun x => [_, _, _, _, _, _, _, _, _, _, some x]) (fun x => rfl) (fun x => rfl) (fun x H3 Q' e3 hx hq => ?_) (fun p3 H3 n3 e3 g3 => ?_)
    · obtain ⟨n, hn, rfl⟩ := List.mem_map.mp hx
      walk_at "w"
      exact hq _ (Ex.refl _)
    · rw [map_cnt] at g3
      walk_at "w"
      exact mk_tab (b1 := false) (b2 := false) rfl (dp_of_intL (ex_l e3 sh)) (dp_of_intL (sq_of g3)) (.int _) W fun x H4 e4 T => k x H4 ((E6.trans e3).trans e4) T
abbrev N_Maker_need : List Str := ["self", "inlet", "course"]
theorem sc_Maker_need : FnScope N_Maker_need ["self", "inlet", "course"] (defScope s_Maker_need) := ⟨rfl, rfl, rfl, by decide +kernel, rfl, by decide +kernel, by decide +kernel⟩
theorem fx_Maker_need {P : Program} {w : World} {K : PySem.W.Frag} {mg : Str → Option Value} {base : Heap} (E : Env P K mg) : ∃ fd, FunD K "need" "Maker.need" (defArgs s_Maker_need) (defBody s_Maker_need) (defScope s_Maker_need) (d_Maker_need.dvs K) [] (d_Maker_need.adr K) fd ∧ FnOk P w K mg base CX0 13 (d_Maker_need.adr K) fd ["self", "inlet", "course"] (spNeed K) := by
  obtain ⟨fd, F⟩ := E.dd_Maker_need
  refine ⟨fd, F, fnok0 F sc_Maker_need sp3_len (fun cdv A outer s H vs Q X hr h => ?_)⟩
  have nd := sc_Maker_need.nd
  obtain ⟨v0, v1, v2, rfl, h⟩ := h
  refine ⟨_, (pss_cons (ps_expr (pc (ok_check_inlet E) hr (by decide) pass0 rfl (pa_cons (pv 0) (pa_cons (pv 1) pa_nil))))
  (pss_cons (ps_if (pt_not (kTru K (pc (ok_is_course E) hr (by decide) pass0 rfl (pa_cons (pv 0) (pa_cons (pv 2) pa_nil))) (by intro _; rfl)))
   (pss_one (ps_never))
   pss_nil)
  (pss_one (ps_ret (pc (ok_need_on E) hr (by decide) pass0 rfl (pa_cons (pv 0) (pa_cons (pv 1) (pa_cons (pv 2) pa_nil)))))))), ?_⟩
  change (_ : TS) _ [some v0, some v1, some v2] H
  try dsimp only [cxOf, Cx.nox, Cx.blk]
  obtain ⟨p, k0, bs, ws, it, ns, ms, rfl, t, rfl, i0, i1, hc, o1, o2, z1, z2, z3, zd, za, k⟩ := h
  walk_at "w"
  refine ⟨p, k0, bs, ws, it, rfl, t, rfl, i0, i1, fun H1 e1 => ?_⟩
  walk_at "w"
  refine ⟨p, k0, bs, ws, ns, ms, rfl, ex_mak e1 t, crs_ex e1 hc, o1, o2, z1, z2, z3, fun H2 e2 => ?_⟩
  walk_at "w"
  exact ⟨p, k0, bs, ws, it, ns, ms, rfl, ex_mak (e1.trans e2) t, rfl, i0, i1, crs_ex (e1.trans e2) hc, o1, o2, z1, z2, z3, zd, za, fun x H3 e3 T => k x H3 ((e1.trans e2).trans e3) T⟩
theorem ok_Maker_need {P : Program} {w : World} {K : PySem.W.Frag} {mg : Str → Option Value} {base : Heap} (E : Env P K mg) : Mt P w K mg base CX0 13 (He.ga K "Maker") "need" (spNeed K) := by
  obtain ⟨fd, F, k⟩ := fx_Maker_need (P := P) (w := w) (base := base) E
  exact ⟨_, fd, _, E.c_Maker, E.m_Maker_need, k, F.bindsN (fun _ _ _ _ _ _ us hl => match us, hl with | [_, _, _], _ => rfl)⟩

end
section
/-- all but lists stand -/
def Ls (H H' : Hp) : Prop := ∀ a o, H a = some o → (∀ zs, o ≠ .lst zs) → H' a = some o
section
variable {K : PySem.W.Frag} {H H' H2 : Hp} {a p x : Addr} {xs ys : List V}
theorem Ls.of (e : Ex H H') : Ls H H' := fun a o h _ => e a o h
theorem Ls.trans (l : Ls H H') (m : Ls H' H2) : Ls H H2 := fun a o h n => m a o (l a o h n) n
theorem Ls.upd (h : H p = some (.lst xs)) : Ls H (upd H p (.lst ys)) := fun a o ha hn => by
  have : a ≠ p := by
    rintro rfl
    rw [h] at ha
    exact hn xs (Option.some.inj ha).symm
  rw [upd_ne this]
  exact ha
theorem Ls.fr (f : Fr a H H') (s : SrcAt H a) : Ls H H' := fun b o hb hn => by
  obtain ⟨d, s, c, h1, _⟩ := s
  have : b ≠ a := by
    rintro rfl
    rw [h1] at hb
    exact hn _ (Option.some.inj hb).symm
  exact f b o this hb
theorem Ls.tex (l : Ls H H') : TEx H H' := fun b ys q => by
  rcases q with q | ⟨o', q⟩
  · exact .inl (l _ _ q fun _ e => nomatch e)
  · exact .inr ⟨o', l _ _ q fun _ e => nomatch e⟩
theorem ls_t (l : Ls H H') (s : SqT K H a xs) : SqT K H' a xs := tex_t l.tex s
end
/-- a comprehension over a range, whose element draws from the source at s -/
theorem lcS_range {K : PySem.W.Frag} {H : Hp} {Q : VK} {n j : Nat} {te : TE} {vs : List Nat} {σ : L2.St} {s : Addr} (P : V → Prop) (hn : n ≤ 100000) (hs : SrcAt H s) (σ' : V → L2.St) (hσ : ∀ x, (wipe σ vs).set j (some x) = σ' x) (hw : ∀ x, wipe ((wipe σ vs).set j (some x)) vs = wipe σ vs)
    (he : ∀ (i : Nat) (H1 : Hp) (Q' : VK), Fr s H H1 → SrcAt H1 s → i < n → (∀ v H2, P v → Fr s H1 H2 → SrcAt H2 s → Q' v H2) → te (σ' (.int (i : Int))) H1 Q')
    (hq : ∀ p H2 ys, H p = none → Fr s H H2 → SrcAt H2 s → H2 p = some (.lst ys) → ys.length = n → (∀ y ∈ ys, P y) → Q (.ref p) H2) : LcJ (Itr 0 n) (gName j) tYes te vs σ H Q := fun D hD =>
  lc_range (Pv := fun i H' => Fr s H H' ∧ SrcAt H' s ∧ ∃ ys, H' D = some (.lst ys) ∧ ys.length = i ∧ ∀ y ∈ ys, P y) ⟨Fr.of (Ex.new hD), hs.ex (Ex.new hD), [], upd_same, rfl, fun y hy => absurd hy List.not_mem_nil⟩ (fun i H' hi ⟨f, q, ys, g, hl, hp⟩ => ⟨hw _, by
    show te ((wipe σ vs).set j _) H' _
    rw [hσ, Int.zero_add]
    refine he i H' _ f q hi fun v H2 pv f2 q2 => ?_
    have hne : D ≠ s := hs.ne hD
    refine ⟨ys, f2 D _ hne g, sz_lt (by omega), fun b o nb hb => ?_, ?_, ys ++ [v], upd_same, by rw [List.length_append, hl]; rfl, fun y hy => ?_⟩
    · rw [upd_ne (ne_of_none hb hD)]
      exact f2 b o nb (f b o nb hb)
    · obtain ⟨d, s2, c, w1, w2⟩ := q2
      exact ⟨d, s2, c, by rw [upd_ne hne.symm]; exact w1, w2⟩
    · rcases List.mem_append.mp hy with hy | hy
      · exact hp y hy
      · rw [List.mem_singleton.mp hy]
        exact pv⟩) fun H' ⟨f, q, ys, g, hl, hp⟩ => hq D H' ys hD f q g hl hp
theorem r_neB {K : PySem.W.Frag} {i j : Bool} {H : Hp} {Q : VK} (h : Q (.bl (!decide (i = j))) H) : rNeU K (.bl i) (.bl j) H Q := .inl ⟨rfl, by
  rw [show decide (V.bl i = V.bl j) = decide (i = j) from decide_eq_decide.mpr ⟨V.bl.inj, congrArg _⟩]
  exact h⟩
theorem r_neSS {K : PySem.W.Frag} {x : Str} {H : Hp} {Q : VK} (h : Q (.bl false) H) : rNeU K (.str x) (.str x) H Q := .inl ⟨rfl, by
  rw [decide_eq_true rfl]
  exact h⟩
theorem r_repL {K : PySem.W.Frag} {l : Addr} {k : Int} {xs : List V} {H : Hp} {Q : VK} (h : H l = some (.lst xs)) (h1 : 0 ≤ k) (h2 : k < 1000) (hz : xs.length * k.toNat ≤ sizeLine) (q : ∀ p H1, H p = none → Ex H H1 → H1 p = some (.lst (List.replicate k.toNat xs).flatten) → Q (.ref p) H1) : rMul K (.ref l) (.int k) H Q :=
  .inr (.inl ⟨l, k, xs, rfl, rfl, h, by omega, by omega, hz, fun p hp => q p _ hp (Ex.new hp) upd_same⟩)

end
section
--@import PyProof.AutoSeq1
/-! list.extend of a tuple -/
open PySem.AutoSeq1 in
theorem list_extend_tup (l : Addr) (items : Array Value) (n : Nat) (b : Addr) (items2 : Array Value) (n2 : Nat) (dd : Option Addr) (sl : Array (Option Value)) (hs0 : ¬(!items.isEmpty && Builtin.List.listTooLong (items.size + items2.size)) = true) (hs1 : items.size ≤ sizeLine) (hs2 : items.size + items2.size ≤ sizeLine + 1) :
    Meets (Builtin.«list.extend» ⟨[.ref l, .ref b], []⟩) (fun _ R s => s.heap.get? l = some { cls := .type "list", dict := none, data := .seq items n, slots := #[] } ∧ s.heap.get? b = some { cls := .type "tuple", dict := dd, data := .seq items2 n2, slots := sl } ∧ R (.ok (.ret Value.none)) { s with heap := s.heap.update l (Obj.mapSeq fun x => x ++ items2), toks := s.toks }) :=
  .of_wp fun prog w A R s h => by
    obtain ⟨hp, g, d, tk, os⟩ := s
    obtain ⟨hl, hb, h⟩ := h
    have f1 := PySem.AutoSeq1.idx_int
    have f2 := PySem.AutoSeq1.sub_tuple_tuple
    have f3 := PySem.AutoSeq1.sub_list_list
    have f4 := PySem.AutoSeq1.sub_tuple_list
    have f5 := PySem.AutoSeq1.sub_list_tuple
    have hz' : (items ++ items2).size ≤ sizeLine + 1 := by rw [Array.size_append]; exact hs2
    wp_walk using (wpAny_updateSeq hl rfl (hz := hs1) (_hz' := hz')), wpAny_loadPart' hl, wpAny_loadPart' hb
    exact ⟨_, rfl, h⟩
def rExtT (K : PySem.W.Frag) : V → List V → Hp → VK → Prop := fun x vs H Q => ∃ l b xs zs, x = .ref l ∧ vs = [.ref b] ∧ H l = some (.lst xs) ∧ SqT K H b zs ∧ xs.length + zs.length ≤ sizeLine ∧ Q .non (upd H l (.lst (xs ++ zs)))
theorem mt_extT {X : Cx} : MtM X "list.extend" (rExtT X.K) := by
  intro pins s σ H x vs v us Q I rx rv h
  obtain ⟨l, b, xs, zs, rfl, rfl, hH, hB, hz, q⟩ := h
  cases rx
  obtain ⟨u, rfl, ru⟩ := rv.one
  cases ru
  obtain ⟨z, its, n, r, hl, e⟩ := I.lstM hH
  obtain ⟨its2, r2, ⟨o2, e2, c2, n2, d2⟩, hl2⟩ := I.tuple hB
  have hl3 := r2.length
  obtain ⟨oc, od, odt, osl⟩ := o2
  dsimp only at c2 d2
  subst c2 d2
  have hsz : its.toArray.size + its2.toArray.size ≤ sizeLine := by rw [List.size_toArray, List.size_toArray]; omega
  have hlong : ¬ (!its.toArray.isEmpty && Builtin.List.listTooLong (its.toArray.size + its2.toArray.size)) = true := by
    rw [notLongL hsz, Bool.and_false]
    exact Bool.false_ne_true
  refine call_meets F.slot_list_extend ⟨_, e, rfl⟩ F.entry_list_extend (F.args_list_extend_2 _ _)
    (list_extend_tup l its.toArray n b its2.toArray n2 od osl hlong (by rw [List.size_toArray]; omega) (by omega)) ⟨e, e2, ?_⟩
  refine ⟨.non, _, I.lset (its' := its ++ its2) hH e (by simp) (r.append r2) ?_, rfl, q⟩
  rw [List.length_append]
  omega
theorem kExtT (K : PySem.W.Frag) {X : Cx} (h : X.K = K := by rfl) : MtM X "list.extend" (rExtT K) := by subst h; exact mt_extT
theorem r_extT {K : PySem.W.Frag} {l b : Addr} {xs zs : List V} {H : Hp} {Q : VK} (h : H l = some (.lst xs)) (hb : SqT K H b zs) (hz : xs.length + zs.length ≤ sizeLine) (q : Q .non (upd H l (.lst (xs ++ zs)))) : rExtT K (.ref l) [.ref b] H Q := ⟨l, b, xs, zs, rfl, rfl, h, hb, hz, q⟩
/-! x in, not in a list or a tuple of flat values -/
theorem kInF (K : PySem.W.Frag) {X : Cx} (h : X.K = K := by rfl) : OpR X (compareOp .In) (rIn K false) := by subst h; exact op_in_seq
theorem kNotInF (K : PySem.W.Frag) {X : Cx} (h : X.K = K := by rfl) : OpR X (compareOp .NotIn) (rIn K true) := by subst h; exact op_notIn_seq
theorem r_inF {K : PySem.W.Frag} {x : V} {p : Addr} {xs : List V} {H : Hp} {Q : VK} (h : SqE K H p xs) (fx : flatV x = true) (fs : xs.all flatV = true) (q : Q (.bl (inV x xs)) H) : rIn K false x (.ref p) H Q := ⟨p, xs, rfl, h, fx, fs, q⟩
theorem r_notInF {K : PySem.W.Frag} {x : V} {p : Addr} {xs : List V} {H : Hp} {Q : VK} (h : SqE K H p xs) (fx : flatV x = true) (fs : xs.all flatV = true) (q : Q (.bl (!inV x xs)) H) : rIn K true x (.ref p) H Q := ⟨p, xs, rfl, h, fx, fs, q⟩

end
section
abbrev spDeeds (K : PySem.W.Frag) : Sp := sp4 fun s a b c H Q _ => ∃ (x : Addr) (k : Int) (n : Nat) (g : Int), s = .ref x ∧ a = .int k ∧ b = .int n ∧ c = .int g ∧ 1 ≤ k ∧ k ≤ 3 ∧ n ≤ 1000 ∧ SrcAt H x ∧ ∀ (p : Addr) (ds : List Dd) (H' : Hp), H p = none → Fr x H H' → SrcAt H' x → H' p = some (.lst (ds.map gV)) → ds.length = n → (∀ d ∈ ds, okD k d) → Q (.ref p) H'
theorem gV_app (ds : List Dd) (d : Dd) : ds.map gV ++ [gV d] = (ds ++ [d]).map gV := by rw [List.map_append]; rfl
abbrev N__law_deeds : List Str := ["source", "inlets", "many", "gives", "told", "k"]
theorem sc__law_deeds : FnScope N__law_deeds ["source", "inlets", "many", "gives"] (defScope s__law_deeds) := ⟨rfl, rfl, rfl, by decide +kernel, rfl, by decide +kernel, by decide +kernel⟩
theorem ok__law_deeds {P : Program} {w : World} {K : PySem.W.Frag} {mg : Str → Option Value} {base : Heap} (E : Env P K mg) : Fn P w K mg base CX0 2 "_law_deeds" (spDeeds K) := by
  obtain ⟨fd, F⟩ := E.dd__law_deeds
  refine Fn.mk0 F E.g__law_deeds sc__law_deeds sp4_len (fun _ _ _ _ _ _ us hl => match us, hl with | [_, _, _, _], _ => rfl) (fun cdv A outer s H vs Q X hr h => ?_)
  have nd := sc__law_deeds.nd
  obtain ⟨v0, v1, v2, v3, rfl, h⟩ := h
  refine ⟨_, (pss_cons (ps_set (i := 4) nd rfl (.inl rfl) (pe_lst (pa_nil)))
  (pss_cons (ps_for PassesOwn.never rfl (pi_range1 (by rfl) E.f_range (pa_cons (pv 2) pa_nil)) (pg_name (i := 5) nd rfl (.inl rfl))
   (pss_one (ps_if (pt_cmpR op_lt (pc (ok__law_pick E) hr (by decide) pass0 rfl (pa_cons (pv 0) (pa_cons (pe_int) pa_nil))) (pv 3) (nomark _))
   (pss_one (ps_expr (kBM K (pe_bm PySem.F.plainAttrs_list PySem.F.slot_list_append PySem.F.type_list_append mt_append (pv 4) (pa_cons (pe_str) pa_nil)))))
   (pss_one (ps_expr (kBM K (pe_bm PySem.F.plainAttrs_list PySem.F.slot_list_append PySem.F.type_list_append mt_append (pv 4) (pa_cons (pc (ok__law_pick E) hr (by decide) pass0 rfl (pa_cons (pv 0) (pa_cons (pv 1) pa_nil))) pa_nil))))))))
  (pss_one (ps_ret (pv 4))))), ?_⟩
  change (_ : TS) _ [some v0, some v1, some v2, some v3, none, none] H
  try dsimp only [cxOf, Cx.nox, Cx.blk]
  obtain ⟨x, k0, n, g, rfl, rfl, rfl, rfl, k1, k3, hn, hsrc, k⟩ := h
  walk_at "w"
  intro p H1 n1 e1 h1
  have hpx := hsrc.ne n1
  walk_at "w"
  refine for_range (lo := 0) (Pv := fun i σ' H' => ∃ (ds : List Dd) (o : Option V), σ' = [some (.ref x), some (.int k0), some (.int n), some (.int g), some (.ref p), o] ∧ Fr x H H' ∧ SrcAt H' x ∧ H' p = some (.lst (ds.map gV)) ∧ ds.length = i ∧ ∀ d ∈ ds, okD k0 d)
    ⟨[], none, rfl, Fr.of e1, hsrc.ex e1, h1, rfl, fun d hd => absurd hd List.not_mem_nil⟩ ?_ ?_
  · rintro i σ' H' hi ⟨ds, o, rfl, f1, q1, g1, hl, od⟩
    have fin : ∀ (d : Dd) (H2 : Hp), Fr x H' H2 → SrcAt H2 x → okD k0 d → Fr x H (upd H2 p (.lst (ds.map gV ++ [gV d]))) ∧ SrcAt (upd H2 p (.lst (ds.map gV ++ [gV d]))) x ∧ upd H2 p (.lst (ds.map gV ++ [gV d])) p = some (.lst ((ds ++ [d]).map gV)) ∧ (ds ++ [d]).length = i + 1 ∧ ∀ e ∈ ds ++ [d], okD k0 e := fun d H2 f2 q2 hd => by
      refine ⟨fun b o nb hb => ?_, ?_, by rw [upd_same, gV_app], by rw [List.length_append, hl]; rfl, fun e he => ?_⟩
      · rw [upd_ne (ne_of_none hb n1)]
        exact f2 b o nb (f1 b o nb hb)
      · obtain ⟨d, s, c, w1, w2⟩ := q2
        exact ⟨d, s, c, by rw [upd_ne hpx.symm]; exact w1, w2⟩
      · rcases List.mem_append.mp he with he | he
        · exact od e he
        · rw [List.mem_singleton.mp he]
          exact hd
    walk_at "w"
    refine ⟨x, 4, rfl, rfl, by decide, by decide, q1, fun r H2 r0 r1 q2 f2 => ?_⟩
    have g2 := f2 p _ hpx g1
    walk_at "w"
    by_cases c : r < g
    · have hsl : SqL K H2 p (ds.map gV) := sq_of g2
      walk_at "w"
      refine r_app (K := K) g2 (sz_lt (by rw [List.length_map]; omega)) ?_
      obtain ⟨a1, a2, a3, a4, a5⟩ := fin none H2 f2 q2 (fun i e => nomatch e)
      walk_at "w"
      exact ⟨_, _, rfl, a1, a2, a3, a4, a5⟩
    · have hsl : SqL K H2 p (ds.map gV) := sq_of g2
      walk_at "w"
      refine ⟨x, k0, rfl, rfl, by omega, by omega, q2, fun r2 H3 r20 r21 q3 f3 => ?_⟩
      have g3 := f3 p _ hpx g2
      walk_at "w"
      refine r_app (K := K) g3 (sz_lt (by rw [List.length_map]; omega)) ?_
      obtain ⟨a1, a2, a3, a4, a5⟩ := fin (some r2) H3 (f2.trans f3) q3 (fun i e => by cases e; exact ⟨r20, r21⟩)
      walk_at "w"
      exact ⟨_, _, rfl, a1, a2, a3, a4, a5⟩
  · rintro σ' H' ⟨ds, o, rfl, f1, q1, g1, hl, od⟩
    walk_at "w"
    exact k p ds H' n1 f1 q1 g1 (by rw [hl]; exact Int.toNat_natCast n) od
theorem dp_mk {K : PySem.W.Frag} {H : Hp} {v : V} {k : Int} {b : List Dd} {ws : List (List Dd)} (h : Dp K H v (dMk k b ws)) : ∃ a pb pw xs, v = .ref a ∧ SqT K H a [.int k, .ref pb, .ref pw] ∧ SqT K H pb (b.map gV) ∧ SqT K H pw xs ∧ DpAll K H xs (ws.map dW) := by
  obtain ⟨a, x, y, z, rfl, s, h1, h2, h3⟩ := dp_t3 h
  obtain rfl := dp_toInt h1
  obtain ⟨pb, rfl, s1⟩ := dp_dW h2
  obtain ⟨pw, xs, rfl, s2, d⟩ := dp_ways h3
  exact ⟨a, pb, pw, xs, rfl, s, s1, s2, d⟩
theorem dp_of_mk {K : PySem.W.Frag} {H : Hp} {a pb pw : Addr} {xs : List V} {k : Int} {b : List Dd} {ws : List (List Dd)} (s : SqT K H a [.int k, .ref pb, .ref pw]) (s1 : SqT K H pb (b.map gV)) (s2 : SqT K H pw xs) (d : DpAll K H xs (ws.map dW)) : Dp K H (.ref a) (dMk k b ws) :=
  .tup s (.cons (.int k) (.cons (dp_of_dW s1) (.cons (.tup s2 d) .nil)))
theorem imm_dMk (k : Int) (b : List Dd) (ws : List (List Dd)) : imm (dMk k b ws) = true := by
  show (true && (imm (dW b) && (imm (.tuple (ws.map dW)) && true))) = true
  rw [imm_dW, imm_dWs]
  rfl
abbrev N__law_made : List Str := ["maker"]
theorem sc__law_made : FnScope N__law_made ["maker"] (defScope s__law_made) := ⟨rfl, rfl, rfl, by decide +kernel, rfl, by decide +kernel, by decide +kernel⟩
theorem ok__law_made {P : Program} {w : World} {K : PySem.W.Frag} {mg : Str → Option Value} {base : Heap} (E : Env P K mg) : Fn P w K mg base CX0 11 "_law_made" (sp1 fun v H Q _ => ∃ k b ws, Dp K H v (dMk k b ws) ∧ MkOk k b ws ∧ ∀ x H2, Ex H H2 → MakAt K H2 x k b ws → Q (.ref x) H2) := by
  obtain ⟨fd, F⟩ := E.dd__law_made
  refine Fn.mk0 F E.g__law_made sc__law_made sp1_len (fun _ _ _ _ _ _ us hl => match us, hl with | [_], _ => rfl) (fun cdv A outer s H vs Q X hr h => ?_)
  have nd := sc__law_made.nd
  obtain ⟨v0, rfl, h⟩ := h
  refine ⟨_, (pss_one (ps_ret (pmk (ok_Maker3 E) hr (by decide) pass0 rfl (pa_cons (pe_ix (kIx K) (pv 0) (pe_int) (fun _ _ => rfl)) (pa_cons (pe_ix (kIx K) (pv 0) (pe_int) (fun _ _ => rfl)) (pa_cons (pe_ix (kIx K) (pv 0) (pe_int) (fun _ _ => rfl)) pa_nil)))))), ?_⟩
  change (_ : TS) _ [some v0] H
  try dsimp only [cxOf, Cx.nox, Cx.blk]
  obtain ⟨k0, b, ws, hd, ok, k⟩ := h
  obtain ⟨a, pb, pw, xs, rfl, s, s1, s2, d⟩ := dp_mk hd
  walk_at "w"
  exact mk_mak (.inr s1) (.inr s2) (ws_of d) ok k
abbrev spLawOn (K : PySem.W.Frag) : Sp := sp3 fun a b c H Q _ => ∃ (k : Int) (bs : List Dd) (ws : List (List Dd)) (i : Int) (ns ms : List Int), Dp K H a (dMk k bs ws) ∧ b = .int i ∧ CrsAt K H c ns ms ∧ okN ws ns ∧ okN ws ms ∧ ns.length ≤ 200 ∧ 1 ≤ ms.length ∧ ms.length ≤ 40 ∧ (bs ++ fl ws ns).length ≤ 40000 ∧ (fl ws ms).length ≤ 40000 ∧ RetD K (dRaw (ndP i bs ws ns ms).1 (ndP i bs ws ns ms).2.1 (ndP i bs ws ns ms).2.2) H Q
abbrev N__law_on : List Str := ["maker", "inlet", "course", "deeds", "number", "head", "taken", "again", "loop", "rise", "more"]
theorem sc__law_on : FnScope N__law_on ["maker", "inlet", "course"] (defScope s__law_on) := ⟨rfl, rfl, rfl, by decide +kernel, rfl, by decide +kernel, by decide +kernel⟩
theorem ok__law_on {P : Program} {w : World} {K : PySem.W.Frag} {mg : Str → Option Value} {base : Heap} (E : Env P K mg) : Fn P w K mg base CX0 2 "_law_on" (spLawOn K) := by
  obtain ⟨fd, F⟩ := E.dd__law_on
  refine Fn.mk0 F E.g__law_on sc__law_on sp3_len (fun _ _ _ _ _ _ us hl => match us, hl with | [_, _, _], _ => rfl) (fun cdv A outer s H vs Q X hr h => ?_)
  have nd := sc__law_on.nd
  obtain ⟨v0, v1, v2, rfl, h⟩ := h
  refine ⟨_, (pss_cons (ps_set (i := 3) nd rfl (.inl rfl) (pe_callTy (kLst K) (by rfl) E.f_list (by decide +kernel) (pa_cons (pe_ix (kIx K) (pv 0) (pe_int) (fun _ _ => rfl)) pa_nil)))
  (pss_cut (ps_for PassesOwn.never rfl (kSeq K (pe_ix (kIx K) (pv 2) (pe_int) (fun _ _ => rfl))) (pg_name (i := 4) nd rfl (.inl rfl))
   (pss_one (ps_expr (kBM K (pe_bm PySem.F.plainAttrs_list PySem.F.slot_list_extend PySem.F.type_list_extend (kExtT K) (pv 3) (pa_cons (pe_ix (kIx K) (pe_ix (kIx K) (pv 0) (pe_int) (fun _ _ => rfl)) (pv 4) (fun _ _ => rfl)) pa_nil))))))
  (pss_cons (ps_asg (pc (ok__law_ahead E) hr (by decide) pass0 rfl (pa_cons (pv 3) (pa_cons (pv 1) pa_nil))) (kGtup K rfl (pgs_cons (pg_name (i := 5) nd rfl (.inl rfl)) (pgs_cons (pg_name (i := 6) nd rfl (.inr rfl)) (pgs_nil)))))
  (pss_cons (ps_set (i := 7) nd rfl (.inl rfl) (pe_lst (pa_nil)))
  (pss_cut (ps_for PassesOwn.never rfl (kSeq K (pe_ix (kIx K) (pv 2) (pe_int) (fun _ _ => rfl))) (pg_name (i := 4) nd rfl (.inl rfl))
   (pss_one (ps_expr (kBM K (pe_bm PySem.F.plainAttrs_list PySem.F.slot_list_extend PySem.F.type_list_extend (kExtT K) (pv 7) (pa_cons (pe_ix (kIx K) (pe_ix (kIx K) (pv 0) (pe_int) (fun _ _ => rfl)) (pv 4) (fun _ _ => rfl)) pa_nil))))))
  (pss_cons (ps_asg (pc (ok__law_ahead E) hr (by decide) pass0 rfl (pa_cons (pv 7) (pa_cons (pv 1) pa_nil))) (kGtup K rfl (pgs_cons (pg_name (i := 8) nd rfl (.inl rfl)) (pgs_cons (pg_name (i := 9) nd rfl (.inl rfl)) (pgs_nil)))))
  (pss_one (ps_ret (pc (ok__law_plain E) hr (by decide) pass0 rfl (pa_cons (pv 5) (pa_cons (pe_lc (own := [("more", 10)]) (g := gName 10) (tt := tYes) rfl nd (kSeq K (pv 8)) (blkOk_by (N := N__law_on) (sc := defScope s__law_on) (by decide +kernel)) (fun _ _ _ _ _ => pg_name (i := 10) nd rfl (Or.inl rfl)) (fun _ _ _ _ _ => pts_nil) (fun _ _ _ _ _ => pe_op (kAdd K) (pv 6) (pv 10))) (pa_cons (pe_ifExp (pt_cmpR op_gt (pe_callB (kLen K) (by rfl) E.f_len (by decide +kernel) (pa_cons (pv 8) pa_nil)) (pe_int) (nomark _)) (pv 9) (pe_int)) pa_nil)))))))))))), ?_⟩
  change (_ : TS) _ [some v0, some v1, some v2, none, none, none, none, none, none, none, none] H
  try dsimp only [cxOf, Cx.nox, Cx.blk]
  obtain ⟨k0, bs, ws, it, ns, ms, hd, rfl, ⟨c, p1, p2, rfl, sc, s1, s2⟩, o1, o2, z1, z2, z3, zd, za, k⟩ := h
  obtain ⟨am, pb, pw, xs, rfl, sm, sb, sx, dx⟩ := dp_mk hd
  have W := tb_val (tkn_ok it (bs ++ fl ws ns)) (tkn_ok it (fl ws ms)) zd za
  unfold ndP at k
  walk_at "w"
  intro pd H1 n1 e1 g1
  refine w_cut (M := fun σ' H' => ∃ u : Option V, σ' = [some (.ref am), some (.int it), some (.ref c), some (.ref pd), u, none, none, none, none, none, none] ∧ Ex H H' ∧ H' pd = some (.lst ((bs ++ fl ws ns).map gV))) ?_ ?_
  dsimp only [List.set]
  walk_at "w"
  rcases s1 with s | s
  case' inl =>
    refine i_seqL ?_
    walk_at "w"
    refine r_ixE (ex_e e1 sc) (v := .ref p1) rfl ?_
    walk_at "w"
  case' inr =>
    refine i_seqT ?_
    walk_at "w"
    refine r_ixE (ex_e e1 sc) (v := .ref p1) rfl ?_
    walk_at "w"
  iterate 2
   focus
    refine forE (xs := vI ns) (by first | exact .inl ⟨rfl, s⟩ | exact .inr ⟨rfl, s⟩) (Pv := fun i σ' H' => ∃ u : Option V, σ' = [some (.ref am), some (.int it), some (.ref c), some (.ref pd), u, none, none, none, none, none, none] ∧ Ex H H' ∧ H' pd = some (.lst ((bs ++ fl ws (ns.take i)).map gV))) ⟨_, rfl, e1, by rw [g1]; simp [fl]⟩ (fun _ _ H' q => by obtain ⟨_, _, e, _⟩ := q; exact e) ?_ ?_
    · rintro i v σ' H' hi ⟨u, rfl, e, g⟩
      have hi2 := (List.getElem?_eq_some_iff.mp hi).1
      rw [List.length_map] at hi2
      rw [List.getElem?_map, List.getElem?_eq_getElem hi2] at hi
      obtain rfl : V.int ns[i] = v := Option.some.inj hi
      obtain ⟨q0, q1⟩ := o1 ns[i] (List.getElem_mem _)
      have e2 : bs ++ fl ws (ns.take (i + 1)) = (bs ++ fl ws (ns.take i)) ++ ws.getD ns[i].toNat [] := by
        rw [List.take_add_one, List.getElem?_eq_getElem hi2]
        show bs ++ fl ws (ns.take i ++ [ns[i]]) = _
        rw [fl_snoc, List.append_assoc]
      have zl : (bs ++ fl ws (ns.take (i + 1))).length ≤ 40000 := by
        have := fl_take_le ws ns (i + 1)
        rw [List.length_append] at zd ⊢
        omega
      generalize ns[i] = nn at *
      rw [e2] at zl ⊢
      generalize bs ++ fl ws (ns.take i) = ds at *
      have hsl : SqL K H' pd (ds.map gV) := sq_of g
      walk_at "w"
      obtain ⟨q, ha, sq⟩ := way_get dx q0 q1
      refine r_ixT (ex_t e sx) ha ?_
      walk_at "w"
      refine r_extT g (ex_t e sq) (sz_of (by rw [List.length_map, List.length_map]; rw [List.length_append] at zl; omega)) ?_
      walk_at "w"
      refine ⟨_, rfl, Ex.mut e n1, ?_⟩
      rw [upd_same, List.map_append]
    · rintro σ' H2 ⟨u, rfl, e, g⟩
      rw [List.length_map, List.take_length] at g
      exact ⟨_, rfl, e, g⟩
  rintro σ' H2 ⟨u, rfl, e, g⟩
  walk_at "w"
  refine ⟨pd, _, it, rfl, rfl, .inl (sq_of g), by omega, fun q tl H3 e3 sq nt gt => ?_⟩
  walk_at "w"
  intro pa H4 n4 e4 g4
  have E4 := (e.trans e3).trans e4
  have gt4 := e4 _ _ gt
  clear sq nt g
  refine w_cut (M := fun σ' H' => ∃ u : Option V, σ' = [some (.ref am), some (.int it), some (.ref c), some (.ref pd), u, some (.ref tl), some (.int (tkn it (bs ++ fl ws ns)).2), some (.ref pa), none, none, none] ∧ Ex H3 H' ∧ H' pa = some (.lst ((fl ws ms).map gV))) ?_ ?_
  dsimp only [List.set]
  walk_at "w"
  rcases s2 with s | s
  case' inl =>
    refine i_seqL ?_
    walk_at "w"
    refine r_ixE (ex_e E4 sc) (v := .ref p2) rfl ?_
    walk_at "w"
  case' inr =>
    refine i_seqT ?_
    walk_at "w"
    refine r_ixE (ex_e E4 sc) (v := .ref p2) rfl ?_
    walk_at "w"
  iterate 2
   focus
    refine forE (xs := vI ms) (by first | exact .inl ⟨rfl, s⟩ | exact .inr ⟨rfl, s⟩) (Pv := fun i σ' H' => ∃ u : Option V, σ' = [some (.ref am), some (.int it), some (.ref c), some (.ref pd), u, some (.ref tl), some (.int (tkn it (bs ++ fl ws ns)).2), some (.ref pa), none, none, none] ∧ Ex H H' ∧ Ex H3 H' ∧ H' pa = some (.lst ((fl ws (ms.take i)).map gV))) ⟨_, rfl, E4, e4, by rw [g4]; simp [fl]⟩ (fun _ _ H' q => by obtain ⟨_, _, e, _⟩ := q; exact e) ?_ ?_
    · rintro i v σ' H' hi ⟨u, rfl, e, e', g⟩
      have hi2 := (List.getElem?_eq_some_iff.mp hi).1
      rw [List.length_map] at hi2
      rw [List.getElem?_map, List.getElem?_eq_getElem hi2] at hi
      obtain rfl : V.int ms[i] = v := Option.some.inj hi
      obtain ⟨q0, q1⟩ := o2 ms[i] (List.getElem_mem _)
      have e2 : fl ws (ms.take (i + 1)) = (fl ws (ms.take i)) ++ ws.getD ms[i].toNat [] := by
        rw [List.take_add_one, List.getElem?_eq_getElem hi2]
        show fl ws (ms.take i ++ [ms[i]]) = _
        rw [fl_snoc]
      have zl : (fl ws (ms.take (i + 1))).length ≤ 40000 := by
        have := fl_take_le ws ms (i + 1)
        omega
      generalize ms[i] = nn at *
      rw [e2] at zl ⊢
      generalize fl ws (ms.take i) = ds at *
      have hsl : SqL K H' pa (ds.map gV) := sq_of g
      walk_at "w"
      obtain ⟨q, ha, sq⟩ := way_get dx q0 q1
      refine r_ixT (ex_t e sx) ha ?_
      walk_at "w"
      refine r_extT g (ex_t e sq) (sz_of (by rw [List.length_map, List.length_map]; rw [List.length_append] at zl; omega)) ?_
      walk_at "w"
      refine ⟨_, rfl, Ex.mut e (fresh_back ((‹Ex H H2›).trans e3) n4), Ex.mut e' n4, ?_⟩
      rw [upd_same, List.map_append]
    · rintro σ' H2 ⟨u, rfl, e, e', g⟩
      rw [List.length_map, List.take_length] at g
      exact ⟨_, rfl, e', g⟩
  rintro σ' H5 ⟨u, rfl, e5, g5⟩
  walk_at "w"
  refine ⟨pa, _, it, rfl, rfl, .inl (sq_of g5), by omega, fun q2 t2 H6 e6 sq2 nt2 gt2 => ?_⟩
  have E6 := ((e.trans e3).trans e5).trans e6
  have sh : SqL K H6 tl (vI (tkn it (bs ++ fl ws ns)).1) := sq_of (e6 _ _ (e5 _ _ gt))
  have sl : SqL K H6 t2 (vI (tkn it (fl ws ms)).1) := sq_of gt2
  have zz := (tkn_ok it (fl ws ms)).ll
  unfold tbL tbR at W k
  walk_at "w"
  refine i_seqL ?_
  walk_at "w"
  refine lcJ_list (v := fun x => .int ((tkn it (bs ++ fl ws ns)).2 + cntV x)) sl (by rw [List.length_map]; omega) (fun x => [_, _, _, _, _, _, _, _, _, _, some x]) (fun x => rfl) (fun x => rfl) (fun x H3 Q' e3 hx hq => ?_) (fun p3 H3 n3 e3 g3 => ?_)
  · obtain ⟨n, hn, rfl⟩ := List.mem_map.mp hx
    walk_at "w"
    exact hq _ (Ex.refl _)
  · rw [map_cnt] at g3
    have sl3 := ex_l e3 sl
    walk_at "w"
    by_cases cc : (tkn it (fl ws ms)).1 = []
    · rw [if_pos cc] at W k
      have c0 : ((tkn it (fl ws ms)).1.length : Int) = 0 := by rw [cc]; rfl
      walk_at "w"
      refine ⟨false, false, _, _, 0, dp_of_intL (ex_l e3 sh), dp_of_intL (sq_of g3), .int 0, Int.le_refl 0, W.sm, fun v H4 e4 d4 => ?_⟩
      rw [lawF_eq] at d4
      exact k v H4 ((E6.trans e3).trans e4) d4
    · rw [if_neg cc] at W k
      have l0 : 0 < (tkn it (fl ws ms)).1.length := List.length_pos_iff.mpr cc
      walk_at "w"
      refine ⟨false, false, _, _, _, dp_of_intL (ex_l e3 sh), dp_of_intL (sq_of g3), .int _, W.r0, W.sm, fun v H4 e4 d4 => ?_⟩
      rw [lawF_eq] at d4
      exact k v H4 ((E6.trans e3).trans e4) d4

end
section
theorem gI_lit {ns : List Int} {r lo hi : Int} (h : ns.all (fun n => decide (lo ≤ n) && decide (n ≤ hi)) = true) (r0 : 0 ≤ r) (r1 : r < ns.length) : lo ≤ gI ns r ∧ gI ns r ≤ hi := by
  have hl : r.toNat < ns.length := by omega
  have hm : gI ns r ∈ ns := by
    unfold gI
    rw [List.getD_eq_getElem?_getD, List.getElem?_eq_getElem hl]
    exact List.getElem_mem _
  have := List.all_eq_true.mp h _ hm
  simpa using this
theorem gI_mem {ns : List Int} {r : Int} (r0 : 0 ≤ r) (r1 : r < ns.length) : gI ns r ∈ ns := by
  unfold gI
  rw [List.getD_eq_getElem?_getD, List.getElem?_eq_getElem (show r.toNat < ns.length by omega)]
  exact List.getElem_mem _
theorem rising_le {ns : List Int} (h : rising ns) : ∀ (d i : Nat), i + d < ns.length → gI ns i ≤ gI ns (i + d)
  | 0, i, _ => Int.le_refl _
  | d + 1, i, hi => by
    refine Int.le_trans (rising_le h d i (by omega)) ?_
    have := h (i + d) (by omega)
    exact this
/-- small values -/
structure RawOk (h l : List Int) (r : Int) : Prop where
  val : Val h l r
  zh : h.length ≤ 4
  zl : l.length ≤ 4
  bh : ∀ n ∈ h, n ≤ 8
  bl : ∀ n ∈ l, n ≤ 16
  br : r ≤ 12

end
section
theorem gV_flat (ds : List Dd) : (ds.map gV).all flatV = true := by
  rw [List.all_map, List.all_eq_true]
  intro d _
  cases d <;> rfl
theorem giveIn (ds : List Dd) : inV (.str "give") (ds.map gV) = decide (none ∈ ds) := by
  unfold inV
  induction ds with
  | nil => rfl
  | cons d ds ih =>
    rw [List.map_cons, List.any_cons, ih]
    cases d with
    | none =>
      rw [decide_eq_true (List.mem_cons_self)]
      show ((("give" : Str) == "give") || _) = true
      rw [beq_self_eq_true]
      rfl
    | some i =>
      show (false || _) = _
      rw [Bool.false_or]
      exact decide_eq_decide.mpr ⟨fun h => List.mem_cons_of_mem _ h, fun h => (List.mem_cons.mp h).elim (fun e => nomatch e) id⟩
theorem ins_map (ds : List Dd) (i : Int) : (ds.map gV).take i.toNat ++ [V.str "give"] ++ (ds.map gV).drop i.toNat = (ds.take i.toNat ++ [none] ++ ds.drop i.toNat).map gV := by
  rw [List.map_append, List.map_append, List.map_take, List.map_drop]
  rfl
theorem ins_len (ds : List Dd) (i : Int) : (ds.take i.toNat ++ [none] ++ ds.drop i.toNat).length = ds.length + 1 := by
  rw [List.length_append, List.length_append, List.length_take, List.length_drop, List.length_singleton]
  omega
theorem ins_ok {k : Int} {ds : List Dd} {i : Int} (h : ∀ d ∈ ds, okD k d) : ∀ d ∈ ds.take i.toNat ++ [none] ++ ds.drop i.toNat, okD k d := fun d hd => by
  rcases List.mem_append.mp hd with hd | hd
  · rcases List.mem_append.mp hd with hd | hd
    · exact h d (List.mem_of_mem_take hd)
    · rw [List.mem_singleton.mp hd]
      exact fun i e => nomatch e
  · exact h d (List.mem_of_mem_drop hd)
/-- a row of ways that was found -/
structure Fnd (K : PySem.W.Frag) (H : Hp) (p : Addr) (k : Int) (n : Nat) (m : Nat) (ws : List (List Dd)) : Prop where
  at_ : ∃ xs, H p = some (.lst xs) ∧ DpAll K H xs (ws.map dW)
  len : ws.length = n
  ok : ∀ w ∈ ws, w ≠ [] ∧ w.length ≤ m ∧ ∀ d ∈ w, okD k d
theorem imm_all (ws : List (List Dd)) : immAll (ws.map dW) = true := imm_dWs ws
theorem fr_updN {x p : Addr} {H A A' : Hp} {o : HO} (f : Fr x H A) (n : A p = none) (g : Fr x H A') : Fr x H (upd A' p o) := fun b u nb hb => by
  rw [upd_ne (ne_of_none (f b u nb hb) n)]
  exact g b u nb hb
theorem Fnd.mv {K : PySem.W.Frag} {H H' : Hp} {p : Addr} {k : Int} {n m : Nat} {ws : List (List Dd)} (h : Fnd K H p k n m ws) (t : TEx H H') (e : ∀ xs, H p = some (.lst xs) → H' p = some (.lst xs)) : Fnd K H' p k n m ws := by
  obtain ⟨⟨xs, h1, h2⟩, h3, h4⟩ := h
  exact ⟨⟨xs, e xs h1, dpAll_tex t (imm_all ws) h2⟩, h3, h4⟩
theorem Fnd.add {K : PySem.W.Frag} {H : Hp} {p q : Addr} {k : Int} {n m : Nat} {ws : List (List Dd)} {w : List Dd} {xs : List V} (h : Fnd K H p k n m ws) (e : H p = some (.lst xs)) (s : SqT K H q (w.map gV)) (hw : w ≠ [] ∧ w.length ≤ m ∧ ∀ d ∈ w, okD k d) : Fnd K (upd H p (.lst (xs ++ [.ref q]))) p k (n + 1) m (ws ++ [w]) := by
  obtain ⟨⟨ys, h1, h2⟩, h3, h4⟩ := h
  obtain rfl : xs = ys := by rw [e] at h1; cases h1; rfl
  refine ⟨⟨_, upd_same, ?_⟩, by rw [List.length_append, h3]; rfl, fun u hu => ?_⟩
  · rw [List.map_append]
    have t := TEx.upd (o := .lst (xs ++ [V.ref q])) e
    exact dpAll_app (dpAll_tex t (imm_all ws) h2) (.cons (dp_tex t (imm_dW w) (dp_of_dW s)) .nil)
  · rcases List.mem_append.mp hu with hu | hu
    · exact h4 u hu
    · rw [List.mem_singleton.mp hu]
      exact hw
abbrev spLMaker (K : PySem.W.Frag) : Sp := sp4 fun s a b c H Q _ => ∃ (x : Addr) (k : Int), s = .ref x ∧ a = .int k ∧ b = .int 4 ∧ c = .bl true ∧ 1 ≤ k ∧ k ≤ 3 ∧ SrcAt H x ∧ ∀ v bs ws H', Fr x H H' → SrcAt H' x → Dp K H' v (dMk k bs ws) → MkOk k bs ws → bs.length ≤ 599 → Q v H'
abbrev N__law_maker : List Str := ["source", "inlets", "most", "stops", "begin", "found", "k", "way"]
theorem sc__law_maker : FnScope N__law_maker ["source", "inlets", "most", "stops"] (defScope s__law_maker) := ⟨rfl, rfl, rfl, by decide +kernel, rfl, by decide +kernel, by decide +kernel⟩
theorem ok__law_maker {P : Program} {w : World} {K : PySem.W.Frag} {mg : Str → Option Value} {base : Heap} (E : Env P K mg) : Fn P w K mg base CX0 3 "_law_maker" (spLMaker K) := by
  obtain ⟨fd, F⟩ := E.dd__law_maker
  refine Fn.mk0 F E.g__law_maker sc__law_maker sp4_len (fun _ _ _ _ _ _ us hl => match us, hl with | [_, _, _, _], _ => rfl) (fun cdv A outer s H vs Q X hr h => ?_)
  have nd := sc__law_maker.nd
  obtain ⟨v0, v1, v2, v3, rfl, h⟩ := h
  refine ⟨_, (pss_cons (ps_set (i := 4) nd rfl (.inl rfl) (pc (ok__law_deeds E) hr (by decide) pass0 rfl (pa_cons (pv 0) (pa_cons (pv 1) (pa_cons (pe_ix (kIx K) (pe_lst (pa_cons (pe_int) (pa_cons (pe_int) (pa_cons (pe_int) (pa_cons (pe_int) (pa_cons (pe_int) (pa_cons (pe_int) (pa_cons (pe_int) (pa_cons (pe_int) pa_nil))))))))) (pc (ok__law_pick E) hr (by decide) pass0 rfl (pa_cons (pv 0) (pa_cons (pe_int) pa_nil))) (fun _ _ => rfl)) (pa_cons (pe_int) pa_nil))))))
  (pss_cons (ps_set (i := 5) nd rfl (.inl rfl) (pe_lst (pa_nil)))
  (pss_cons (ps_for PassesOwn.never rfl (pi_range1 (by rfl) E.f_range (pa_cons (pe_op (kAdd K) (pe_int) (pc (ok__law_pick E) hr (by decide) pass0 rfl (pa_cons (pv 0) (pa_cons (pv 2) pa_nil)))) pa_nil)) (pg_name (i := 6) nd rfl (.inl rfl))
   (pss_cons (ps_set (i := 7) nd rfl (.inl rfl) (pc (ok__law_deeds E) hr (by decide) pass0 rfl (pa_cons (pv 0) (pa_cons (pv 1) (pa_cons (pe_op (kAdd K) (pe_int) (pc (ok__law_pick E) hr (by decide) pass0 rfl (pa_cons (pv 0) (pa_cons (pe_int) pa_nil)))) (pa_cons (pe_ix (kIx K) (pe_lst (pa_cons (pe_int) (pa_cons (pe_int) (pa_cons (pe_int) (pa_cons (pe_int) pa_nil))))) (pc (ok__law_pick E) hr (by decide) pass0 rfl (pa_cons (pv 0) (pa_cons (pe_int) pa_nil))) (fun _ _ => rfl)) pa_nil))))))
  (pss_cut (ps_if (PW.pt (pw_and (pt_cmpR (kNotInF K) (pe_str) (pv 7) rfl) (pw_and1 (pt_not (PW.pt (pw_and (kTru K (pv 3) (by intro _; rfl)) (pw_and1 (pt_cmpR (kEq K hr) (pc (ok__law_pick E) hr (by decide) pass0 rfl (pa_cons (pv 0) (pa_cons (pe_int) pa_nil))) (pe_int) (nomark _)))))))))
   (pss_one (ps_expr (kBM K (pe_bm PySem.F.plainAttrs_list PySem.F.slot_list_insert PySem.F.type_list_insert mt_insert (pv 7) (pa_cons (pc (ok__law_pick E) hr (by decide) pass0 rfl (pa_cons (pv 0) (pa_cons (pe_op (kAdd K) (pe_callB (kLen K) (by rfl) E.f_len (by decide +kernel) (pa_cons (pv 7) pa_nil)) (pe_int)) pa_nil))) (pa_cons (pe_str) pa_nil))))))
   pss_nil)
  (pss_one (ps_expr (kBM K (pe_bm PySem.F.plainAttrs_list PySem.F.slot_list_append PySem.F.type_list_append mt_append (pv 5) (pa_cons (pe_callTy (kTup K) (by rfl) E.f_tuple (by decide +kernel) (pa_cons (pv 7) pa_nil)) pa_nil))))))))
  (pss_one (ps_ret (pe_tup (pa_cons (pv 1) (pa_cons (pe_callTy (kTup K) (by rfl) E.f_tuple (by decide +kernel) (pa_cons (pv 4) pa_nil)) (pa_cons (pe_callTy (kTup K) (by rfl) E.f_tuple (by decide +kernel) (pa_cons (pv 5) pa_nil)) pa_nil))))))))), ?_⟩
  change (_ : TS) _ [some v0, some v1, some v2, some v3, none, none, none, none] H
  try dsimp only [cxOf, Cx.nox, Cx.blk]
  obtain ⟨x, k0, rfl, rfl, rfl, rfl, k1, k3, hsrc, k⟩ := h
  walk_at "w"
  intro p1 H1 n1 e1 h1
  walk_at "w"
  refine ⟨x, 8, rfl, rfl, by decide, by decide, hsrc.ex e1, fun r1 H2 r10 r18 q2 f2 => ?_⟩
  have g1 : H2 p1 = some (.lst (vI [0, 1, 2, 0, 3, 1, 4, 2])) := f2 p1 _ (hsrc.ne n1) h1
  have b1 := gI_lit (ns := [0, 1, 2, 0, 3, 1, 4, 2]) (lo := 0) (hi := 4) (by decide) r10 r18
  have F2 : Fr x H H2 := (Fr.of e1).trans f2
  walk_at "w"
  obtain ⟨m1, hm1⟩ := Int.eq_ofNat_of_zero_le b1.1
  rw [hm1] at b1 ⊢
  refine ⟨x, k0, m1, 2, rfl, rfl, rfl, rfl, k1, k3, by omega, q2, fun pb bs H3 n3 f3 q3 h3 hl3 ob => ?_⟩
  have pbx : pb ≠ x := q2.ne n3
  have F3 : Fr x H H3 := F2.trans f3
  walk_at "w"
  intro pf H4 n4 e4 h4
  have pfx : pf ≠ x := q3.ne n4
  have n4f := n4
  have h4b := e4 _ _ h3
  have pbf : pb ≠ pf := ne_of_none h3 n4
  walk_at "w"
  refine ⟨x, 4, rfl, rfl, by decide, by decide, q3.ex e4, fun rn H5 rn0 rn1 q5 f5 => ?_⟩
  have F5 : Fr x H H5 := (F3.trans (Fr.of e4)).trans f5
  have h5 := f5 _ _ pfx h4
  have h5b := f5 _ _ pbx h4b
  walk_at "w"
  refine for_range (lo := 0) (Pv := fun i σ' H' => ∃ (ws : List (List Dd)) (u v : Option V), σ' = [some (.ref x), some (.int k0), some (.int 4), some (.bl true), some (.ref pb), some (.ref pf), u, v] ∧ Fr x H H' ∧ SrcAt H' x ∧ H' pb = some (.lst (bs.map gV)) ∧ Fnd K H' pf k0 i 24 ws)
    ⟨[], _, _, rfl, F5, q5, h5b, ⟨[], h5, .nil⟩, rfl, fun w hw => absurd hw List.not_mem_nil⟩ ?_ ?_
  · rintro i σ' A0 hi ⟨ws, u, v, rfl, fA, qA, gb, fd⟩
    walk_at "w"
    refine ⟨x, 3, rfl, rfl, by decide, by decide, qA, fun r2 A1 r20 r21 qA1 fA1 => ?_⟩
    walk_at "w"
    intro p2 A2 n2 e2 g2
    walk_at "w"
    refine ⟨x, 4, rfl, rfl, by decide, by decide, qA1.ex e2, fun r3 A3 r30 r31 q3 f3 => ?_⟩
    have g3 : A3 p2 = some (.lst (vI [2, 2, 1, 3])) := f3 p2 _ (qA1.ne n2) g2
    walk_at "w"
    obtain ⟨m, hm⟩ := Int.eq_ofNat_of_zero_le (show 0 ≤ 1 + r2 by omega)
    rw [hm]
    have F3' : Fr x A0 A3 := (fA1.trans (Fr.of e2)).trans f3
    refine ⟨x, k0, m, _, rfl, rfl, rfl, rfl, k1, k3, by omega, q3, fun pw ds A4 n4 f4 q4 g4 hl4 od => ?_⟩
    have F4 : Fr x A0 A4 := F3'.trans f4
    have pwx : pw ≠ x := q3.ne n4
    have F3H : Fr x H A3 := fA.trans F3'
    have gb4 := F4 _ _ pbx gb
    have fd4 : Fnd K A4 pf k0 i 24 ws := fd.mv (Fr.tex F4 qA) fun xs e => F4 _ _ pfx e
    have pbw : pb ≠ pw := ne_of_none (F3' _ _ pbx gb) n4
    have pfw : pf ≠ pw := by
      obtain ⟨⟨xs, e, _⟩, _, _⟩ := fd
      exact ne_of_none (F3' _ _ pfx e) n4
    refine w_cut (M := fun σ' H' => ∃ ds' : List Dd, σ' = [some (.ref x), some (.int k0), some (.int 4), some (.bl true), some (.ref pb), some (.ref pf), some (.int (0 + (i : Int))), some (.ref pw)] ∧ Fr x H H' ∧ SrcAt H' x ∧ H' pb = some (.lst (bs.map gV)) ∧ Fnd K H' pf k0 i 24 ws ∧ H' pw = some (.lst (ds'.map gV)) ∧ ds' ≠ [] ∧ ds'.length ≤ m + 1 ∧ ∀ d ∈ ds', okD k0 d) ?_ ?_
    · dsimp only [List.set]
      walk_at "w"
      refine r_notInF (.inl (sq_of g4)) rfl (gV_flat ds) ?_
      rw [giveIn]
      have skip : ∀ A5, Fr x A4 A5 → SrcAt A5 x → Fr x H A5 ∧ SrcAt A5 x ∧ A5 pb = some (.lst (bs.map gV)) ∧ Fnd K A5 pf k0 i 24 ws ∧ A5 pw = some (.lst (ds.map gV)) ∧ ds ≠ [] ∧ ds.length ≤ m + 1 ∧ ∀ d ∈ ds, okD k0 d := fun A5 f5 q5 =>
        ⟨(fA.trans F4).trans f5, q5, f5 _ _ pbx gb4, fd4.mv (Fr.tex f5 q4) fun xs e => f5 _ _ pfx e, f5 _ _ pwx g4, fun e => by rw [e] at hl4; simp at hl4; omega, by omega, od⟩
      by_cases c : none ∈ ds
      · rw [decide_eq_true c]
        walk_at "w"
        exact ⟨_, rfl, skip A4 (Fr.refl _ _) q4⟩
      · rw [decide_eq_false c]
        walk_at "w"
        refine ⟨x, 3, rfl, rfl, by decide, by decide, q4, fun r4 A5 r40 r41 q5 f5 => ?_⟩
        walk_at "w"
        by_cases c2 : r4 = 1
        · walk_at "w"
          exact ⟨_, rfl, skip A5 f5 q5⟩
        · have g5 := f5 _ _ pwx g4
          have sl5 : SqL K A5 pw (ds.map gV) := sq_of g5
          walk_at "w"
          rw [List.length_map]
          refine ⟨x, _, rfl, rfl, by omega, by omega, q5, fun r5 A6 r50 r51 q6 f6 => ?_⟩
          have g6 := f6 _ _ pwx g5
          walk_at "w"
          refine ⟨pw, ds.map gV, r5, .str "give", rfl, rfl, g6, (by rw [List.length_map]; exact sz_lt (by omega)), r50, by omega, ?_⟩
          rw [ins_map]
          have F6 : Fr x H A6 := ((fA.trans F4).trans f5).trans f6
          have t6 : TEx A4 A6 := (Fr.tex f5 q4).trans (Fr.tex f6 q5)
          walk_at "w"
          refine ⟨_, rfl, fr_updN F3H n4 F6, src_fr pwx.symm Fr.upd q6, ?_, ?_, upd_same, fun e => ?_, by rw [ins_len]; omega, ins_ok od⟩
          · rw [upd_ne pbw]
            exact f6 _ _ pbx (f5 _ _ pbx gb4)
          · exact fd4.mv (t6.trans (TEx.upd g6)) fun xs e => by rw [upd_ne pfw]; exact f6 _ _ pfx (f5 _ _ pfx e)
          · have := ins_len ds r5
            rw [e] at this
            simp at this
    rintro σ' A7 ⟨ds', rfl, F7, q7, gb7, fd7, g7, ne7, zl7, od7⟩
    have sl7 : SqL K A7 pw (ds'.map gV) := sq_of g7
    obtain ⟨⟨xs, ex, dx⟩, hlen, hok⟩ := id fd7
    have slf : SqL K A7 pf xs := sq_of ex
    walk_at "w"
    intro pt A8 e8 s8
    have ex8 := e8 _ _ ex
    have fd8 := fd7.mv (TEx.of e8) fun ys e => e8 _ _ e
    walk_at "w"
    refine r_app (K := K) ex8 (sz_lt (by have := (dpAll_len dx).trans (List.length_map ..); omega)) ?_
    walk_at "w"
    refine ⟨_, _, _, rfl, ?_, ?_, ?_, fd8.add ex8 s8 ⟨ne7, by omega, od7⟩⟩
    · exact fr_updN F3 n4f (F7.trans (Fr.of e8))
    · exact src_fr pfx.symm Fr.upd (q7.ex e8)
    · rw [upd_ne pbf]
      exact e8 _ _ gb7
  · rintro σ' A0 ⟨ws, u, v, rfl, fA, qA, gb, fd⟩
    obtain ⟨⟨xs, ex, dx⟩, hlen, hok⟩ := id fd
    have slb : SqL K A0 pb (bs.map gV) := sq_of gb
    have slf : SqL K A0 pf xs := sq_of ex
    walk_at "w"
    intro t1 A1 e1' s1
    walk_at "w"
    intro t2 A2 e2' s2
    walk_at "w"
    intro t3 A3 n3' e3' g3'
    have E3 := (e1'.trans e2').trans e3'
    refine k _ bs ws A3 (fA.trans (Fr.of E3)) (qA.ex E3) (dp_of_mk (st_of g3') (ex_t (e2'.trans e3') s1) (ex_t e3' s2) (dpAll_ex E3 dx)) ⟨k1, k3, ob, by omega, by omega, by omega, fun w hw => ⟨(hok w hw).1, (hok w hw).2.2⟩, fun w hw => ?_⟩ (by omega)
    have := (hok w hw).2.1
    split <;> omega

end
section
abbrev spLLong (K : PySem.W.Frag) : Sp := sp3 fun s a c H Q _ => ∃ (x : Addr) (k : Int), s = .ref x ∧ a = .int k ∧ c = .bl true ∧ 1 ≤ k ∧ k ≤ 3 ∧ SrcAt H x ∧ ∀ v bs ws H', Fr x H H' → SrcAt H' x → Dp K H' v (dMk k bs ws) → MkOk k bs ws → bs.length ≤ 599 → Q v H'
abbrev N__law_long_maker : List Str := ["source", "inlets", "stops", "many", "begin", "found", "k", "most", "way"]
theorem sc__law_long_maker : FnScope N__law_long_maker ["source", "inlets", "stops"] (defScope s__law_long_maker) := ⟨rfl, rfl, rfl, by decide +kernel, rfl, by decide +kernel, by decide +kernel⟩
theorem ok__law_long_maker {P : Program} {w : World} {K : PySem.W.Frag} {mg : Str → Option Value} {base : Heap} (E : Env P K mg) : Fn P w K mg base CX0 3 "_law_long_maker" (spLLong K) := by
  obtain ⟨fd, F⟩ := E.dd__law_long_maker
  refine Fn.mk0 F E.g__law_long_maker sc__law_long_maker sp3_len (fun _ _ _ _ _ _ us hl => match us, hl with | [_, _, _], _ => rfl) (fun cdv A outer s H vs Q X hr h => ?_)
  have nd := sc__law_long_maker.nd
  obtain ⟨v0, v1, v2, rfl, h⟩ := h
  refine ⟨_, (pss_cons (ps_set (i := 3) nd rfl (.inl rfl) (pe_op (kAdd K) (pe_int) (pc (ok__law_pick E) hr (by decide) pass0 rfl (pa_cons (pv 0) (pa_cons (pe_int) pa_nil)))))
  (pss_cons (ps_set (i := 4) nd rfl (.inl rfl) (pc (ok__law_deeds E) hr (by decide) pass0 rfl (pa_cons (pv 0) (pa_cons (pv 1) (pa_cons (pc (ok__law_pick E) hr (by decide) pass0 rfl (pa_cons (pv 0) (pa_cons (pe_ix (kIx K) (pe_lst (pa_cons (pe_int) (pa_cons (pe_int) (pa_cons (pe_int) (pa_cons (pe_int) pa_nil))))) (pc (ok__law_pick E) hr (by decide) pass0 rfl (pa_cons (pv 0) (pa_cons (pe_int) pa_nil))) (fun _ _ => rfl)) pa_nil))) (pa_cons (pe_int) pa_nil))))))
  (pss_cons (ps_set (i := 5) nd rfl (.inl rfl) (pe_lst (pa_nil)))
  (pss_cons (ps_for PassesOwn.never rfl (pi_range1 (by rfl) E.f_range (pa_cons (pv 3) pa_nil)) (pg_name (i := 6) nd rfl (.inl rfl))
   (pss_cut (ps_set (i := 7) nd rfl (.inl rfl) (pe_ifExp (pt_cmpR op_gt (pv 3) (pe_int) (nomark _)) (pe_int) (pe_ix (kIx K) (pe_lst (pa_cons (pe_int) (pa_cons (pe_int) (pa_cons (pe_int) (pa_cons (pe_int) pa_nil))))) (pc (ok__law_pick E) hr (by decide) pass0 rfl (pa_cons (pv 0) (pa_cons (pe_int) pa_nil))) (fun _ _ => rfl))))
  (pss_cons (ps_set (i := 8) nd rfl (.inl rfl) (pc (ok__law_deeds E) hr (by decide) pass0 rfl (pa_cons (pv 0) (pa_cons (pv 1) (pa_cons (pe_op (kAdd K) (pe_int) (pc (ok__law_pick E) hr (by decide) pass0 rfl (pa_cons (pv 0) (pa_cons (pv 7) pa_nil)))) (pa_cons (pe_op (kAdd K) (pe_int) (pc (ok__law_pick E) hr (by decide) pass0 rfl (pa_cons (pv 0) (pa_cons (pe_int) pa_nil)))) pa_nil))))))
  (pss_cut (ps_if (PW.pt (pw_and (pt_cmpR (kNotInF K) (pe_str) (pv 8) rfl) (pw_and1 (pt_not (PW.pt (pw_and (kTru K (pv 2) (by intro _; rfl)) (pw_and1 (pt_cmpR (kEq K hr) (pc (ok__law_pick E) hr (by decide) pass0 rfl (pa_cons (pv 0) (pa_cons (pe_int) pa_nil))) (pe_int) (nomark _)))))))))
   (pss_one (ps_expr (kBM K (pe_bm PySem.F.plainAttrs_list PySem.F.slot_list_insert PySem.F.type_list_insert mt_insert (pv 8) (pa_cons (pc (ok__law_pick E) hr (by decide) pass0 rfl (pa_cons (pv 0) (pa_cons (pe_op (kAdd K) (pe_callB (kLen K) (by rfl) E.f_len (by decide +kernel) (pa_cons (pv 8) pa_nil)) (pe_int)) pa_nil))) (pa_cons (pe_str) pa_nil))))))
   pss_nil)
  (pss_one (ps_expr (kBM K (pe_bm PySem.F.plainAttrs_list PySem.F.slot_list_append PySem.F.type_list_append mt_append (pv 5) (pa_cons (pe_callTy (kTup K) (by rfl) E.f_tuple (by decide +kernel) (pa_cons (pv 8) pa_nil)) pa_nil)))))))))
  (pss_one (ps_ret (pe_tup (pa_cons (pv 1) (pa_cons (pe_callTy (kTup K) (by rfl) E.f_tuple (by decide +kernel) (pa_cons (pv 4) pa_nil)) (pa_cons (pe_callTy (kTup K) (by rfl) E.f_tuple (by decide +kernel) (pa_cons (pv 5) pa_nil)) pa_nil)))))))))), ?_⟩
  change (_ : TS) _ [some v0, some v1, some v2, none, none, none, none, none, none] H
  try dsimp only [cxOf, Cx.nox, Cx.blk]
  obtain ⟨x, k0, rfl, rfl, rfl, k1, k3, hsrc, k⟩ := h
  walk_at "w"
  refine ⟨x, 4, rfl, rfl, by decide, by decide, hsrc, fun ra H1 ra0 ra1 q1 f1 => ?_⟩
  obtain ⟨mn, hmn⟩ := Int.eq_ofNat_of_zero_le (show 0 ≤ 1 + ra by omega)
  obtain ⟨mx, hmx1, hmx2⟩ : ∃ mx : Nat, (mn = 1 → mx = 600) ∧ (mn ≠ 1 → mx = 24) := ⟨if mn = 1 then 600 else 24, fun h => if_pos h, fun h => if_neg h⟩
  walk_at "w"
  rw [hmn]
  intro p1 H2 n2 e2 h2
  walk_at "w"
  refine ⟨x, 4, rfl, rfl, by decide, by decide, q1.ex e2, fun r1 H3 r10 r11 q3 f3 => ?_⟩
  have g3 : H3 p1 = some (.lst (vI [25, 25, 25, 600])) := f3 p1 _ (q1.ne n2) h2
  have b3 := gI_lit (ns := [25, 25, 25, 600]) (lo := 25) (hi := 600) (by decide) r10 r11
  walk_at "w"
  refine ⟨x, _, rfl, rfl, by omega, by omega, q3, fun r2 H4 r20 r21 q4 f4 => ?_⟩
  obtain ⟨m1, hm1⟩ := Int.eq_ofNat_of_zero_le r20
  have F4 : Fr x H H4 := ((f1.trans (Fr.of e2)).trans f3).trans f4
  walk_at "w"
  rw [hm1] at r21 ⊢
  refine ⟨x, k0, m1, 2, rfl, rfl, rfl, rfl, k1, k3, by omega, q4, fun pb bs H5 n5 f5 q5 h5 hl5 ob => ?_⟩
  have pbx : pb ≠ x := q4.ne n5
  have F5 : Fr x H H5 := F4.trans f5
  walk_at "w"
  intro pf H6 n6 e6 h6
  have pfx : pf ≠ x := q5.ne n6
  have n4f := n6
  have F3 := F5
  have h6b := e6 _ _ h5
  have pbf : pb ≠ pf := ne_of_none h5 n6
  have F6 : Fr x H H6 := F5.trans (Fr.of e6)
  have q6 := q5.ex e6
  clear q1 q3 q4 f1 f3 f4 f5 e2 e6 h2 g3 n2 n5 h5 F4
  walk_at "w"
  refine for_range (lo := 0) (Pv := fun i σ' H' => ∃ (ws : List (List Dd)) (u v t : Option V), σ' = [some (.ref x), some (.int k0), some (.bl true), some (.int mn), some (.ref pb), some (.ref pf), u, v, t] ∧ Fr x H H' ∧ SrcAt H' x ∧ H' pb = some (.lst (bs.map gV)) ∧ Fnd K H' pf k0 i mx ws)
    ⟨[], _, _, _, rfl, F6, q6, h6b, ⟨[], h6, .nil⟩, rfl, fun w hw => absurd hw List.not_mem_nil⟩ ?_ ?_
  · rintro i σ' B0 hi ⟨ws, u, v, t, rfl, fB, qB, gbB, fdB⟩
    walk_at "w"
    refine w_cut (M := fun σ' H' => ∃ mo : Int, σ' = [some (.ref x), some (.int k0), some (.bl true), some (.int mn), some (.ref pb), some (.ref pf), some (.int (0 + (i : Int))), some (.int mo), t] ∧ Fr x B0 H' ∧ SrcAt H' x ∧ 1 ≤ mo ∧ mo + 1 ≤ mx) ?_ ?_
    · walk_at "w"
      by_cases c : mn = 1
      · have hx := hmx1 c
        walk_at "w"
        intro p2 B1 n2 e2 g2
        walk_at "w"
        refine ⟨x, 4, rfl, rfl, by decide, by decide, qB.ex e2, fun r3 B2 r30 r31 q3 f3 => ?_⟩
        have g3 : B2 p2 = some (.lst (vI [60, 60, 60, 599])) := f3 p2 _ (qB.ne n2) g2
        have b3 := gI_lit (ns := [60, 60, 60, 599]) (lo := 60) (hi := 599) (by decide) r30 r31
        walk_at "w"
        exact ⟨_, rfl, (Fr.of e2).trans f3, q3, by omega, by omega⟩
      · have hx := hmx2 c
        walk_at "w"
        exact ⟨_, rfl, Fr.refl _ _, qB, by omega, by omega⟩
    rintro σ' A0 ⟨mo, rfl, fBA, qA, mo1, mo2⟩
    have fA : Fr x H A0 := fB.trans fBA
    have gb := fBA _ _ pbx gbB
    have fd := fdB.mv (Fr.tex fBA qB) fun xs e => fBA _ _ pfx e
    clear fBA gbB fdB qB fB
    walk_at "w"
    refine ⟨x, mo, rfl, rfl, by omega, by have : mx ≤ 600 := (by by_cases c : mn = 1; · rw [hmx1 c]; exact Nat.le_refl _
                                                                 · rw [hmx2 c]; decide)
                                          omega, qA, fun r2 A1 r20 r21 qA1 fA1 => ?_⟩
    walk_at "w"
    refine ⟨x, 3, rfl, rfl, by decide, by decide, qA1, fun r3 A3 r30 r31 q3 f3 => ?_⟩
    walk_at "w"
    obtain ⟨m, hm⟩ := Int.eq_ofNat_of_zero_le (show 0 ≤ 1 + r2 by omega)
    rw [hm]
    have F3' : Fr x A0 A3 := fA1.trans f3
    have hmx6 : mx ≤ 600 := by
      by_cases c : mn = 1
      · rw [hmx1 c]; exact Nat.le_refl _
      · rw [hmx2 c]; decide
    refine ⟨x, k0, m, _, rfl, rfl, rfl, rfl, k1, k3, by omega, q3, fun pw ds A4 n4 f4 q4 g4 hl4 od => ?_⟩
    have F4 : Fr x A0 A4 := F3'.trans f4
    have pwx : pw ≠ x := q3.ne n4
    have F3H : Fr x H A3 := fA.trans F3'
    have gb4 := F4 _ _ pbx gb
    have fd4 : Fnd K A4 pf k0 i mx ws := fd.mv (Fr.tex F4 qA) fun xs e => F4 _ _ pfx e
    have pbw : pb ≠ pw := ne_of_none (F3' _ _ pbx gb) n4
    have pfw : pf ≠ pw := by
      obtain ⟨⟨xs, e, _⟩, _, _⟩ := fd
      exact ne_of_none (F3' _ _ pfx e) n4
    refine w_cut (M := fun σ' H' => ∃ ds' : List Dd, σ' = [some (.ref x), some (.int k0), some (.bl true), some (.int mn), some (.ref pb), some (.ref pf), some (.int (0 + (i : Int))), some (.int mo), some (.ref pw)] ∧ Fr x H H' ∧ SrcAt H' x ∧ H' pb = some (.lst (bs.map gV)) ∧ Fnd K H' pf k0 i mx ws ∧ H' pw = some (.lst (ds'.map gV)) ∧ ds' ≠ [] ∧ ds'.length ≤ m + 1 ∧ ∀ d ∈ ds', okD k0 d) ?_ ?_
    · dsimp only [List.set]
      walk_at "w"
      refine r_notInF (.inl (sq_of g4)) rfl (gV_flat ds) ?_
      rw [giveIn]
      have skip : ∀ A5, Fr x A4 A5 → SrcAt A5 x → Fr x H A5 ∧ SrcAt A5 x ∧ A5 pb = some (.lst (bs.map gV)) ∧ Fnd K A5 pf k0 i mx ws ∧ A5 pw = some (.lst (ds.map gV)) ∧ ds ≠ [] ∧ ds.length ≤ m + 1 ∧ ∀ d ∈ ds, okD k0 d := fun A5 f5 q5 =>
        ⟨(fA.trans F4).trans f5, q5, f5 _ _ pbx gb4, fd4.mv (Fr.tex f5 q4) fun xs e => f5 _ _ pfx e, f5 _ _ pwx g4, fun e => by rw [e] at hl4; simp at hl4; omega, by omega, od⟩
      by_cases c : none ∈ ds
      · rw [decide_eq_true c]
        walk_at "w"
        exact ⟨_, rfl, skip A4 (Fr.refl _ _) q4⟩
      · rw [decide_eq_false c]
        walk_at "w"
        refine ⟨x, 3, rfl, rfl, by decide, by decide, q4, fun r4 A5 r40 r41 q5 f5 => ?_⟩
        walk_at "w"
        by_cases c2 : r4 = 1
        · walk_at "w"
          exact ⟨_, rfl, skip A5 f5 q5⟩
        · have g5 := f5 _ _ pwx g4
          have sl5 : SqL K A5 pw (ds.map gV) := sq_of g5
          walk_at "w"
          rw [List.length_map]
          refine ⟨x, _, rfl, rfl, by omega, by omega, q5, fun r5 A6 r50 r51 q6 f6 => ?_⟩
          have g6 := f6 _ _ pwx g5
          walk_at "w"
          refine ⟨pw, ds.map gV, r5, .str "give", rfl, rfl, g6, (by rw [List.length_map]; exact sz_lt (by omega)), r50, by omega, ?_⟩
          rw [ins_map]
          have F6 : Fr x H A6 := ((fA.trans F4).trans f5).trans f6
          have t6 : TEx A4 A6 := (Fr.tex f5 q4).trans (Fr.tex f6 q5)
          walk_at "w"
          refine ⟨_, rfl, fr_updN F3H n4 F6, src_fr pwx.symm Fr.upd q6, ?_, ?_, upd_same, fun e => ?_, by rw [ins_len]; omega, ins_ok od⟩
          · rw [upd_ne pbw]
            exact f6 _ _ pbx (f5 _ _ pbx gb4)
          · exact fd4.mv (t6.trans (TEx.upd g6)) fun xs e => by rw [upd_ne pfw]; exact f6 _ _ pfx (f5 _ _ pfx e)
          · have := ins_len ds r5
            rw [e] at this
            simp at this
    rintro σ' A7 ⟨ds', rfl, F7, q7, gb7, fd7, g7, ne7, zl7, od7⟩
    have sl7 : SqL K A7 pw (ds'.map gV) := sq_of g7
    obtain ⟨⟨xs, ex, dx⟩, hlen, hok⟩ := id fd7
    have slf : SqL K A7 pf xs := sq_of ex
    walk_at "w"
    intro pt A8 e8 s8
    have ex8 := e8 _ _ ex
    have fd8 := fd7.mv (TEx.of e8) fun ys e => e8 _ _ e
    walk_at "w"
    refine r_app (K := K) ex8 (sz_lt (by have := (dpAll_len dx).trans (List.length_map ..); omega)) ?_
    walk_at "w"
    refine ⟨_, _, _, _, rfl, ?_, ?_, ?_, fd8.add ex8 s8 ⟨ne7, by omega, od7⟩⟩
    · exact fr_updN F3 n4f (F7.trans (Fr.of e8))
    · exact src_fr pfx.symm Fr.upd (q7.ex e8)
    · rw [upd_ne pbf]
      exact e8 _ _ gb7
  · rintro σ' A0 ⟨ws, u, v, t, rfl, fA, qA, gb, fd⟩
    obtain ⟨⟨xs, ex, dx⟩, hlen, hok⟩ := id fd
    have slb : SqL K A0 pb (bs.map gV) := sq_of gb
    have slf : SqL K A0 pf xs := sq_of ex
    walk_at "w"
    intro t1 A1 e1' s1
    walk_at "w"
    intro t2 A2 e2' s2
    walk_at "w"
    intro t3 A3 n3' e3' g3'
    have E3 := (e1'.trans e2').trans e3'
    refine k _ bs ws A3 (fA.trans (Fr.of E3)) (qA.ex E3) (dp_of_mk (st_of g3') (ex_t (e2'.trans e3') s1) (ex_t e3' s2) (dpAll_ex E3 dx)) ⟨k1, k3, ob, by omega, by omega, by omega, fun w hw => ⟨(hok w hw).1, (hok w hw).2.2⟩, fun w hw => ?_⟩ (by omega)
    have := (hok w hw).2.1
    by_cases c : mn = 1
    · rw [hmx1 c] at this
      rw [if_pos (by omega)]
      exact this
    · rw [hmx2 c] at this
      rw [if_neg (by omega)]
      exact this

end
section
theorem tk_from (i : Int) : ∀ (ds : List Dd) (s : List Int × Int), ds.foldl (tkp i) s = (s.1 ++ (tkn i ds).1.map (s.2 + ·), s.2 + (tkn i ds).2)
  | [], s => by
    show s = (s.1 ++ [], s.2 + 0)
    rw [List.append_nil, Int.add_zero]
  | d :: ds, s => by
    have e : tkn i (d :: ds) = ds.foldl (tkp i) (tkp i ([], 0) d) := rfl
    rw [e, List.foldl_cons, tk_from i ds (tkp i s d), tk_from i ds (tkp i ([], 0) d)]
    unfold tkp
    by_cases c : d = none
    · simp only [if_pos c]
      refine Prod.ext ?_ ?_
      · simp
      · simp
    · by_cases c2 : d = some i
      · simp only [if_neg c, if_pos c2]
        refine Prod.ext ?_ ?_
        · simp
          intro a _
          omega
        · simp
          omega
      · simp only [if_neg c, if_neg c2]
        simp
theorem tkn_app (i : Int) (a b : List Dd) : tkn i (a ++ b) = ((tkn i a).1 ++ (tkn i b).1.map ((tkn i a).2 + ·), (tkn i a).2 + (tkn i b).2) := by
  unfold tkn
  rw [List.foldl_append]
  exact tk_from i b _
theorem rep_el {i : Int} {m : List Dd} (hl : (tkn i m).1 ≠ []) : ∀ g : Nat, (tkn i (List.replicate g m).flatten).1.length = g * (tkn i m).1.length ∧ ∀ k : Nat, k < g * (tkn i m).1.length → gI (tkn i (List.replicate g m).flatten).1 k = extL (tkn i m).1 (tkn i m).2 k
  | 0 => ⟨by simp [tkn], fun k hk => by simp at hk⟩
  | g + 1 => by
    obtain ⟨h1, h2⟩ := rep_el hl g
    have e : (List.replicate (g + 1) m).flatten = m ++ (List.replicate g m).flatten := rfl
    rw [e, tkn_app]
    have L0 : 0 < (tkn i m).1.length := List.length_pos_iff.mpr hl
    refine ⟨?_, fun k hk => ?_⟩
    · show ((tkn i m).1 ++ (tkn i (List.replicate g m).flatten).1.map ((tkn i m).2 + ·)).length = _
      rw [List.length_append, List.length_map, h1, Nat.succ_mul, Nat.add_comm]
    · show gI ((tkn i m).1 ++ (tkn i (List.replicate g m).flatten).1.map ((tkn i m).2 + ·)) k = _
      by_cases c : k < (tkn i m).1.length
      · rw [extL_small c]
        unfold gI
        rw [Int.toNat_natCast, List.getD_eq_getElem?_getD, List.getD_eq_getElem?_getD, List.getElem?_append_left c]
      · obtain ⟨d, hd⟩ : ∃ d : Nat, k = (tkn i m).1.length + d := ⟨k - (tkn i m).1.length, by omega⟩
        have hd2 : d < g * (tkn i m).1.length := by rw [Nat.succ_mul] at hk; omega
        have e2 : gI ((tkn i m).1 ++ (tkn i (List.replicate g m).flatten).1.map ((tkn i m).2 + ·)) k = (tkn i m).2 + gI (tkn i (List.replicate g m).flatten).1 d := by
          rw [← gI_mapA (by omega) (by rw [h1]; omega)]
          unfold gI
          rw [Int.toNat_natCast, Int.toNat_natCast, List.getD_eq_getElem?_getD, List.getD_eq_getElem?_getD, List.getElem?_append_right (by omega), hd, Nat.add_sub_cancel_left]
        rw [e2, h2 d hd2, hd]
        have := extL_per (r := (tkn i m).2) hl (d : Int)
        rw [show (((tkn i m).1.length + d : Nat) : Int) = (d : Int) + (tkn i m).1.length by omega, this]
        omega
/-- the values of the table are what walking tells -/
theorem walk_TV {i : Int} {b m : List Dd} {g j : Nat} (hj : j < g) : TV (tkn i b).1 (tbL (tkn i b) (tkn i m)) (tbR (tkn i m)) j = (tkn i (b ++ (List.replicate g m).flatten)).1[j]? := by
  rw [tkn_app]
  show _ = ((tkn i b).1 ++ (tkn i (List.replicate g m).flatten).1.map ((tkn i b).2 + ·))[j]?
  unfold TV tbL tbR
  by_cases hl : (tkn i m).1 = []
  · have e : (tkn i (List.replicate g m).flatten).1 = [] := by
      clear hj
      induction g with
      | zero => rfl
      | succ g ih =>
        rw [show (List.replicate (g + 1) m).flatten = m ++ (List.replicate g m).flatten from rfl, tkn_app]
        show (tkn i m).1 ++ _ = []
        rw [hl, ih]
        rfl
    rw [hl, e, List.map_nil, if_pos rfl, List.append_nil]
  · obtain ⟨h1, h2⟩ := rep_el hl g
    have L0 : 0 < (tkn i m).1.length := List.length_pos_iff.mpr hl
    rw [if_neg (fun e => hl (List.map_eq_nil_iff.mp e)), if_neg hl]
    by_cases c : j < (tkn i b).1.length
    · rw [fV_head c, List.getElem?_append_left c, gI_get c]
    · have hk : j - (tkn i b).1.length < g * (tkn i m).1.length := Nat.lt_of_lt_of_le (show j - (tkn i b).1.length < g by omega) (Nat.le_mul_of_pos_right _ L0)
      rw [fV_loop (by omega), List.getElem?_append_right (by omega), List.getElem?_map, gI_get (by rw [h1]; exact hk), h2 _ hk]
      show some _ = some _
      congr 1
      unfold extL
      rw [List.length_map, show ((j - (tkn i b).1.length : Nat) : Int) = (j : Int) - (tkn i b).1.length by omega]
      have m0 := Int.emod_nonneg ((j : Int) - (tkn i b).1.length) (show ((tkn i m).1.length : Int) ≠ 0 by omega)
      have m1 := Int.emod_lt_of_pos ((j : Int) - (tkn i b).1.length) (show (0 : Int) < (tkn i m).1.length by omega)
      rw [gI_mapA m0 m1]
      show (tkn i b).2 + _ + _ = (tkn i b).2 + (_ + _)
      omega
/-- one round more, if not enough was told -/
def wk1 (g : Nat) (i : Int) (s : List Int × Int) (w : List Dd) : List Int × Int := if g ≤ s.1.length then s else w.foldl (tkp i) s
theorem wk_done {g : Nat} {i : Int} {s : List Int × Int} (h : g ≤ s.1.length) : ∀ ws : List (List Dd), ws.foldl (wk1 g i) s = s
  | [] => rfl
  | w :: ws => by
    rw [List.foldl_cons, show wk1 g i s w = s from if_pos h]
    exact wk_done h ws
theorem wk_full {g : Nat} {i : Int} : ∀ (ws : List (List Dd)) (s : List Int × Int), ws.foldl (wk1 g i) s = ws.flatten.foldl (tkp i) s ∨ (g ≤ (ws.foldl (wk1 g i) s).1.length ∧ ∃ t, (ws.flatten.foldl (tkp i) s).1 = (ws.foldl (wk1 g i) s).1 ++ t)
  | [], s => .inl rfl
  | w :: ws, s => by
    by_cases c : g ≤ s.1.length
    · rw [wk_done c]
      exact .inr ⟨c, _, by rw [tk_from]⟩
    · rw [List.foldl_cons, show wk1 g i s w = w.foldl (tkp i) s from if_neg c, List.flatten_cons, List.foldl_append]
      exact wk_full ws _
theorem wk_len {i : Int} : ∀ (ws : List (List Dd)) (s : List Int × Int), (∀ w ∈ ws, w.length ≤ 600) → s.1.length ≤ 700 → (ws.foldl (wk1 30 i) s).1.length ≤ 700
  | [], s, _, h => h
  | w :: ws, s, hw, h => by
    rw [List.foldl_cons]
    refine wk_len ws _ (fun u hu => hw u (List.mem_cons_of_mem _ hu)) ?_
    unfold wk1
    split
    · exact h
    · rw [tk_from]
      have a := (tkn_ok i w).ll
      have b := hw w List.mem_cons_self
      show (s.1 ++ (tkn i w).1.map (s.2 + ·)).length ≤ 700
      rw [List.length_append, List.length_map]
      omega
/-- the row that is told -/
def rowW (s : List Int × Int) : List V := (vI s.1 ++ List.replicate 30 V.non).take 30
theorem rowW_el (s : List Int × Int) : rowW s = (List.range 30).map fun j => optV s.1[j]? := by
  unfold rowW
  apply List.ext_getElem
  · simp
  · intro j h1 h2
    have hj : j < 30 := by simpa using h2
    rw [List.getElem_take, List.getElem_map, List.getElem_range]
    by_cases c : j < s.1.length
    · rw [List.getElem_append_left (by rw [List.length_map]; exact c), List.getElem_map, List.getElem?_eq_getElem c]
      rfl
    · rw [List.getElem_append_right (by rw [List.length_map]; omega), List.getElem_replicate, List.getElem?_eq_none (by omega)]
      rfl
theorem rowW_full {i : Int} (ws : List (List Dd)) : rowW (ws.foldl (wk1 30 i) ([], 0)) = rowW (tkn i ws.flatten) := by
  rcases wk_full (g := 30) (i := i) ws ([], 0) with h | ⟨h, t, e⟩
  · rw [h]; rfl
  · rw [rowW_el, rowW_el]
    apply List.map_congr_left
    intro j hj
    have hj := List.mem_range.mp hj
    show _ = optV (ws.flatten.foldl (tkp i) ([], 0)).1[j]?
    rw [e, List.getElem?_append_left (by omega)]
/-- the rounds of a course -/
def rwl (ws : List (List Dd)) (bs : List Dd) (ns ms : List Int) (g : Nat) : List (List Dd) := (bs :: ns.map fun n => ws.getD n.toNat []) ++ (List.replicate g (ms.map fun n => ws.getD n.toNat [])).flatten
theorem rwl_flat (ws : List (List Dd)) (bs : List Dd) (ns ms : List Int) (g : Nat) : (rwl ws bs ns ms g).flatten = (bs ++ fl ws ns) ++ (List.replicate g (fl ws ms)).flatten := by
  unfold rwl fl
  rw [List.flatten_append, List.flatten_cons]
  congr 1
  induction g with
  | zero => rfl
  | succ g ih =>
    show ((ms.map fun n => ws.getD n.toNat []) ++ (List.replicate g (ms.map fun n => ws.getD n.toNat [])).flatten).flatten = _
    rw [List.flatten_append, ih]
    rfl
theorem row_TV {i : Int} {ws : List (List Dd)} {bs : List Dd} {ns ms : List Int} : rowW ((rwl ws bs ns ms 30).foldl (wk1 30 i) ([], 0)) = (List.range 30).map fun j => optV (TV (tkn i (bs ++ fl ws ns)).1 (tbL (tkn i (bs ++ fl ws ns)) (tkn i (fl ws ms))) (tbR (tkn i (fl ws ms))) j) := by
  rw [rowW_full, rwl_flat, rowW_el]
  apply List.map_congr_left
  intro j hj
  rw [walk_TV (List.mem_range.mp hj)]
theorem rwl_len {ws : List (List Dd)} {bs : List Dd} {ns ms : List Int} {g : Nat} (hb : bs.length ≤ 600) (hw : ∀ w ∈ ws, w.length ≤ 600) : ∀ w ∈ rwl ws bs ns ms g, w.length ≤ 600 := by
  have key : ∀ n : Int, (ws.getD n.toNat []).length ≤ 600 := fun n => by
    rw [List.getD_eq_getElem?_getD]
    cases e : ws[n.toNat]? with
    | none => exact Nat.zero_le _
    | some w => exact hw w (List.mem_of_getElem? e)
  intro w h
  unfold rwl at h
  rcases List.mem_append.mp h with h | h
  · rcases List.mem_cons.mp h with rfl | h
    · exact hb
    · obtain ⟨n, _, rfl⟩ := List.mem_map.mp h
      exact key n
  · obtain ⟨l, hl, hw2⟩ := List.mem_flatten.mp h
    rw [(List.mem_replicate.mp hl).2] at hw2
    obtain ⟨n, _, rfl⟩ := List.mem_map.mp hw2
    exact key n

end
section
def isN (w : Int) (v : V) : Prop := ∃ n, v = .int n ∧ 0 ≤ n ∧ n < w
theorem isN_list {w : Int} : ∀ {ys : List V}, (∀ y ∈ ys, isN w y) → ∃ ns : List Int, ys = vI ns ∧ ∀ n ∈ ns, 0 ≤ n ∧ n < w
  | [], _ => ⟨[], rfl, fun w h => absurd h List.not_mem_nil⟩
  | y :: ys, h => by
    obtain ⟨n, rfl, hn⟩ := h y List.mem_cons_self
    obtain ⟨ns, rfl, hns⟩ := isN_list fun z hz => h z (List.mem_cons_of_mem _ hz)
    exact ⟨n :: ns, rfl, fun u hu => (List.mem_cons.mp hu).elim (fun e => e ▸ hn) (hns u)⟩
abbrev spCourse (K : PySem.W.Frag) : Sp := sp3 fun s a b H Q _ => ∃ (x : Addr) (k : Int) (bs : List Dd) (ws : List (List Dd)) (r : Nat), s = .ref x ∧ Dp K H a (dMk k bs ws) ∧ b = .int r ∧ r ≤ 200 ∧ 1 ≤ ws.length ∧ ws.length ≤ 4 ∧ SrcAt H x ∧
  ∀ (c p q : Addr) (ns ms : List Int) (H' : Hp), Fr x H H' → SrcAt H' x → SqT K H' c [.ref p, .ref q] → SqT K H' p (vI ns) → SqT K H' q (vI ms) → okN ws ns → okN ws ms → ns.length ≤ r → 1 ≤ ms.length → ms.length ≤ 2 → Q (.ref c) H'
abbrev N__law_course : List Str := ["source", "maker", "rounds", "many", "first", "then", "k"]
theorem sc__law_course : FnScope N__law_course ["source", "maker", "rounds"] (defScope s__law_course) := ⟨rfl, rfl, rfl, by decide +kernel, rfl, by decide +kernel, by decide +kernel⟩
theorem ok__law_course {P : Program} {w : World} {K : PySem.W.Frag} {mg : Str → Option Value} {base : Heap} (E : Env P K mg) : Fn P w K mg base CX0 2 "_law_course" (spCourse K) := by
  obtain ⟨fd, F⟩ := E.dd__law_course
  refine Fn.mk0 F E.g__law_course sc__law_course sp3_len (fun _ _ _ _ _ _ us hl => match us, hl with | [_, _, _], _ => rfl) (fun cdv A outer s H vs Q X hr h => ?_)
  have nd := sc__law_course.nd
  obtain ⟨v0, v1, v2, rfl, h⟩ := h
  refine ⟨_, (pss_cons (ps_set (i := 3) nd rfl (.inr rfl) (pe_callB (kLen K) (by rfl) E.f_len (by decide +kernel) (pa_cons (pe_ix (kIx K) (pv 1) (pe_int) (fun _ _ => rfl)) pa_nil)))
  (pss_cons (ps_setLc (i := 4) (own := [("k", 6)]) (g := gName 6) (tt := tYes) rfl nd rfl rfl (sw_true rfl rfl rfl (by decide +kernel)) (pi_range1 (by rfl) E.f_range (pa_cons (pc (ok__law_pick E) hr (by decide) pass0 rfl (pa_cons (pv 0) (pa_cons (pe_op (kAdd K) (pv 2) (pe_int)) pa_nil))) pa_nil)) (blkOk_by (N := N__law_course) (sc := defScope s__law_course) (by decide +kernel)) (fun _ _ _ _ _ => pg_name (i := 6) nd rfl (Or.inl rfl)) (fun _ _ _ _ _ => pts_nil) (fun _ _ _ _ _ => pc (ok__law_pick E) hr (by decide) pass0 rfl (pa_cons (pv 0) (pa_cons (pv 3) pa_nil))))
  (pss_cons (ps_setLc (i := 5) (own := [("k", 6)]) (g := gName 6) (tt := tYes) rfl nd rfl rfl (sw_true rfl rfl rfl (by decide +kernel)) (pi_range1 (by rfl) E.f_range (pa_cons (pe_op (kAdd K) (pe_int) (pc (ok__law_pick E) hr (by decide) pass0 rfl (pa_cons (pv 0) (pa_cons (pe_int) pa_nil)))) pa_nil)) (blkOk_by (N := N__law_course) (sc := defScope s__law_course) (by decide +kernel)) (fun _ _ _ _ _ => pg_name (i := 6) nd rfl (Or.inl rfl)) (fun _ _ _ _ _ => pts_nil) (fun _ _ _ _ _ => pc (ok__law_pick E) hr (by decide) pass0 rfl (pa_cons (pv 0) (pa_cons (pv 3) pa_nil))))
  (pss_one (ps_ret (pe_tup (pa_cons (pe_callTy (kTup K) (by rfl) E.f_tuple (by decide +kernel) (pa_cons (pv 4) pa_nil)) (pa_cons (pe_callTy (kTup K) (by rfl) E.f_tuple (by decide +kernel) (pa_cons (pv 5) pa_nil)) pa_nil)))))))), ?_⟩
  change (_ : TS) _ [some v0, some v1, some v2, none, none, none, none] H
  try dsimp only [cxOf, Cx.nox, Cx.blk]
  obtain ⟨x, k0, bs, ws, r, rfl, hd, rfl, hr2, w1, w4, hsrc, k⟩ := h
  obtain ⟨am, pb, pw, xs, rfl, sm, sb, sx, dx⟩ := dp_mk hd
  have zl := (dpAll_len dx).trans (List.length_map ..)
  walk_at "w"
  refine ⟨x, _, rfl, rfl, by omega, by omega, hsrc, fun r1 H1 r10 r11 q1 f1 => ?_⟩
  walk_at "w"
  refine lcS_range (K := K) (s := x) (isN ws.length) (by omega) q1 (fun v => [_, _, _, _, _, _, some v]) (fun _ => rfl) (fun _ => rfl) (fun i H2 Q' f2 q2 hi hq => ?_) (fun pf H2 ys n2 f2 q2 g2 hl hp => ?_)
  · walk_at "w"
    refine ⟨x, _, rfl, rfl, by omega, by omega, q2, fun r2 H3 r20 r21 q3 f3 => ?_⟩
    exact hq _ _ ⟨r2, rfl, r20, by omega⟩ f3 q3
  obtain ⟨ns, rfl, ok1⟩ := isN_list hp
  rw [List.length_map] at hl
  have pfx : pf ≠ x := q1.ne n2
  clear hp
  dsimp only [List.set]
  walk_at "w"
  refine ⟨x, 2, rfl, rfl, by decide, by decide, q2, fun r3 H3 r30 r31 q3 f3 => ?_⟩
  walk_at "w"
  refine lcS_range (K := K) (s := x) (isN ws.length) (by omega) q3 (fun v => [_, _, _, _, _, _, some v]) (fun _ => rfl) (fun _ => rfl) (fun i H4 Q' f4 q4 hi hq => ?_) (fun pt H4 ys n4 f4 q4 g4 hl2 hp => ?_)
  · walk_at "w"
    refine ⟨x, _, rfl, rfl, by omega, by omega, q4, fun r2 H5 r20 r21 q5 f5 => ?_⟩
    exact hq _ _ ⟨r2, rfl, r20, by omega⟩ f5 q5
  obtain ⟨ms, rfl, ok2⟩ := isN_list hp
  rw [List.length_map] at hl2
  have g4f := f4 _ _ pfx (f3 _ _ pfx g2)
  have sl1 : SqL K H4 pf (vI ns) := sq_of g4f
  have sl2 : SqL K H4 pt (vI ms) := sq_of g4
  clear hp
  dsimp only [List.set]
  walk_at "w"
  intro t1 H5 e5 s1
  walk_at "w"
  intro t2 H6 e6 s2
  walk_at "w"
  intro t3 H7 n7 e7 g7
  have E7 := (e5.trans e6).trans e7
  exact k t3 t1 t2 ns ms H7 ((((f1.trans f2).trans f3).trans f4).trans (Fr.of E7)) (q4.ex E7) (st_of g7) (ex_t (e6.trans e7) s1) (ex_t e7 s2) ok1 ok2 (by omega) (by omega) (by omega)
theorem cutV_toV {xs : List V} {i : Int} (h : 0 ≤ i) : cutV xs none (some i) = xs.take i.toNat := by
  have := cutV_to (xs := xs) (i := i) h (fun x => x)
  rwa [List.map_id', List.map_id'] at this
/-- the ways of the numbers, as data -/
theorem ways_dp {K : PySem.W.Frag} {H : Hp} {ys : List V} {ws : List (List Dd)} {ns : List Int} (h : DpAll K H ys ((List.range ns.length).map fun i : Nat => dW (ws.getD (gI ns i).toNat []))) : DpAll K H ys ((ns.map fun n => ws.getD n.toNat []).map dW) := by
  have e : (List.range ns.length).map (fun i : Nat => dW (ws.getD (gI ns i).toNat [])) = (ns.map fun n => ws.getD n.toNat []).map dW := by
    apply List.ext_getElem
    · simp
    · intro j h1 h2
      have hj : j < ns.length := by simpa using h1
      rw [List.getElem_map, List.getElem_map, List.getElem_map, List.getElem_range]
      have : gI ns (j : Int) = ns[j] := by
        unfold gI
        rw [Int.toNat_natCast, List.getD_eq_getElem?_getD, List.getElem?_eq_getElem hj]
        rfl
      rw [this]
  rwa [e] at h
abbrev spWalked (K : PySem.W.Frag) : Sp := sp4 fun a b c d H Q _ => ∃ (k i : Int) (bs : List Dd) (ws : List (List Dd)) (ns ms : List Int) (cc p q : Addr), Dp K H a (dMk k bs ws) ∧ b = .int i ∧ c = .ref cc ∧ SqT K H cc [.ref p, .ref q] ∧ SqT K H p (vI ns) ∧ SqT K H q (vI ms) ∧ d = .int 30 ∧ okN ws ns ∧ okN ws ms ∧ ns.length ≤ 200 ∧ ms.length ≤ 40 ∧ bs.length ≤ 600 ∧ (∀ w ∈ ws, w.length ≤ 600) ∧
  ∀ pr H', Ex H H' → H' pr = some (.lst (rowW ((rwl ws bs ns ms 30).foldl (wk1 30 i) ([], 0)))) → Q (.ref pr) H'

end
section
--@import KE.KAssignIn
/-! a tuple told to attributes; defs with keyword-only names -/
def gFld (K : PySem.W.Frag) (ta : TE) (f : Str) : TG := fun v σ H Q => ta σ H fun x H1 => ∃ a C dx fs, x = .ref a ∧ H1 a = some (.ins C dx fs) ∧ Cls K C ∧ NoAttr K C f ∧ fs.length < 1000 ∧ Q σ (upd H1 a (.ins C dx (putF f v fs)))
theorem pg_fld {X : Cx} {o : Expr} {f : Str} {pos : Pos} {ta : TE} (ha : PE X o ta) : PG X (.Attribute o f pos) (gFld X.K ta f) := by
  refine ⟨fun pins s σ H v u Q I r h => ?_⟩
  refine PySem.W.kas_attr (thn (ha.run pins s σ H _ I h) fun ov s1 ⟨x, H1, I1, rx, a, C, dx, fs, ex, ea, c, n, l, q⟩ => ?_)
  subst ex
  obtain rfl : ov = Value.ref a := rx
  exact setattr_ok I1 ea c n l r fun s2 I2 => ⟨σ, _, I2, q⟩
theorem kGfld (K : PySem.W.Frag) {X : Cx} {o : Expr} {f : Str} {pos : Pos} {ta : TE} (ha : PE X o ta) (h : X.K = K := by rfl) : PG X (.Attribute o f pos) (gFld K ta f) := by subst h; exact pg_fld ha
theorem w_gfld {K : PySem.W.Frag} {ta : TE} {f : Str} {v : V} {σ : L2.St} {H : Hp} {Q : L2.St → Hp → Prop} (h : ta σ H fun x H1 => PutF K f v x H1 fun H2 => Q σ H2) : gFld K ta f v σ H Q := h
/-- a def called with names: n values are written, then the ones named ks -/
structure FnK (P : Program) (w : World) (K : PySem.W.Frag) (mg : Str → Option Value) (base : Heap) (CX : CXT) (k : Nat) (x : Str) (n : Nat) (ks : List Str) (sp : Sp) : Prop where
  ex : ∃ (f : Addr) (fd : FuncData) (ps : List Str), FnOk P w K mg base CX k f fd ps sp ∧ mg x = some (.ref f) ∧ PySem.W.keepIn K (.ref f) = true ∧ KBn K fd ps n ks (fun us ws => us ++ ws) (fun vs zs => vs ++ zs)
theorem kbnN {K : PySem.W.Frag} {x qual : Str} {params : Arguments} {body : List Stmt} {scope : Scope} {kws : List (Str × V)} {f : Addr} {fd : FuncData} {ps ks : List Str} {n : Nat} (F : FunD K x qual params body scope [] kws f fd)
    (h : ∀ (kV doc pm : Value) (an : Option Addr) (cdv ct : Value) (us ws : List Value), us.length = n → ws.length = ks.length → bindArgs (PySem.W.fnOf x qual params body scope .none kV doc pm an cdv ct) ⟨us, ks.zip ws⟩ = pure (ps.zip (us ++ ws))) :
    KBn K fd ps n ks (fun us ws => us ++ ws) (fun vs zs => vs ++ zs) := by
  obtain ⟨oc, od, dV, kV, doc, pm, an, cdv, ct, osl, rfl, lk, hcd, hD, hK⟩ := F.ex
  rcases hD with ⟨_, rfl⟩ | ⟨e, _⟩
  · exact ⟨fun s us ws _ l1 l2 => .of_eq (h kV doc pm an cdv ct us ws l1 l2), fun a b => a.append b⟩
  · exact absurd rfl e
def tCallK (n m : Nat) (sp : Sp) (E : XK) (t tk : TA) : TE := tCallN n m sp (fun vs zs => vs ++ zs) E t tk
theorem pcK {X : Cx} {CX : CXT} {k j n : Nat} {x : Str} {ks : List Str} {sp : Sp} {E : XK} {p pos : Pos} {e : Expr} {es : List Expr} {kws : List Keyword} {t tk : TA}
    (c : FnK X.prog X.w X.K X.mg X.base CX k x n ks sp) (hr : Room j X.A) (hk : k ≤ j) (hx : Passes CX X E) (hg : Gl X x) (ha : PA X (e :: es) t) (hkw : PK X kws tk)
    (hall : (backToKw pos (keywordEach kws X.env)).all (·.1.isSome) = true := by rfl) (hks : (backToKw pos (keywordEach kws X.env)).filterMap (·.1) = ks := by rfl)
    (hdb : (x == ("__debug__" : Str)) = false := by decide) (he : starEach (e :: es) X.env = (false, eval e X.env) :: starEach es X.env := by rfl)
    (hpl : ((backTo pos (starEach (e :: es) X.env)).any (·.1) || (backToKw pos (keywordEach kws X.env)).any (·.1.isNone)) = false := by rfl) :
    PE X (.Call (.Name x p) (e :: es) kws pos) (tCallK n ks.length sp E t tk) := by
  obtain ⟨f, fd, ps, F, hm, hkp, hb⟩ := c.ex
  exact pe_callN F (hr.mono hk) hg hm hkp hb hx ha hkw hall hks hdb he hpl
theorem w_callK {n m : Nat} {sp : Sp} {E : XK} {t tk : TA} {σ : L2.St} {H : Hp} {Q : VK} (h : t σ H fun vs H1 => tk σ H1 fun zs H2 => vs.length = n ∧ zs.length = m ∧ sp (vs ++ zs) H2 Q E) : tCallK n m sp E t tk σ H Q := h

end
section
--@import PyProof.Draws
--@import PyProof.EnumMake
--@import PyProof.TupleIter
--@import KE.GoesMore
--@import HandS.Iter
--@import HandS.Walk
/-! enumerate of a tuple -/
section
open AutoSeq1 (wpAny_loadPart')
set_option maxHeartbeats 1000000 in
theorem meets_enumerate_newT (l : Addr) (items : Array Value) (n : Nat) (dct : Option Addr) (sl : Array (Option Value)) :
    Meets (Builtin.«enumerate.__new__» ⟨[.type "enumerate", .ref l], []⟩) (fun _ R s => s.heap.get? l = some { cls := .type "tuple", dict := dct, data := .seq items n, slots := sl } ∧
      R (.ok (.ret (.ref (s.heap.push { cls := .type "tuple_iterator", data := .fields #[.ref l, .int 0 0] }).objs.size)))
        { s with heap := (s.heap.push { cls := .type "tuple_iterator", data := .fields #[.ref l, .int 0 0] }).push { cls := .type "enumerate", data := .fields #[.none, .bool false, .ref s.heap.objs.size, rawInt 0, .none, .none] } }) :=
  .of_wp fun prog w A R s h => by
    obtain ⟨hp, g, d, tk, os⟩ := s
    obtain ⟨hl, h⟩ := h
    have hsub := sub_enumerate
    have hL : Heap.IsTuple (Shared.heap ⟨hp, g, d, tk, os⟩) l items := ⟨_, hl, rfl, n, rfl⟩
    wp_walk using wpAny_loadPart' hl
    refine wpAny_stack_any fun st => wpAny_pure ?_
    split
    · rename_i c _ _ _ _ _
      cases (c == Value.type "enumerate")
      · wp_walk using wpAny_loadPart' hl, wpAny_pyIter_tuple hL
        exact ⟨_, rfl, h⟩
      · wp_walk using wpAny_loadPart' hl, wpAny_pyIter_tuple hL
        exact ⟨_, rfl, h⟩
    · wp_walk using wpAny_loadPart' hl, wpAny_pyIter_tuple hL
      exact ⟨_, rfl, h⟩
end
theorem call_enumerate_tuple {prog : Program} {w : World} {A : Around} {E : Value → Shared → Prop} {s : Shared} {l : Addr} {items : Array Value} {Q : Value → Shared → Prop} (hL : s.heap.IsTuple l items)
    (h : ∀ h', IsEnum h' (s.heap.objs.size + 1) s.heap.objs.size 0 .none → h'.IsTupleIter s.heap.objs.size l 0 → (∀ b o, s.heap.get? b = some o → h'.get? b = some o) → Q (.ref (s.heap.objs.size + 1)) { s with heap := h' }) :
    wpAny (model prog w) A (call (.type "enumerate") [.ref l]) Q E s := by
  obtain ⟨⟨c, dct, dt, sl⟩, hl, hc, n, hd⟩ := hL
  replace hc : c = .type "tuple" := hc
  replace hd : dt = .seq items n := hd
  subst hc hd
  refine callType_new F.called_enumerate (by decide) (F.typeCall_enumerate_1 _) (F.newCall_enumerate_1 _) (fun obj => F.args_object_init_2 obj _) F.entry_enumerate_new
    (meets_enumerate_newT l items n dct sl) ⟨hl, ?_⟩
  have hz : (s.heap.push { cls := .type "tuple_iterator", data := .fields #[.ref l, .int 0 0] }).objs.size = s.heap.objs.size + 1 := Heap.size_push ..
  show _ ∧ _
  rw [hz]
  have he : IsEnum ((s.heap.push { cls := .type "tuple_iterator", data := .fields #[.ref l, .int 0 0] }).push
      { cls := .type "enumerate", data := .fields #[.none, .bool false, .ref s.heap.objs.size, rawInt 0, .none, .none] }) (s.heap.objs.size + 1) s.heap.objs.size 0 .none := by
    have := Heap.get?_push_size (s.heap.push { cls := .type "tuple_iterator", data := .fields #[.ref l, .int 0 0] })
      (o := { cls := .type "enumerate", data := .fields #[.none, .bool false, .ref s.heap.objs.size, rawInt 0, .none, .none] }) rfl
    rw [hz] at this; exact this
  exact ⟨⟨_, he, rfl⟩, h _ he ⟨_, Heap.get?_push_of_some _ (Heap.get?_push_size _ rfl), rfl, rfl⟩ fun b o x => Heap.get?_push_of_some _ (Heap.get?_push_of_some _ x)⟩
theorem drawsT {prog : Program} {w : World} {A : Around} (hh : A.handled = none) (it l : Addr) (hne : l ≠ it) (items : Array Value) :
    Draws prog w A it [it, l] items.size (fun i v => items[i]? = some v) (fun i h => h.IsTupleIter it l i ∧ h.IsTuple l items) where
  live := fun _ _ st => let ⟨o, ho, _⟩ := st.1; ⟨o, ho⟩
  frame := fun _ _ _ st hk => ⟨st.1.at fun o e => hk it (by simp) o e, let ⟨o, ho, r⟩ := st.2; ⟨o, hk l (by simp) o ho, r⟩⟩
  item := fun i s Q E hi st hQ => by
    refine wpAny_nextOf_tuple_item st.1 st.2 (x := items[i]) (by simp [hi]) fun h' hit' hs' => ?_
    exact hQ _ h' s.toks (by simp [hi]) ⟨hit', st.2.extBut hs'.extBut hne⟩ hs'
  done := fun s Q E st hE => wpAny_nextOf_tuple_end hh st.1 st.2 (by simp) hE
/-- the tuple at a, each item in a new pair -/
def IteT (K : PySem.W.Frag) (a : Addr) : It :=
  ⟨fun i H => ∃ (xs : List V) (x : V), SqT K H a xs ∧ xs[i]? = some x, fun i H v H' => ∃ T x, v = .ref T ∧ H T = none ∧ H' = upd H T (.tup [.int (i : Nat), x]) ∧ ∀ xs, SqT K H a xs → xs[i]? = some x, fun i H => ∃ xs : List V, SqT K H a xs ∧ xs.length ≤ i⟩
theorem turn_enumT {P : Program} {w : World} {K : PySem.W.Frag} {elts : List Expr} {kk : Nat} {tpos : Pos} (a e it : Addr) (xs0 : List V) (items : Array Value) :
    Turn P w K (.Tuple elts kk tpos) (IteT K a) [e, it] e (fun i h => (∃ old, IsEnum h e it ((i : Nat) : Int) old) ∧ h.IsTupleIter it a i ∧ e ≠ it) where
  mem := by simp
  obj := fun i h st b hb => by
    obtain ⟨⟨old, he⟩, ⟨o, ho, hc, hd⟩, _⟩ := st
    have e' : b = e ∨ b = it := by simpa using hb
    rcases e' with z | z
    · rw [z]; exact ⟨_, he, fun v q => nomatch q⟩
    · rw [z]; exact ⟨o, ho, fun v q => by rw [hd] at q; cases q⟩
  keep := fun i h h' st k => let ⟨⟨old, he⟩, hi, hne⟩ := st; ⟨⟨old, k e (by simp) _ he⟩, hi.at fun o q => k it (by simp) o q, hne⟩
  item := by
    intro X hP hw hK hc i pins s σ H E I hf st hg
    subst hP hw hK
    obtain ⟨⟨old, he⟩, hit, hne⟩ := st
    obtain ⟨xs, x, hq, hx⟩ := hg
    obtain ⟨its, rv, p, hz⟩ := I.tuple hq
    obtain ⟨u, hu, ru⟩ := rv.get hx
    have hel : e < s.heap.objs.size := Heap.lt_size he
    have hil : it < s.heap.objs.size := by obtain ⟨_, q, _⟩ := hit; exact Heap.lt_size q
    have hia : a ≠ it := by
      rintro rfl
      obtain ⟨o1, h1, c1, _⟩ := hit
      obtain ⟨o2, h2, c2, _⟩ := p
      rw [h1] at h2
      cases h2
      rw [c1] at c2
      exact absurd c2 (by decide)
    have hea : e ≠ a := by
      rintro rfl
      obtain ⟨o2, h2, c2, n2, d2⟩ := p
      have h1 := he
      unfold IsEnum at h1
      rw [h1] at h2
      cases h2
      exact nomatch (show Value.type "enumerate" = Value.type "tuple" from c2)
    have hlt : i < its.toArray.size := by
      have := (List.getElem?_eq_some_iff.mp hu).1
      simpa using this
    refine wpAny_pyNext_enum_itemD (drawsT (show X.A.in1.handled = none from I.ok.hd hc) it a hia its.toArray) he ⟨hit, p⟩ hlt hne (by simp; exact ⟨hne, hea⟩) fun u' h' tk hP ho st' hT hsz hk => ?_
    obtain ⟨hit', _⟩ := st'
    have eu : u' = u := by
      have h1 : its.toArray[i]? = some u := by simpa using hu
      rw [h1] at hP
      exact (Option.some.inj hP).symm
    subst eu
    refine ⟨_, rfl, wpAny_letOwnedTupleGo_enum (s := { s with heap := h', toks := tk + 1 }) ho fun h'' he' sb => ?_⟩
    have hT2 : h''.get? s.heap.objs.size = some { cls := .type "tuple", data := .seq #[.int i tk, u'] } := (sb.2 _ (Nat.ne_of_gt hel)).trans hT
    have new : ObjOk X.prog X.w (upd H s.heap.objs.size (.tup [.int (i : Nat), x])) h'' s.heap.objs.size (.tup [.int (i : Nat), x]) :=
      ⟨by show 2 ≤ sizeLine; decide, [.int i tk, u'], .cons ⟨_, rfl⟩ (.cons ru .nil), ⟨_, hT2, rfl, _, rfl⟩⟩
    have I1 : Inv X pins σ (upd H s.heap.objs.size (.tup [.int (i : Nat), x])) { s with heap := h'', toks := tk + 1 } :=
      I.turnedNew (ch := [e, it]) (fun b ob hb q => (sb.2 b (fun z => hb (by simp [z]))).trans (hk b ob (fun z => hb (by simp [z])) (fun z => hb (by simp [z])) q)) hf (Nat.le_refl _) new
    refine ⟨.ref s.heap.objs.size, _, I1, rfl, ⟨_, x, rfl, I.hok.fresh (Nat.le_refl _), rfl, fun ys hy => by rw [I.tuple_inj hy hq]; exact hx⟩, ⟨⟨u', ?_⟩, hit'.at fun o q => (sb.2 it (Ne.symm hne)).trans q, hne⟩, fun b hb => ?_⟩
    · have e1 : ((i + 1 : Nat) : Int) = (i : Int) + 1 := by omega
      rw [e1]; exact he'
    · have hb' : b < s.heap.objs.size := by
        have e' : b = e ∨ b = it := by simpa using hb
        rcases e' with z | z
        · rw [z]; exact hel
        · rw [z]; exact hil
      rw [upd_ne (Nat.ne_of_lt hb')]
      exact (hf b hb).1
  done := by
    intro X hP hw hK hc i pins s σ H E I hf st hg
    subst hP hw hK
    obtain ⟨⟨old, he⟩, hit, hne⟩ := st
    obtain ⟨xs, hq, hx⟩ := hg
    obtain ⟨its, rv, p, hz⟩ := I.tuple hq
    obtain ⟨f0, f1, f2, f3, f4, f5⟩ := hf it (by simp)
    have hl := rv.length
    have hT : s.TypeIs (.ref e) "enumerate" := ⟨_, he, rfl⟩
    have hn : its.toArray[i]? = none := Array.getElem?_eq_none (by simp; omega)
    have fin : ∀ h', Heap.ExtBut it s.heap h' → Inv X pins σ H { s with heap := h' } := fun h' eb => I.turned (t' := s.toks) (fun b o hb q => eb b o hb q) f0 f1 f3 f4 f5
    unfold pyNext
    refine wpAny_bind (wpAny_attempt (wpAny_callSpecial?_slot (name := Str.ofString "__next__") hT F.slot_enumerate_next
      (wpAny_call_entry F.slot_enumerate_next hT F.entry_enumerate_next ?_ (F.args_enumerate_next_1 _))))
    show wpAny _ _ (field (.ref e) 2 >>= _) _ _ _
    refine wpAny_bind (wpAny_field he rfl (x := .ref it) rfl ?_)
    refine wpAny_bind (wpAny_nextOf_tuple_end (I.ok.hd hc) hit p hn fun h' z he' hx' => ?_)
    obtain ⟨o, ho, hc'⟩ := hx'
    refine wpAny_bind (wpAny_isInstance (T := "StopIteration") (b := true) ⟨o, ho, hc'⟩ isSubtype_stop ?_)
    exact wpAny_pure ⟨rfl, fin h' he'⟩
  self := fun A i s Q E st h => let ⟨⟨_, he⟩, _⟩ := st; wpAny_pyIter_enum he h
/-- enumerate of a list or a tuple -/
def iEnumE (K : PySem.W.Frag) (ta : TA) : TI := fun σ H R => ta σ H fun vs H1 => ∃ a xs, vs = [.ref a] ∧ ((SqL K H1 a xs ∧ R (Ite K a) H1) ∨ (SqT K H1 a xs ∧ R (IteT K a) H1))
theorem pi_enumE {X : Cx} (K : PySem.W.Frag) {e : Expr} {ta : TA} {p pos tpos : Pos} {elts : List Expr} {kk : Nat} (hg : Gl X "enumerate") (hm : X.mg "enumerate" = none) (ha : PA X [e] ta) (hs : starEach [e] X.env = [(false, eval e X.env)] := by rfl) (hK : X.K = K := by rfl) :
    PI X (.Tuple elts kk tpos) (.Call (.Name "enumerate" p) [e] [] pos) (iEnumE K ta) := by
  subst hK
  refine ⟨fun pins s σ H R I h => ?_⟩
  refine Call_ (ld_blt I hg hm boot_enumerate (PyProof.Rows.callWith_type1 (thn (ha.run pos pins s σ H _ I h) fun us s1 ⟨vs, H1, I1, r1, q1⟩ => ?_) hs rfl))
  obtain ⟨a, xs, ex, q⟩ := q1
  subst ex
  cases r1 with
  | cons r rr =>
    cases rr
    cases r
    have hle : ∀ b, b ∈ [s1.heap.objs.size + 1, s1.heap.objs.size] → s1.heap.objs.size ≤ b := fun b hb => by
      have e' : b = s1.heap.objs.size + 1 ∨ b = s1.heap.objs.size := by simpa using hb
      rcases e' with z | z
      · rw [z]; exact Nat.le_add_right _ _
      · rw [z]; exact Nat.le_refl _
    rcases q with ⟨hq, q⟩ | ⟨hq, q⟩
    · obtain ⟨its, rv, p', hz⟩ := I1.list hq
      refine call_enumerate_list p'.isList fun h' he hit hsz hk => wpAny_pyIter_enum he ?_
      exact ⟨s1.heap.objs.size + 1, [s1.heap.objs.size + 1, s1.heap.objs.size], _, _, H1, rfl, I1.kept (t' := s1.toks) hk, turn_enum a (s1.heap.objs.size + 1) s1.heap.objs.size, ⟨⟨.none, he⟩, hit, Nat.succ_ne_self _⟩, fun b hb => I1.fpOk (hle b hb) (I1.hok.fresh (hle b hb)), q⟩
    · obtain ⟨its, rv, p', hz⟩ := I1.tuple hq
      refine call_enumerate_tuple p' fun h' he hit hk => wpAny_pyIter_enum he ?_
      exact ⟨s1.heap.objs.size + 1, [s1.heap.objs.size + 1, s1.heap.objs.size], _, _, H1, rfl, I1.kept (t' := s1.toks) hk, turn_enumT a (s1.heap.objs.size + 1) s1.heap.objs.size [] #[], ⟨⟨.none, he⟩, hit, Nat.succ_ne_self _⟩, fun b hb => I1.fpOk (hle b hb) (I1.hok.fresh (hle b hb)), q⟩
/-- a for over enumerate(tuple) -/
theorem for_enumT {K : PySem.W.Frag} {a : Addr} {xs : List V} {g : TG} {tb : TS} {D : Ends} {σ : L2.St} {H : Hp} (Pv : Nat → L2.St → Hp → Prop) (h0 : Pv 0 σ H) (hl : ∀ i σ H, i ≤ xs.length → Pv i σ H → SqT K H a xs)
    (hs : ∀ i x σ H T, xs[i]? = some x → Pv i σ H → H T = none → g (.ref T) σ (upd H T (.tup [.int (i : Nat), x])) fun σ2 H2 => tb { D with nx := Pv (i + 1), ct := Pv (i + 1), bk := D.nx } σ2 H2) (hd : ∀ σ H, Pv xs.length σ H → D.nx σ H) : ForJ (IteT K a) g tb D σ H := by
  refine for_it (J := IteT K a) (n := xs.length) (G := fun H => SqT K H a xs) (Y := fun i H v H' => ∃ T x, v = .ref T ∧ H T = none ∧ H' = upd H T (.tup [.int (i : Nat), x]) ∧ xs[i]? = some x)
    ⟨fun i H hi h => ⟨xs, xs[i], h, List.getElem?_eq_getElem hi⟩, fun H h => ⟨xs, h, Nat.le_refl _⟩, fun i H x H' hi h y => by obtain ⟨T, z, e1, e2, e3, e4⟩ := y; exact ⟨T, z, e1, e2, e3, e4 xs h⟩⟩ Pv h0 hl ?_ hd
  rintro i v σ H H' hi p ⟨T, x, rfl, hT, rfl, hx⟩
  exact hs i x σ H T hx p hT

end
section
/-! the best of sums of rounds -/
/-- a round: what is taken ahead of each give, and in all -/
abbrev Rd := List Int × Int
def gsum : List Rd → Nat
  | [] => 0
  | w :: c => w.1.length + gsum c
def tsum : List Rd → Int
  | [] => 0
  | w :: c => w.2 + tsum c
theorem gsum_app (a b : List Rd) : gsum (a ++ b) = gsum a + gsum b := by
  induction a with
  | nil => exact (Nat.zero_add _).symm
  | cons w a ih => show w.1.length + gsum (a ++ b) = w.1.length + gsum a + gsum b; omega
theorem tsum_app (a b : List Rd) : tsum (a ++ b) = tsum a + tsum b := by
  induction a with
  | nil => exact (Int.zero_add _).symm
  | cons w a ih => show w.2 + tsum (a ++ b) = w.2 + tsum a + tsum b; omega
theorem gsum_rep (n : Nat) (w : Rd) : gsum (List.replicate n w) = n * w.1.length := by
  induction n with
  | zero => rw [Nat.zero_mul]; rfl
  | succ n ih => rw [List.replicate_succ, Nat.succ_mul]; show w.1.length + gsum _ = _; omega
theorem tsum_rep (n : Nat) (w : Rd) : tsum (List.replicate n w) = (n : Int) * w.2 := by
  induction n with
  | zero => rw [Int.natCast_zero, Int.zero_mul]; rfl
  | succ n ih => rw [List.replicate_succ, Int.natCast_succ, Int.add_mul, Int.one_mul]; show w.2 + tsum _ = _; omega
def Of (gv c : List Rd) : Prop := ∀ w ∈ c, w ∈ gv
theorem Of.app {gv a b : List Rd} (x : Of gv a) (y : Of gv b) : Of gv (a ++ b) := fun w hw => (List.mem_append.mp hw).elim (x w) (y w)
theorem Of.cons {gv a : List Rd} {w : Rd} (x : w ∈ gv) (y : Of gv a) : Of gv (w :: a) := fun u hu => (List.mem_cons.mp hu).elim (fun e => e ▸ x) (y u)
theorem Of.nil {gv : List Rd} : Of gv [] := fun _ h => absurd h List.not_mem_nil
def Pos1 (gv : List Rd) : Prop := ∀ w ∈ gv, 1 ≤ w.1.length
theorem glen {gv : List Rd} (P : Pos1 gv) : ∀ {c : List Rd}, Of gv c → c.length ≤ gsum c
  | [], _ => Nat.le_refl _
  | w :: c, h => by
    have a := P w (h w List.mem_cons_self)
    have b := glen P (c := c) fun u hu => h u (List.mem_cons_of_mem _ hu)
    show c.length + 1 ≤ w.1.length + gsum c
    omega
theorem gle {gv : List Rd} {L : Nat} (P : ∀ w ∈ gv, w.1.length ≤ L) : ∀ {c : List Rd}, Of gv c → gsum c ≤ c.length * L
  | [], _ => Nat.zero_le _
  | w :: c, h => by
    have a := P w (h w List.mem_cons_self)
    have b := gle P (c := c) fun u hu => h u (List.mem_cons_of_mem _ hu)
    show w.1.length + gsum c ≤ (c.length + 1) * L
    rw [Nat.succ_mul]
    omega
/-- x is at least as good as y -/
def bt (m : Bool) (x y : Int) : Prop := if m = true then y ≤ x else x ≤ y
theorem bt_refl (m : Bool) (x : Int) : bt m x x := by cases m <;> exact Int.le_refl x
theorem bt_trans {m : Bool} {x y z : Int} (a : bt m x y) (b : bt m y z) : bt m x z := by
  cases m
  · exact Int.le_trans a b
  · exact Int.le_trans b a
theorem bt_anti {m : Bool} {x y : Int} (a : bt m x y) (b : bt m y x) : x = y := by
  cases m
  · exact Int.le_antisymm a b
  · exact Int.le_antisymm b a
theorem bt_total (m : Bool) (x y : Int) : bt m x y ∨ bt m y x := by
  cases m
  · exact Int.le_total x y
  · exact Int.le_total y x
theorem bt_add {m : Bool} {x y u v : Int} (a : bt m x y) (b : bt m u v) : bt m (x + u) (y + v) := by
  cases m
  · exact Int.add_le_add a b
  · exact Int.add_le_add a b
theorem bt_mul {m : Bool} {x y k : Int} (k0 : 0 ≤ k) (a : bt m x y) : bt m (x * k) (y * k) := by
  cases m
  · exact Int.mul_le_mul_of_nonneg_right a k0
  · exact Int.mul_le_mul_of_nonneg_right a k0
theorem bt_cancel {m : Bool} {x y k : Int} (k0 : 0 < k) (a : bt m (x * k) (y * k)) : bt m x y := by
  cases m
  · exact Int.le_of_mul_le_mul_right a k0
  · exact Int.le_of_mul_le_mul_right a k0
theorem pig : ∀ (m : Nat) (f : Nat → Nat), (∀ i, i ≤ m → f i < m) → ∃ i j, i < j ∧ j ≤ m ∧ f i = f j
  | 0, f, h => absurd (h 0 (Nat.le_refl _)) (Nat.not_lt_zero _)
  | m + 1, f, h => by
    by_cases c : ∃ i, i ≤ m ∧ f i = f (m + 1)
    · obtain ⟨i, hi, e⟩ := c
      exact ⟨i, m + 1, by omega, Nat.le_refl _, e⟩
    · have hne : ∀ i, i ≤ m → f i ≠ f (m + 1) := fun i hi e => c ⟨i, hi, e⟩
      have hl := h (m + 1) (Nat.le_refl _)
      obtain ⟨i, j, a, b, e⟩ := pig m (fun i => if f (m + 1) < f i then f i - 1 else f i) (fun i hi => by
        have x := h i (by omega)
        have y := hne i hi
        split <;> omega)
      refine ⟨i, j, a, by omega, ?_⟩
      have x := hne i (by omega)
      have y := hne j (by omega)
      split at e <;> split at e <;> omega
theorem block {gv c : List Rd} {m0 : Nat} (hm : 0 < m0) (P : Pos1 gv) (hc : Of gv c) (hl : m0 ≤ c.length) : ∃ X B Y q, c = X ++ B ++ Y ∧ gsum B = m0 * (q + 1) := by
  obtain ⟨i, j, hij, hj, e⟩ := pig m0 (fun i => gsum (c.take i) % m0) (fun i _ => Nat.mod_lt _ hm)
  have e1 : c.take j = c.take i ++ (c.take j).drop i := by
    have := (List.take_append_drop i (c.take j)).symm
    rw [List.take_take, Nat.min_eq_left (Nat.le_of_lt hij)] at this
    exact this
  have e2 := gsum_app (c.take i) ((c.take j).drop i)
  rw [← e1] at e2
  have hB : Of gv ((c.take j).drop i) := fun w hw => hc w (List.mem_of_mem_take (List.mem_of_mem_drop hw))
  have lB := glen P hB
  rw [List.length_drop, List.length_take] at lB
  have d : m0 ∣ gsum ((c.take j).drop i) := by
    have z := Nat.sub_mod_eq_zero_of_mod_eq e.symm
    rw [e2, Nat.add_sub_cancel_left] at z
    exact Nat.dvd_of_mod_eq_zero z
  obtain ⟨q, hq⟩ := d
  have q0 : 0 < q := by
    rcases Nat.eq_zero_or_pos q with z | z
    · rw [z, Nat.mul_zero] at hq; omega
    · exact z
  refine ⟨c.take i, (c.take j).drop i, c.drop j, q - 1, ?_, by rw [hq]; congr 1; omega⟩
  rw [← e1, List.take_append_drop]
theorem rate_sum {m : Bool} {b : Rd} : ∀ {c : List Rd}, (∀ w ∈ c, bt m (b.2 * w.1.length) (w.2 * b.1.length)) → bt m (b.2 * gsum c) (tsum c * b.1.length)
  | [], _ => by
    show bt m (b.2 * ((0 : Nat) : Int)) (0 * _)
    rw [Int.natCast_zero, Int.mul_zero, Int.zero_mul]
    exact bt_refl _ _
  | w :: c, h => by
    have a := bt_add (h w List.mem_cons_self) (rate_sum (c := c) fun u hu => h u (List.mem_cons_of_mem _ hu))
    show bt m (b.2 * ((w.1.length + gsum c : Nat) : Int)) ((w.2 + tsum c) * _)
    rw [Int.natCast_add, Int.mul_add, Int.add_mul]
    exact a
/-- the round with the best rate -/
structure Bst (m : Bool) (gv : List Rd) (b : Rd) : Prop where
  mem : b ∈ gv
  rate : ∀ w ∈ gv, bt m (b.2 * w.1.length) (w.2 * b.1.length)
theorem shift {m : Bool} {gv c : List Rd} {b : Rd} {L : Nat} (B : Bst m gv b) (P : Pos1 gv) (hL : ∀ w ∈ gv, w.1.length ≤ L) (hc : Of gv c) (hn : (b.1.length - 1) * L < gsum c) :
    ∃ c', Of gv c' ∧ gsum c' + b.1.length = gsum c ∧ bt m (tsum c' + b.2) (tsum c) := by
  have m0 := P b B.mem
  have hl : b.1.length ≤ c.length := by
    rcases Nat.lt_or_ge c.length b.1.length with h | h
    · have := gle hL hc
      have := Nat.mul_le_mul_right L (show c.length ≤ b.1.length - 1 by omega)
      omega
    · exact h
  obtain ⟨X, D, Y, q, rfl, hq⟩ := block (by omega) P hc hl
  have hX : Of gv X := fun w hw => hc w (List.mem_append_left _ (List.mem_append_left _ hw))
  have hD : Of gv D := fun w hw => hc w (List.mem_append_left _ (List.mem_append_right _ hw))
  have hY : Of gv Y := fun w hw => hc w (List.mem_append_right _ hw)
  refine ⟨X ++ Y ++ List.replicate q b, (hX.app hY).app fun w hw => by rw [List.eq_of_mem_replicate hw]; exact B.mem, ?_, ?_⟩
  · rw [gsum_app, gsum_app, gsum_app, gsum_app, gsum_rep, hq, Nat.mul_succ, Nat.mul_comm q]
    omega
  · have r := rate_sum (m := m) (b := b) (c := D) fun w hw => B.rate w (hD w hw)
    rw [hq, Int.natCast_mul, Int.mul_comm (b.1.length : Int), ← Int.mul_assoc] at r
    have r := bt_cancel (by omega) r
    rw [Int.natCast_succ, Int.mul_add, Int.mul_one] at r
    rw [tsum_app, tsum_app, tsum_app, tsum_app, tsum_rep]
    have := bt_add (bt_refl m (tsum X + tsum Y)) r
    rw [show tsum X + tsum Y + (q : Int) * b.2 + b.2 = tsum X + tsum Y + (b.2 * q + b.2) by rw [Int.mul_comm]; omega, show tsum X + tsum D + tsum Y = tsum X + tsum Y + tsum D by omega]
    exact this
/-- the best total of whole rounds with n gives -/
def IsT (m : Bool) (gv : List Rd) (n : Nat) : Option Int → Prop
  | none => ∀ c, Of gv c → gsum c ≠ n
  | some v => (∃ c, Of gv c ∧ gsum c = n ∧ tsum c = v) ∧ ∀ c, Of gv c → gsum c = n → bt m v (tsum c)
/-- the best need at the n-th give behind the beginning -/
def IsV (m : Bool) (gv : List Rd) (tk : Int) (n : Nat) (v : Int) : Prop :=
  (∃ c w k, Of gv c ∧ w ∈ gv ∧ k < w.1.length ∧ gsum c + k + 1 = n ∧ v = tk + tsum c + gI w.1 (k : Nat)) ∧
  ∀ c w, ∀ k : Nat, Of gv c → w ∈ gv → k < w.1.length → gsum c + k + 1 = n → bt m v (tk + tsum c + gI w.1 k)
theorem IsT.zero {m : Bool} {gv : List Rd} (P : Pos1 gv) : IsT m gv 0 (some 0) := ⟨⟨[], .nil, rfl, rfl⟩, fun c hc h => by
  have := glen P hc
  obtain rfl : c = [] := List.eq_nil_of_length_eq_zero (by omega)
  exact bt_refl _ _⟩
theorem IsT.uniq {m : Bool} {gv : List Rd} {n : Nat} {o p : Option Int} (a : IsT m gv n o) (b : IsT m gv n p) : o = p := by
  cases o with
  | none => cases p with
    | none => rfl
    | some v => obtain ⟨⟨c, h1, h2, _⟩, _⟩ := b; exact absurd h2 (a c h1)
  | some u => cases p with
    | none => obtain ⟨⟨c, h1, h2, _⟩, _⟩ := a; exact absurd h2 (b c h1)
    | some v =>
      obtain ⟨⟨c, h1, h2, rfl⟩, h3⟩ := a
      obtain ⟨⟨d, k1, k2, rfl⟩, k3⟩ := b
      rw [bt_anti (h3 d k1 k2) (k3 c h1 h2)]
theorem IsV.uniq {m : Bool} {gv : List Rd} {tk : Int} {n : Nat} {u v : Int} (a : IsV m gv tk n u) (b : IsV m gv tk n v) : u = v := by
  obtain ⟨⟨c, w, k, h1, h2, h3, h4, rfl⟩, h5⟩ := a
  obtain ⟨⟨d, x, j, k1, k2, k3, k4, rfl⟩, k5⟩ := b
  exact bt_anti (h5 d x j k1 k2 k3 k4) (k5 c w k h1 h2 h3 h4)
def CandT (T : Nat → Option Int) (gv : List Rd) (n : Nat) (v : Int) : Prop := ∃ w ∈ gv, ∃ u, w.1.length ≤ n ∧ T (n - w.1.length) = some u ∧ v = u + w.2
def CandV (T : Nat → Option Int) (gv : List Rd) (tk : Int) (n : Nat) (v : Int) : Prop := ∃ w ∈ gv, ∃ k : Nat, ∃ u, k < w.1.length ∧ k < n ∧ T (n - k - 1) = some u ∧ v = tk + u + gI w.1 k
section
variable {m : Bool} {gv : List Rd} {T : Nat → Option Int} {n : Nat} {tk : Int}
theorem candT_of (P : Pos1 gv) (hn : 0 < n) (hT : ∀ j, j < n → IsT m gv j (T j)) {c : List Rd} (hc : Of gv c) (e : gsum c = n) : ∃ v, CandT T gv n v ∧ bt m v (tsum c) := by
  cases c with
  | nil => exact absurd e (by show ¬ (0 = n); omega)
  | cons w c =>
    have hw := hc w List.mem_cons_self
    have hc' : Of gv c := fun u hu => hc u (List.mem_cons_of_mem _ hu)
    have e' : w.1.length + gsum c = n := e
    have l1 := P w hw
    have h := hT (n - w.1.length) (by omega)
    cases ht : T (n - w.1.length) with
    | none => rw [ht] at h; exact absurd (show gsum c = n - w.1.length by omega) (h c hc')
    | some u =>
      rw [ht] at h
      refine ⟨u + w.2, ⟨w, hw, u, by omega, ht, rfl⟩, ?_⟩
      have := bt_add (h.2 c hc' (by omega)) (bt_refl m w.2)
      rw [Int.add_comm (tsum c)] at this
      exact this
theorem IsT.none_ (P : Pos1 gv) (hn : 0 < n) (hT : ∀ j, j < n → IsT m gv j (T j)) (h : ∀ v, ¬ CandT T gv n v) : IsT m gv n none := fun c hc e => by
  obtain ⟨v, a, _⟩ := candT_of P hn hT hc e
  exact h v a
theorem IsT.some_ {v : Int} (P : Pos1 gv) (hn : 0 < n) (hT : ∀ j, j < n → IsT m gv j (T j)) (h : CandT T gv n v) (hb : ∀ u, CandT T gv n u → bt m v u) : IsT m gv n (some v) := by
  refine ⟨?_, fun c hc e => ?_⟩
  · obtain ⟨w, hw, u, l, ht, rfl⟩ := h
    have l1 := P w hw
    have := hT (n - w.1.length) (by omega)
    rw [ht] at this
    obtain ⟨⟨c, c1, c2, rfl⟩, _⟩ := this
    exact ⟨w :: c, .cons hw c1, by show w.1.length + gsum c = n; omega, by show w.2 + tsum c = _; omega⟩
  · obtain ⟨u, a, b⟩ := candT_of P hn hT hc e
    exact bt_trans (hb u a) b
theorem IsV.of {v : Int} (hT : ∀ j, j < n → IsT m gv j (T j)) (h : CandV T gv tk n v) (hb : ∀ u, CandV T gv tk n u → bt m v u) : IsV m gv tk n v := by
  refine ⟨?_, fun c w k hc hw hk e => ?_⟩
  · obtain ⟨w, hw, k, u, l, l2, ht, rfl⟩ := h
    have := hT (n - k - 1) (by omega)
    rw [ht] at this
    obtain ⟨⟨c, c1, c2, rfl⟩, _⟩ := this
    exact ⟨c, w, k, c1, hw, l, by omega, rfl⟩
  · have h := hT (n - k - 1) (by omega)
    cases ht : T (n - k - 1) with
    | none => rw [ht] at h; exact absurd (show gsum c = n - k - 1 by omega) (h c hc)
    | some u =>
      rw [ht] at h
      refine bt_trans (hb _ ⟨w, hw, k, u, hk, by omega, ht, rfl⟩) ?_
      exact bt_add (bt_add (bt_refl _ _) (h.2 c hc (by omega))) (bt_refl _ _)
end
theorem best_list (m : Bool) : ∀ l : List Int, l ≠ [] → ∃ v ∈ l, ∀ u ∈ l, bt m v u
  | [], h => absurd rfl h
  | [x], _ => ⟨x, List.mem_cons_self, fun u hu => by rw [List.mem_singleton.mp hu]; exact bt_refl _ _⟩
  | x :: y :: l, _ => by
    obtain ⟨v, hv, hb⟩ := best_list m (y :: l) (List.cons_ne_nil _ _)
    rcases bt_total m x v with h | h
    · exact ⟨x, List.mem_cons_self, fun u hu => (List.mem_cons.mp hu).elim (fun e => e ▸ bt_refl _ _) fun hu => bt_trans h (hb u hu)⟩
    · exact ⟨v, List.mem_cons_of_mem _ hv, fun u hu => (List.mem_cons.mp hu).elim (fun e => e ▸ h) (hb u)⟩
theorem best_ex {m : Bool} {S : Int → Prop} (l : List Int) (hl : ∀ v, S v ↔ v ∈ l) : (∀ v, ¬ S v) ∨ ∃ v, S v ∧ ∀ u, S u → bt m v u := by
  by_cases c : l = []
  · exact .inl fun v h => by have := (hl v).mp h; rw [c] at this; exact absurd this List.not_mem_nil
  · obtain ⟨v, a, b⟩ := best_list m l c
    exact .inr ⟨v, (hl v).mpr a, fun u hu => b u ((hl u).mp hu)⟩
theorem exT {m : Bool} {gv : List Rd} (P : Pos1 gv) (n : Nat) : ∃ o, IsT m gv n o := by
  induction n using Nat.strongRecOn with
  | ind n ih =>
    rcases Nat.eq_zero_or_pos n with rfl | hn
    · exact ⟨_, .zero P⟩
    · have : ∀ j, ∃ o, j < n → IsT m gv j o := fun j => by
        by_cases h : j < n
        · obtain ⟨o, ho⟩ := ih j h; exact ⟨o, fun _ => ho⟩
        · exact ⟨none, fun h' => absurd h' h⟩
      obtain ⟨T, hT⟩ := Classical.axiomOfChoice this
      rcases best_ex (m := m) (S := CandT T gv n) (gv.filterMap fun w => if w.1.length ≤ n then (T (n - w.1.length)).map (· + w.2) else none) (fun v => by
        rw [List.mem_filterMap]
        constructor
        · rintro ⟨w, hw, u, a, b, rfl⟩
          exact ⟨w, hw, by rw [if_pos a, b]; rfl⟩
        · rintro ⟨w, hw, e⟩
          split at e
          · rename_i a
            cases ht : T (n - w.1.length) with
            | none => rw [ht] at e; cases e
            | some u => rw [ht] at e; cases e; exact ⟨w, hw, u, a, ht, rfl⟩
          · cases e) with h | ⟨v, h1, h2⟩
      · exact ⟨none, .none_ P hn hT h⟩
      · exact ⟨some v, .some_ P hn hT h1 h2⟩
theorem exV {m : Bool} {gv : List Rd} {tk : Int} {n : Nat} (P : Pos1 gv) (hg : gv ≠ []) (hn : 1 ≤ n) : ∃ v, IsV m gv tk n v := by
  obtain ⟨T, hT⟩ := Classical.axiomOfChoice fun j => exT (m := m) P j
  rcases best_ex (m := m) (S := CandV T gv tk n) (gv.flatMap fun w => (List.range w.1.length).filterMap fun k => if k < n then (T (n - k - 1)).map (fun u => tk + u + gI w.1 k) else none) (fun v => by
    rw [List.mem_flatMap]
    constructor
    · rintro ⟨w, hw, k, u, a, b, c, rfl⟩
      exact ⟨w, hw, List.mem_filterMap.mpr ⟨k, List.mem_range.mpr a, by rw [if_pos b, c]; rfl⟩⟩
    · rintro ⟨w, hw, h⟩
      obtain ⟨k, hk, e⟩ := List.mem_filterMap.mp h
      split at e
      · rename_i b
        cases ht : T (n - k - 1) with
        | none => rw [ht] at e; cases e
        | some u => rw [ht] at e; cases e; exact ⟨w, hw, k, u, List.mem_range.mp hk, b, ht, rfl⟩
      · cases e) with h | ⟨v, h1, h2⟩
  · exfalso
    obtain ⟨w, hw⟩ := List.exists_mem_of_ne_nil gv hg
    have l1 := P w hw
    have dm := Nat.div_add_mod (n - 1) w.1.length
    have ml := Nat.mod_lt (n - 1) l1
    have q := hT ((n - 1) / w.1.length * w.1.length)
    cases ht : T ((n - 1) / w.1.length * w.1.length) with
    | none =>
      rw [ht] at q
      exact q (List.replicate ((n - 1) / w.1.length) w) (fun u hu => by rw [List.eq_of_mem_replicate hu]; exact hw) (gsum_rep _ _)
    | some u =>
      rw [Nat.mul_comm] at dm
      refine h _ ⟨w, hw, (n - 1) % w.1.length, u, ml, by omega, ?_, rfl⟩
      rw [show n - (n - 1) % w.1.length - 1 = (n - 1) / w.1.length * w.1.length by omega]
      exact ht
  · exact ⟨v, .of (fun j _ => hT j) h1 h2⟩
/-- the value at n + many is the one at n and rise -/
theorem IsV.per {m : Bool} {gv : List Rd} {tk : Int} {n L : Nat} {b : Rd} {v : Int} (B : Bst m gv b) (P : Pos1 gv) (hL : ∀ w ∈ gv, w.1.length ≤ L) (hn : b.1.length * L < n + b.1.length) (h : IsV m gv tk n v) : IsV m gv tk (n + b.1.length) (v + b.2) := by
  obtain ⟨⟨c, w, k, h1, h2, h3, h4, rfl⟩, h5⟩ := h
  refine ⟨⟨b :: c, w, k, .cons B.mem h1, h2, h3, by show b.1.length + gsum c + k + 1 = _; omega, by show _ = tk + (b.2 + tsum c) + _; omega⟩, fun c' w' k' g1 g2 g3 g4 => ?_⟩
  have l2 := hL w' g2
  have m0 := P b B.mem
  have hs : (b.1.length - 1) * L < gsum c' := by
    have : b.1.length * L = (b.1.length - 1) * L + L := by
      obtain ⟨a, ha⟩ : ∃ a, b.1.length = a + 1 := ⟨b.1.length - 1, by omega⟩
      rw [ha, Nat.succ_mul]
      rfl
    omega
  obtain ⟨d, d1, d2, d3⟩ := shift B P hL g1 hs
  have := bt_add (h5 d w' k' d1 g2 g3 (by omega)) (bt_refl m b.2)
  refine bt_trans this ?_
  rw [show tk + tsum d + gI w'.1 (k' : Nat) + b.2 = tk + (tsum d + b.2) + gI w'.1 (k' : Nat) by omega]
  exact bt_add (bt_add (bt_refl _ _) d3) (bt_refl _ _)
/-- rounds as counted -/
def RdsOk (gv : List Rd) : Prop := ∀ w ∈ gv, ∃ k, Stn k w
theorem tsum_nn {gv : List Rd} (R : RdsOk gv) : ∀ {c : List Rd}, Of gv c → 0 ≤ tsum c
  | [], _ => Int.le_refl _
  | w :: c, h => by
    obtain ⟨k, s⟩ := R w (h w List.mem_cons_self)
    have a := s.c0
    have b := tsum_nn R (c := c) fun u hu => h u (List.mem_cons_of_mem _ hu)
    show 0 ≤ w.2 + tsum c
    omega
theorem stn_at {k : Nat} {w : Rd} (s : Stn k w) {j : Nat} (h : j < w.1.length) : 0 ≤ gI w.1 j ∧ gI w.1 j ≤ w.2 := s.lo _ (gI_memR (by omega) (by omega))
theorem IsV.lo {m : Bool} {gv : List Rd} {tk : Int} {n : Nat} {v : Int} (R : RdsOk gv) (h : IsV m gv tk n v) : tk ≤ v := by
  obtain ⟨⟨c, w, k, h1, h2, h3, h4, rfl⟩, _⟩ := h
  have a := tsum_nn R h1
  obtain ⟨_, s⟩ := R w h2
  have := (stn_at s h3).1
  omega
theorem IsV.up {m : Bool} {gv : List Rd} {tk : Int} {n : Nat} {v v' : Int} (R : RdsOk gv) (P : Pos1 gv) (hn : 1 ≤ n) (h : IsV m gv tk n v) (h' : IsV m gv tk (n + 1) v') : v ≤ v' := by
  cases m with
  | false =>
    obtain ⟨⟨c, w, k, h1, h2, h3, h4, rfl⟩, _⟩ := h'
    obtain ⟨_, s⟩ := R w h2
    cases k with
    | succ k =>
      have a : v ≤ tk + tsum c + gI w.1 (k : Nat) := h.2 c w k h1 h2 (by omega) (by omega)
      have := s.ri k h3
      rw [Int.natCast_succ]
      omega
    | zero =>
      cases c with
      | nil => exact absurd h4 (by show ¬ (0 + 0 + 1 = n + 1); omega)
      | cons x c =>
        have hx := h1 x List.mem_cons_self
        have l1 := P x hx
        have h4' : x.1.length + gsum c + 0 + 1 = n + 1 := h4
        have a : v ≤ tk + tsum c + gI x.1 ((x.1.length - 1 : Nat) : Int) := h.2 c x (x.1.length - 1) (fun u hu => h1 u (List.mem_cons_of_mem _ hu)) hx (by omega) (by omega)
        obtain ⟨_, s2⟩ := R x hx
        have y := (stn_at s2 (j := x.1.length - 1) (by omega)).2
        have z := (stn_at s h3).1
        show v ≤ tk + (x.2 + tsum c) + gI w.1 ((0 : Nat) : Int)
        omega
  | true =>
    obtain ⟨⟨c, w, k, h1, h2, h3, h4, rfl⟩, _⟩ := h
    obtain ⟨_, s⟩ := R w h2
    by_cases e : k + 1 < w.1.length
    · have a : tk + tsum c + gI w.1 ((k + 1 : Nat) : Int) ≤ v' := h'.2 c w (k + 1) h1 h2 e (by omega)
      have := s.ri k e
      rw [Int.natCast_succ] at a
      omega
    · have a : tk + (w.2 + tsum c) + gI w.1 ((0 : Nat) : Int) ≤ v' := h'.2 (w :: c) w 0 (.cons h2 h1) h2 (by omega) (by show w.1.length + gsum c + 0 + 1 = _; omega)
      have y := (stn_at s h3).2
      have z := (stn_at s (j := 0) (by omega)).1
      omega
noncomputable def Vf (m : Bool) (gv : List Rd) (tk : Int) (n : Nat) : Int := open Classical in if h : ∃ v, IsV m gv tk n v then h.choose else 0
theorem Vf_ok {m : Bool} {gv : List Rd} {tk : Int} {n : Nat} (P : Pos1 gv) (hg : gv ≠ []) (hn : 1 ≤ n) : IsV m gv tk n (Vf m gv tk n) := by
  have h := exV (m := m) (tk := tk) P hg hn
  unfold Vf
  rw [dif_pos h]
  exact h.choose_spec
/-- the values of the needs: the beginning, then the best ones -/
noncomputable def exF (m : Bool) (bg : Rd) (gv : List Rd) (j : Nat) : Int := if j < bg.1.length then gI bg.1 j else Vf m gv bg.2 (j - bg.1.length + 1)
section
variable {m : Bool} {bg : Rd} {gv : List Rd}
theorem exF_lo {j : Nat} (h : j < bg.1.length) : exF m bg gv j = gI bg.1 j := if_pos h
theorem exF_hi {j : Nat} (h : bg.1.length ≤ j) : exF m bg gv j = Vf m gv bg.2 (j - bg.1.length + 1) := if_neg (by omega)
theorem exF_nn {kb : Nat} (S : Stn kb bg) (R : RdsOk gv) (P : Pos1 gv) (hg : gv ≠ []) (j : Nat) : 0 ≤ exF m bg gv j := by
  rcases Nat.lt_or_ge j bg.1.length with h | h
  · rw [exF_lo h]; exact (stn_at S h).1
  · rw [exF_hi h]
    have := (Vf_ok (m := m) (tk := bg.2) P hg (show 1 ≤ j - bg.1.length + 1 by omega)).lo R
    have := S.c0
    omega
theorem exF_up {kb : Nat} (S : Stn kb bg) (R : RdsOk gv) (P : Pos1 gv) (hg : gv ≠ []) (j : Nat) : exF m bg gv j ≤ exF m bg gv (j + 1) := by
  rcases Nat.lt_or_ge (j + 1) bg.1.length with h | h
  · rw [exF_lo h, exF_lo (by omega)]; exact S.ri j h
  · rw [exF_hi h]
    rcases Nat.lt_or_ge j bg.1.length with h2 | h2
    · rw [exF_lo h2]
      have a := (stn_at S h2).2
      have := (Vf_ok (m := m) (tk := bg.2) P hg (show 1 ≤ j + 1 - bg.1.length + 1 by omega)).lo R
      omega
    · rw [exF_hi h2, show j + 1 - bg.1.length + 1 = j - bg.1.length + 1 + 1 by omega]
      exact (Vf_ok P hg (by omega)).up R P (by omega) (Vf_ok P hg (by omega))
theorem exF_per {L : Nat} {b : Rd} (B : Bst m gv b) (P : Pos1 gv) (hL : ∀ w ∈ gv, w.1.length ≤ L) (hg : gv ≠ []) {j : Nat} (hj : bg.1.length + b.1.length * L ≤ j) : exF m bg gv (j + b.1.length) = exF m bg gv j + b.2 := by
  rw [exF_hi (by omega), exF_hi (by omega), show j + b.1.length - bg.1.length + 1 = j - bg.1.length + 1 + b.1.length by omega]
  exact (Vf_ok P hg (by omega)).uniq ((Vf_ok P hg (by omega)).per B P hL (by omega))
end
theorem rate_trans {m : Bool} {a b w : Rd} (hb : 0 < b.1.length) (x : bt m (w.2 * b.1.length) (b.2 * w.1.length)) (y : bt m (b.2 * a.1.length) (a.2 * b.1.length)) : bt m (w.2 * a.1.length) (a.2 * w.1.length) := by
  have x' := bt_mul (k := (a.1.length : Int)) (by omega) x
  have y' := bt_mul (k := (w.1.length : Int)) (by omega) y
  refine bt_cancel (k := (b.1.length : Int)) (by omega) ?_
  rw [show w.2 * (a.1.length : Int) * b.1.length = w.2 * b.1.length * a.1.length by rw [Int.mul_right_comm], show a.2 * (w.1.length : Int) * b.1.length = a.2 * b.1.length * w.1.length by rw [Int.mul_right_comm]]
  refine bt_trans x' ?_
  rw [show b.2 * (w.1.length : Int) * a.1.length = b.2 * a.1.length * w.1.length by rw [Int.mul_right_comm]]
  exact y'

end
section
/-! courses as rows of rounds -/
theorem leO_refl (a : Option Int) : leO a a = true := by
  cases a with
  | none => rfl
  | some v => exact decide_eq_true (Int.le_refl v)
def rowR (tk : Int) : List Rd → List Int
  | [] => []
  | w :: c => w.1.map (tk + ·) ++ rowR (tk + w.2) c
noncomputable def cRd (i : Int) (ws : List (List Dd)) (N : List Int) : List Rd := N.map fun n => tkn i (ws.getD n.toNat [])
theorem fl_cons (ws : List (List Dd)) (n : Int) (N : List Int) : fl ws (n :: N) = ws.getD n.toNat [] ++ fl ws N := by
  unfold fl
  rw [List.map_cons, List.flatten_cons]
theorem fl_app (ws : List (List Dd)) (a b : List Int) : fl ws (a ++ b) = fl ws a ++ fl ws b := by
  unfold fl
  rw [List.map_append, List.flatten_append]
theorem fl_rep (ws : List (List Dd)) (g : Nat) (ms : List Int) : fl ws (List.replicate g ms).flatten = (List.replicate g (fl ws ms)).flatten := by
  induction g with
  | zero => rfl
  | succ g ih => rw [List.replicate_succ, List.replicate_succ, List.flatten_cons, List.flatten_cons, fl_app, ih]
theorem run_app (a b : List Rd) : ∀ tk : Int, rowR tk (a ++ b) = rowR tk a ++ rowR (tk + tsum a) b := by
  induction a with
  | nil => intro tk; show rowR tk b = rowR (tk + 0) b; rw [Int.add_zero]
  | cons w a ih =>
    intro tk
    show w.1.map (tk + ·) ++ rowR (tk + w.2) (a ++ b) = (w.1.map (tk + ·) ++ rowR (tk + w.2) a) ++ rowR (tk + (w.2 + tsum a)) b
    rw [ih, List.append_assoc, Int.add_assoc]
theorem tkn_run (i : Int) (ws : List (List Dd)) : ∀ (N : List Int) (bs : List Dd), (tkn i (bs ++ fl ws N)).1 = (tkn i bs).1 ++ rowR (tkn i bs).2 (cRd i ws N)
  | [], bs => by
    show (tkn i (bs ++ [])).1 = (tkn i bs).1 ++ []
    rw [List.append_nil, List.append_nil]
  | n :: N, bs => by
    rw [fl_cons, ← List.append_assoc, tkn_run i ws N, tkn_app]
    show (tkn i bs).1 ++ _ ++ _ = (tkn i bs).1 ++ (_ ++ _)
    rw [List.append_assoc]
    rfl
theorem run_get : ∀ {C : List Rd} {tk : Int} {j : Nat} {v : Int}, (rowR tk C)[j]? = some v → ∃ pre w post, ∃ k : Nat, C = pre ++ w :: post ∧ k < w.1.length ∧ j = gsum pre + k ∧ v = tk + tsum pre + gI w.1 k
  | [], tk, j, v, h => by cases h
  | w :: C, tk, j, v, h => by
    have h : (w.1.map (tk + ·) ++ rowR (tk + w.2) C)[j]? = some v := h
    by_cases c : j < w.1.length
    · rw [List.getElem?_append_left (by rw [List.length_map]; exact c), List.getElem?_map, gI_get c] at h
      refine ⟨[], w, C, j, rfl, c, by show j = 0 + j; omega, ?_⟩
      have h : tk + gI w.1 j = v := Option.some.inj h
      show v = tk + 0 + _
      omega
    · rw [List.getElem?_append_right (by rw [List.length_map]; omega), List.length_map] at h
      obtain ⟨pre, x, post, k, rfl, hk, e1, e2⟩ := run_get h
      refine ⟨w :: pre, x, post, k, rfl, hk, by show j = w.1.length + gsum pre + k; omega, ?_⟩
      show v = tk + (w.2 + tsum pre) + _
      omega
theorem run_at {w : Rd} {k : Nat} (hk : k < w.1.length) (post : List Rd) : ∀ (pre : List Rd) (tk : Int), (rowR tk (pre ++ w :: post))[gsum pre + k]? = some (tk + tsum pre + gI w.1 k)
  | [], tk => by
    show (w.1.map (tk + ·) ++ rowR (tk + w.2) post)[0 + k]? = some (tk + 0 + _)
    rw [Nat.zero_add, Int.add_zero, List.getElem?_append_left (by rw [List.length_map]; exact hk), List.getElem?_map, gI_get hk]
    rfl
  | x :: pre, tk => by
    show (x.1.map (tk + ·) ++ rowR (tk + x.2) (pre ++ w :: post))[x.1.length + gsum pre + k]? = some (tk + (x.2 + tsum pre) + _)
    rw [List.getElem?_append_right (by rw [List.length_map]; omega), List.length_map, show x.1.length + gsum pre + k - x.1.length = gsum pre + k by omega, run_at hk post pre]
    congr 1
    omega
theorem run_len : ∀ (C : List Rd) (tk : Int), (rowR tk C).length = gsum C
  | [], _ => rfl
  | w :: C, tk => by
    show (w.1.map (tk + ·) ++ rowR (tk + w.2) C).length = w.1.length + gsum C
    rw [List.length_append, List.length_map, run_len C]
/-- the needs on a course -/
noncomputable def crsV (i : Int) (bs : List Dd) (ws : List (List Dd)) (ns ms : List Int) : Nat → Option Int := TV (tkn i (bs ++ fl ws ns)).1 (tbL (tkn i (bs ++ fl ws ns)) (tkn i (fl ws ms))) (tbR (tkn i (fl ws ms)))
theorem crs_at {i : Int} {bs : List Dd} {ws : List (List Dd)} {ns ms : List Int} {g j : Nat} (hj : j < g) : crsV i bs ws ns ms j = ((tkn i bs).1 ++ rowR (tkn i bs).2 (cRd i ws (ns ++ (List.replicate g ms).flatten)))[j]? := by
  unfold crsV
  rw [walk_TV hj, ← tkn_run, List.append_assoc, fl_app, fl_rep]
theorem crs_lo {i : Int} {bs : List Dd} {ws : List (List Dd)} {ns ms : List Int} {j : Nat} (hj : j < (tkn i bs).1.length) : crsV i bs ws ns ms j = (tkn i bs).1[j]? := by
  rw [crs_at (Nat.lt_succ_self j), List.getElem?_append_left hj]
theorem crs_hi {i : Int} {bs : List Dd} {ws : List (List Dd)} {ns ms : List Int} {g j : Nat} (hj : (tkn i bs).1.length + j < g) : crsV i bs ws ns ms ((tkn i bs).1.length + j) = (rowR (tkn i bs).2 (cRd i ws (ns ++ (List.replicate g ms).flatten)))[j]? := by
  rw [crs_at hj, List.getElem?_append_right (by omega), Nat.add_sub_cancel_left]
theorem crs_pl {i : Int} {bs : List Dd} {ws : List (List Dd)} {ns ms : List Int} (zd : (bs ++ fl ws ns).length ≤ 40000) (za : (fl ws ms).length ≤ 40000) : Pl (crsV i bs ws ns ms) (ndP i bs ws ns ms).1 (ndP i bs ws ns ms).2.1 (ndP i bs ws ns ms).2.2 :=
  Pl.of (tb_val (tkn_ok i (bs ++ fl ws ns)) (tkn_ok i (fl ws ms)) zd za)
theorem cRd_mem {i : Int} {ws : List (List Dd)} {N : List Int} (h : okN ws N) : ∀ w ∈ cRd i ws N, ∃ x ∈ ws, w = tkn i x := fun w hw => by
  obtain ⟨n, hn, rfl⟩ := List.mem_map.mp hw
  obtain ⟨h0, h1⟩ := h n hn
  have hl : n.toNat < ws.length := by omega
  refine ⟨ws[n.toNat], List.getElem_mem hl, ?_⟩
  rw [List.getD_eq_getElem?_getD, List.getElem?_eq_getElem hl]
  rfl
theorem okN_app {ws : List (List Dd)} {a b : List Int} (x : okN ws a) (y : okN ws b) : okN ws (a ++ b) := fun n hn => (List.mem_append.mp hn).elim (x n) (y n)
theorem okN_rep {ws : List (List Dd)} {ms : List Int} (h : okN ws ms) (g : Nat) : okN ws (List.replicate g ms).flatten := fun n hn => by
  obtain ⟨l, hl, hm⟩ := List.mem_flatten.mp hn
  rw [List.eq_of_mem_replicate hl] at hm
  exact h n hm
/-- with one way there is one course -/
theorem crs_one {i : Int} {bs : List Dd} {ws : List (List Dd)} {ns ms : List Int} (one : ws.length = 1) (hn : okN ws ns) (hm : okN ws ms) (h0 : ms ≠ []) : crsV i bs ws ns ms = crsV i bs ws [] [0] := by
  funext j
  have z : ∀ N : List Int, okN ws N → N = List.replicate N.length 0 := fun N h => by
    rw [List.eq_replicate_iff]
    exact ⟨rfl, fun n hn => by have := h n hn; rw [one] at this; omega⟩
  have l1 : 1 ≤ ms.length := List.length_pos_iff.mpr h0
  have o1 : okN ws (ns ++ (List.replicate (j + 1) ms).flatten) := okN_app hn (okN_rep hm _)
  have hl : j < (ns ++ (List.replicate (j + 1) ms).flatten).length := by
    rw [List.length_append, List.length_flatten, List.map_replicate, List.sum_replicate_nat]
    have := Nat.le_mul_of_pos_right (j + 1) l1
    omega
  rw [crs_at (Nat.lt_succ_self j), crs_at hl]
  have o2 : okN ws ([] ++ (List.replicate (ns ++ (List.replicate (j + 1) ms).flatten).length [(0 : Int)]).flatten) := by
    refine okN_app (fun n hn => absurd hn List.not_mem_nil) (okN_rep (fun n hn => ?_) _)
    rw [List.mem_singleton.mp hn, one]
    exact ⟨by decide, by decide⟩
  have e : ns ++ (List.replicate (j + 1) ms).flatten = [] ++ (List.replicate (ns ++ (List.replicate (j + 1) ms).flatten).length [(0 : Int)]).flatten := by
    have a := z _ o1
    have b := z _ o2
    rw [List.nil_append, List.length_flatten, List.map_replicate, List.sum_replicate_nat, List.length_singleton, Nat.mul_one] at b
    rw [List.nil_append, b]
    exact a
  rw [← e]
def gives (w : Rd) : Bool := !w.1.isEmpty
theorem gives_iff {w : Rd} : gives w = true ↔ w.1 ≠ [] := by
  unfold gives
  cases w.1 with
  | nil => exact ⟨fun h => (by cases h), fun h => absurd rfl h⟩
  | cons a l => exact ⟨fun _ => List.cons_ne_nil _ _, fun _ => rfl⟩
/-- the rounds of the ways that give -/
noncomputable def gvs (i : Int) (ws : List (List Dd)) : List Rd := (ws.map (tkn i)).filter gives
theorem gvs_mem {i : Int} {ws : List (List Dd)} {w : Rd} : w ∈ gvs i ws ↔ (∃ x ∈ ws, w = tkn i x) ∧ w.1 ≠ [] := by
  unfold gvs
  rw [List.mem_filter, List.mem_map, gives_iff]
  exact ⟨fun ⟨⟨x, a, b⟩, c⟩ => ⟨⟨x, a, b.symm⟩, c⟩, fun ⟨⟨x, a, b⟩, c⟩ => ⟨⟨x, a, b.symm⟩, c⟩⟩
theorem gvs_pos (i : Int) (ws : List (List Dd)) : Pos1 (gvs i ws) := fun w hw => List.length_pos_iff.mpr (gvs_mem.mp hw).2
theorem gvs_ok (i : Int) (ws : List (List Dd)) : RdsOk (gvs i ws) := fun w hw => by
  obtain ⟨⟨x, _, rfl⟩, _⟩ := gvs_mem.mp hw
  exact ⟨_, tkn_ok i x⟩
theorem gsum_gives (C : List Rd) : gsum (C.filter gives) = gsum C := by
  induction C with
  | nil => rfl
  | cons w C ih =>
    by_cases h : gives w = true
    · rw [List.filter_cons_of_pos h]; show w.1.length + _ = w.1.length + _; rw [ih]
    · rw [List.filter_cons_of_neg h, ih]
      have : w.1 = [] := Classical.byContradiction fun c => h (gives_iff.mpr c)
      show _ = w.1.length + _
      rw [this]
      exact (Nat.zero_add _).symm
theorem tsum_gives {C : List Rd} (h : ∀ w ∈ C, 0 ≤ w.2) : tsum (C.filter gives) ≤ tsum C := by
  induction C with
  | nil => exact Int.le_refl _
  | cons w C ih =>
    have a := h w List.mem_cons_self
    have b := ih fun u hu => h u (List.mem_cons_of_mem _ hu)
    by_cases h : gives w = true
    · rw [List.filter_cons_of_pos h]; show w.2 + _ ≤ w.2 + _; omega
    · rw [List.filter_cons_of_neg h]; show _ ≤ w.2 + _; omega
theorem gives_of {i : Int} {ws : List (List Dd)} {N : List Int} (h : okN ws N) {C : List Rd} (s : ∀ w ∈ C, w ∈ cRd i ws N) : Of (gvs i ws) (C.filter gives) := fun w hw => by
  obtain ⟨a, b⟩ := List.mem_filter.mp hw
  exact gvs_mem.mpr ⟨cRd_mem h w (s w a), gives_iff.mp b⟩
/-- some way gives nothing -/
def stopsP (i : Int) (ws : List (List Dd)) : Prop := ∃ w ∈ ws, (tkn i w).1 = []
open Classical in
/-- the best needs on all courses -/
noncomputable def xtV (m : Bool) (i : Int) (bs : List Dd) (ws : List (List Dd)) : Nat → Option Int :=
  if ws.length = 1 then crsV i bs ws [] [0] else
  if gvs i ws = [] ∨ (m = true ∧ stopsP i ws) then (fun j => (tkn i bs).1[j]?) else fun j => some (exF m (tkn i bs) (gvs i ws) j)
section
variable {i : Int} {bs : List Dd} {ws : List (List Dd)} {ns ms : List Int} {j : Nat}
theorem xtV_one {m : Bool} (h : ws.length = 1) : xtV m i bs ws = crsV i bs ws [] [0] := if_pos h
theorem xtV_end {m : Bool} (h : ws.length ≠ 1) (c : gvs i ws = [] ∨ (m = true ∧ stopsP i ws)) : xtV m i bs ws = fun j => (tkn i bs).1[j]? := by
  unfold xtV
  rw [if_neg h, if_pos c]
theorem xtV_on {m : Bool} (h : ws.length ≠ 1) (c : ¬ (gvs i ws = [] ∨ (m = true ∧ stopsP i ws))) : xtV m i bs ws = fun j => some (exF m (tkn i bs) (gvs i ws) j) := by
  unfold xtV
  rw [if_neg h, if_neg c]
theorem crs_nogive (g0 : gvs i ws = []) (hn : okN ws ns) (hm : okN ws ms) : crsV i bs ws ns ms = fun j => (tkn i bs).1[j]? := by
  funext j
  rw [crs_at (Nat.lt_succ_self j)]
  have o : okN ws (ns ++ (List.replicate (j + 1) ms).flatten) := okN_app hn (okN_rep hm _)
  have : gsum (cRd i ws (ns ++ (List.replicate (j + 1) ms).flatten)) = 0 := by
    rw [← gsum_gives]
    have h := gives_of (i := i) o (C := cRd i ws (ns ++ (List.replicate (j + 1) ms).flatten)) fun w h => h
    rw [g0] at h
    rw [List.eq_nil_iff_forall_not_mem.mpr fun w hw => List.not_mem_nil (h w hw)]
    rfl
  rw [List.eq_nil_of_length_eq_zero ((run_len _ _).trans this), List.append_nil]
/-- no course needs less than the least -/
theorem least_le (hn : okN ws ns) (hm : okN ws ms) (h0 : ms ≠ []) : leO (xtV false i bs ws j) (crsV i bs ws ns ms j) = true := by
  by_cases one : ws.length = 1
  · rw [xtV_one one, crs_one one hn hm h0]; exact leO_refl _
  · by_cases g0 : gvs i ws = []
    · rw [xtV_end one (.inl g0), crs_nogive g0 hn hm]; exact leO_refl _
    · rw [xtV_on one (fun c => c.elim g0 fun c => by cases c.1)]
      cases hv : crsV i bs ws ns ms j with
      | none => rfl
      | some v =>
        refine decide_eq_true ?_
        rcases Nat.lt_or_ge j (tkn i bs).1.length with c | c
        · rw [crs_lo c, gI_get c] at hv
          rw [exF_lo c]
          exact Int.le_of_eq (Option.some.inj hv)
        · obtain ⟨d, rfl⟩ : ∃ d, j = (tkn i bs).1.length + d := ⟨j - (tkn i bs).1.length, by omega⟩
          rw [crs_hi (Nat.lt_succ_self _)] at hv
          have o : okN ws (ns ++ (List.replicate ((tkn i bs).1.length + d + 1) ms).flatten) := okN_app hn (okN_rep hm _)
          obtain ⟨pre, w, post, k, e, hk, rfl, rfl⟩ := run_get hv
          rw [exF_hi c]
          have hw : w ∈ cRd i ws (ns ++ (List.replicate ((tkn i bs).1.length + (gsum pre + k) + 1) ms).flatten) := by rw [e]; exact List.mem_append_right _ List.mem_cons_self
          have hp : ∀ u ∈ pre, u ∈ cRd i ws (ns ++ (List.replicate ((tkn i bs).1.length + (gsum pre + k) + 1) ms).flatten) := fun u hu => by rw [e]; exact List.mem_append_left _ hu
          have V := Vf_ok (m := false) (tk := (tkn i bs).2) (gvs_pos i ws) g0 (show 1 ≤ (tkn i bs).1.length + (gsum pre + k) - (tkn i bs).1.length + 1 by omega)
          have b := V.2 (pre.filter gives) w k (gives_of o hp) (gvs_mem.mpr ⟨cRd_mem o w hw, List.length_pos_iff.mp (by omega)⟩) hk (by rw [gsum_gives]; omega)
          have t : tsum (pre.filter gives) ≤ tsum pre := tsum_gives fun u hu => by
            obtain ⟨x, _, rfl⟩ := cRd_mem o u (hp u hu)
            exact (tkn_ok i x).c0
          have b' : Vf false (gvs i ws) (tkn i bs).2 ((tkn i bs).1.length + (gsum pre + k) - (tkn i bs).1.length + 1) ≤ (tkn i bs).2 + tsum (pre.filter gives) + gI w.1 k := b
          omega
theorem all_gives (ns0 : ¬ stopsP i ws) {N : List Int} (h : okN ws N) : ∀ w ∈ cRd i ws N, w ∈ gvs i ws := fun w hw => by
  obtain ⟨x, hx, rfl⟩ := cRd_mem h w hw
  exact gvs_mem.mpr ⟨⟨x, hx, rfl⟩, fun e => ns0 ⟨x, hx, e⟩⟩
/-- no course needs more than the greatest -/
theorem great_le (hn : okN ws ns) (hm : okN ws ms) (h0 : ms ≠ []) : leO (crsV i bs ws ns ms j) (xtV true i bs ws j) = true := by
  by_cases one : ws.length = 1
  · rw [xtV_one one, crs_one one hn hm h0]; exact leO_refl _
  · by_cases g0 : gvs i ws = [] ∨ (true = true ∧ stopsP i ws)
    · rw [xtV_end one g0]
      dsimp only
      rcases Nat.lt_or_ge j (tkn i bs).1.length with c | c
      · rw [crs_lo c]; exact leO_refl _
      · rw [List.getElem?_eq_none c]
        cases crsV i bs ws ns ms j <;> rfl
    · have st : ¬ stopsP i ws := fun s => g0 (.inr ⟨rfl, s⟩)
      have gn : gvs i ws ≠ [] := fun s => g0 (.inl s)
      rw [xtV_on one g0]
      dsimp only
      rcases Nat.lt_or_ge j (tkn i bs).1.length with c | c
      · rw [crs_lo c, gI_get c, exF_lo c]; exact leO_refl _
      · obtain ⟨d, rfl⟩ : ∃ d, j = (tkn i bs).1.length + d := ⟨j - (tkn i bs).1.length, by omega⟩
        have o : okN ws (ns ++ (List.replicate ((tkn i bs).1.length + d + 1) ms).flatten) := okN_app hn (okN_rep hm _)
        have hl : d < (rowR (tkn i bs).2 (cRd i ws (ns ++ (List.replicate ((tkn i bs).1.length + d + 1) ms).flatten))).length := by
          rw [run_len]
          refine Nat.lt_of_lt_of_le ?_ (glen (gvs_pos i ws) (all_gives st o))
          unfold cRd
          have l1 : 1 ≤ ms.length := List.length_pos_iff.mpr h0
          rw [List.length_map, List.length_append, List.length_flatten, List.map_replicate, List.sum_replicate_nat]
          have := Nat.le_mul_of_pos_right ((tkn i bs).1.length + d + 1) l1
          omega
        rw [crs_hi (Nat.lt_succ_self _), List.getElem?_eq_getElem hl]
        obtain ⟨pre, w, post, k, e, hk, rfl, ev⟩ := run_get (List.getElem?_eq_getElem hl)
        rw [ev, exF_hi c]
        have hw : w ∈ cRd i ws (ns ++ (List.replicate ((tkn i bs).1.length + (gsum pre + k) + 1) ms).flatten) := by rw [e]; exact List.mem_append_right _ List.mem_cons_self
        have hp : ∀ u ∈ pre, u ∈ cRd i ws (ns ++ (List.replicate ((tkn i bs).1.length + (gsum pre + k) + 1) ms).flatten) := fun u hu => by rw [e]; exact List.mem_append_left _ hu
        have V := Vf_ok (m := true) (tk := (tkn i bs).2) (gvs_pos i ws) gn (show 1 ≤ (tkn i bs).1.length + (gsum pre + k) - (tkn i bs).1.length + 1 by omega)
        exact decide_eq_true (V.2 pre w k (fun u hu => all_gives st o u (hp u hu)) (all_gives st o w hw) hk (by omega))
/-- the need on a course behind whole rounds -/
theorem crs_val {n : Int} {k : Nat} (hk : k < (tkn i (ws.getD n.toNat [])).1.length) : crsV i bs ws ns [n] ((tkn i bs).1.length + (gsum (cRd i ws ns) + k)) = some ((tkn i bs).2 + tsum (cRd i ws ns) + gI (tkn i (ws.getD n.toNat [])).1 k) := by
  rw [crs_hi (Nat.lt_succ_self _), List.replicate_succ, List.flatten_cons]
  have e : cRd i ws (ns ++ ([n] ++ (List.replicate ((tkn i bs).1.length + (gsum (cRd i ws ns) + k)) [n]).flatten)) = cRd i ws ns ++ tkn i (ws.getD n.toNat []) :: cRd i ws (List.replicate ((tkn i bs).1.length + (gsum (cRd i ws ns) + k)) [n]).flatten := by
    unfold cRd
    rw [List.map_append]
    rfl
  rw [e, run_at hk]
theorem crs_stop {n : Int} (h : (tkn i (ws.getD n.toNat [])).1 = []) : crsV i bs ws [] [n] = fun j => (tkn i bs).1[j]? := by
  funext j
  rw [crs_at (Nat.lt_succ_self j)]
  have : ∀ g : Nat, rowR (tkn i bs).2 (cRd i ws ([] ++ (List.replicate g [n]).flatten)) = [] := fun g => by
    refine List.eq_nil_of_length_eq_zero ((run_len _ _).trans ?_)
    rw [List.nil_append]
    induction g with
    | zero => rfl
    | succ g ih =>
      rw [List.replicate_succ, List.flatten_cons]
      show (tkn i (ws.getD n.toNat [])).1.length + gsum (cRd i ws (List.replicate g [n]).flatten) = 0
      rw [ih, h]
      rfl
  rw [this, List.append_nil]
end

end
section
/-- a comprehension over a range, what is kept said by the caller -/
theorem lcG_range {H : Hp} {Q : VK} {n j : Nat} {te : TE} {vs : List Nat} {σ : L2.St} (R : Addr → Nat → List V → Hp → Prop) (hn : n ≤ 90000) (σ' : V → L2.St) (hσ : ∀ x, (wipe σ vs).set j (some x) = σ' x) (hw : ∀ x, wipe ((wipe σ vs).set j (some x)) vs = wipe σ vs)
    (h0 : ∀ D, H D = none → R D 0 [] (upd H D (.lst [])))
    (he : ∀ D i acc H' Q', H D = none → H' D = some (.lst acc) → acc.length = i → i < n → R D i acc H' → (∀ y H2, H2 D = some (.lst acc) → R D (i + 1) (acc ++ [y]) (upd H2 D (.lst (acc ++ [y]))) → Q' y H2) → te (σ' (.int (i : Int))) H' Q')
    (hq : ∀ D acc H', H D = none → R D n acc H' → H' D = some (.lst acc) → acc.length = n → Q (.ref D) H') : LcJ (Itr 0 n) (gName j) tYes te vs σ H Q := fun D hD =>
  lc_range (Pv := fun i H' => ∃ acc, H' D = some (.lst acc) ∧ acc.length = i ∧ R D i acc H') ⟨[], upd_same, rfl, h0 D hD⟩ (fun i H' hi p => ⟨hw _, by
    obtain ⟨acc, g, hz, r⟩ := p
    show te ((wipe σ vs).set j _) H' _
    rw [hσ, Int.zero_add]
    exact he D i acc H' _ hD g hz hi r fun y H2 g2 r2 => ⟨acc, g2, sz_lt (by omega), acc ++ [y], upd_same, by rw [List.length_append, hz]; rfl, r2⟩⟩) fun H' p => by
    obtain ⟨acc, g, hz, r⟩ := p
    exact hq D acc H' hD r g hz
theorem lcG_lst {K : PySem.W.Frag} {H : Hp} {Q : VK} {a : Addr} {xs : List V} {j : Nat} {te : TE} {vs : List Nat} {σ : L2.St} (R : Addr → Nat → List V → Hp → Prop) (hn : xs.length ≤ 90000) (σ' : V → L2.St) (hσ : ∀ x, (wipe σ vs).set j (some x) = σ' x) (hw : ∀ x, wipe ((wipe σ vs).set j (some x)) vs = wipe σ vs)
    (h0 : ∀ D, H D = none → R D 0 [] (upd H D (.lst []))) (hl : ∀ D i acc H', R D i acc H' → SqL K H' a xs)
    (he : ∀ D i x acc H' Q', H D = none → H' D = some (.lst acc) → acc.length = i → xs[i]? = some x → R D i acc H' → (∀ y H2, H2 D = some (.lst acc) → R D (i + 1) (acc ++ [y]) (upd H2 D (.lst (acc ++ [y]))) → Q' y H2) → te (σ' x) H' Q')
    (hq : ∀ D acc H', H D = none → R D xs.length acc H' → H' D = some (.lst acc) → acc.length = xs.length → Q (.ref D) H') : LcJ (Itl K a) (gName j) tYes te vs σ H Q := fun D hD =>
  lc_list (xs := xs) (Pv := fun i H' => ∃ acc, H' D = some (.lst acc) ∧ acc.length = i ∧ R D i acc H') ⟨[], upd_same, rfl, h0 D hD⟩ (fun i H' _ p => by obtain ⟨acc, _, _, r⟩ := p; exact hl D i acc H' r) (fun i x H' hi p => ⟨hw _, by
    obtain ⟨acc, g, hz, r⟩ := p
    show te ((wipe σ vs).set j _) H' _
    rw [hσ]
    have hlt := (List.getElem?_eq_some_iff.mp hi).1
    exact he D i x acc H' _ hD g hz hi r fun y H2 g2 r2 => ⟨acc, g2, sz_lt (by omega), acc ++ [y], upd_same, by rw [List.length_append, hz]; rfl, r2⟩⟩) fun H' p => by
    obtain ⟨acc, g, hz, r⟩ := p
    exact hq D acc H' hD r g hz
/-- the same with a test -/
theorem lcGF_lst {K : PySem.W.Frag} {H : Hp} {Q : VK} {a : Addr} {xs : List V} {j : Nat} {tt : TT} {te : TE} {vs : List Nat} {σ : L2.St} (R : Addr → Nat → List V → Hp → Prop) (hn : xs.length ≤ 90000) (σ' : V → L2.St) (hσ : ∀ x, (wipe σ vs).set j (some x) = σ' x) (hw : ∀ x, wipe ((wipe σ vs).set j (some x)) vs = wipe σ vs)
    (h0 : ∀ D, H D = none → R D 0 [] (upd H D (.lst []))) (hl : ∀ D i acc H', R D i acc H' → SqL K H' a xs)
    (he : ∀ D i x acc H' (QT : Bool → Hp → Prop), H D = none → H' D = some (.lst acc) → xs[i]? = some x → R D i acc H' → (∀ H3, H3 D = some (.lst acc) → R D (i + 1) acc H3 → QT false H3) →
      (∀ H3, (∀ Q' : VK, (∀ y H4, H4 D = some (.lst acc) → R D (i + 1) (acc ++ [y]) (upd H4 D (.lst (acc ++ [y]))) → Q' y H4) → te (σ' x) H3 Q') → QT true H3) → tt (σ' x) H' QT)
    (hq : ∀ D acc H', H D = none → R D xs.length acc H' → H' D = some (.lst acc) → Q (.ref D) H') : LcJ (Itl K a) (gName j) tt te vs σ H Q := fun D hD =>
  lc_list (xs := xs) (Pv := fun i H' => ∃ acc, H' D = some (.lst acc) ∧ acc.length ≤ i ∧ R D i acc H') ⟨[], upd_same, Nat.le_refl _, h0 D hD⟩ (fun i H' _ p => by obtain ⟨acc, _, _, r⟩ := p; exact hl D i acc H' r) (fun i x H' hi p => ⟨hw _, by
    obtain ⟨acc, g, hz, r⟩ := p
    show tt ((wipe σ vs).set j _) H' _
    rw [hσ]
    have hlt := (List.getElem?_eq_some_iff.mp hi).1
    refine he D i x acc H' _ hD g hi r (fun H3 g3 r3 => ?_) (fun H3 k => ?_)
    · rw [if_neg (by decide)]
      exact ⟨acc, g3, by omega, r3⟩
    · rw [if_pos rfl]
      exact k _ fun y H4 g4 r4 => ⟨acc, g4, sz_lt (by omega), acc ++ [y], upd_same, by rw [List.length_append, List.length_singleton]; omega, r4⟩⟩) fun H' p => by
    obtain ⟨acc, g, hz, r⟩ := p
    exact hq D acc H' hD r g

end
section
/-! the fields of Rounds -/
theorem rn_begun_most : (("begun" : Str) = "most") = False := eq_false (by decide +kernel)
theorem rn_taken_most : (("taken" : Str) = "most") = False := eq_false (by decide +kernel)
theorem rn_ways_most : (("ways" : Str) = "most") = False := eq_false (by decide +kernel)
theorem rn_stops_most : (("stops" : Str) = "most") = False := eq_false (by decide +kernel)
theorem rn_giving_most : (("giving" : Str) = "most") = False := eq_false (by decide +kernel)
theorem rn_totals_most : (("totals" : Str) = "most") = False := eq_false (by decide +kernel)
theorem rn_is_better_most : (("is_better" : Str) = "most") = False := eq_false (by decide +kernel)
theorem rn_fill_most : (("fill" : Str) = "most") = False := eq_false (by decide +kernel)
theorem rn_last_round_most : (("last_round" : Str) = "most") = False := eq_false (by decide +kernel)
theorem rn_rounds_to_most : (("rounds_to" : Str) = "most") = False := eq_false (by decide +kernel)
theorem rn_lasting_most : (("lasting" : Str) = "most") = False := eq_false (by decide +kernel)
theorem rn_most_begun : (("most" : Str) = "begun") = False := eq_false (by decide +kernel)
theorem rn_taken_begun : (("taken" : Str) = "begun") = False := eq_false (by decide +kernel)
theorem rn_ways_begun : (("ways" : Str) = "begun") = False := eq_false (by decide +kernel)
theorem rn_stops_begun : (("stops" : Str) = "begun") = False := eq_false (by decide +kernel)
theorem rn_giving_begun : (("giving" : Str) = "begun") = False := eq_false (by decide +kernel)
theorem rn_totals_begun : (("totals" : Str) = "begun") = False := eq_false (by decide +kernel)
theorem rn_is_better_begun : (("is_better" : Str) = "begun") = False := eq_false (by decide +kernel)
theorem rn_fill_begun : (("fill" : Str) = "begun") = False := eq_false (by decide +kernel)
theorem rn_last_round_begun : (("last_round" : Str) = "begun") = False := eq_false (by decide +kernel)
theorem rn_rounds_to_begun : (("rounds_to" : Str) = "begun") = False := eq_false (by decide +kernel)
theorem rn_lasting_begun : (("lasting" : Str) = "begun") = False := eq_false (by decide +kernel)
theorem rn_most_taken : (("most" : Str) = "taken") = False := eq_false (by decide +kernel)
theorem rn_begun_taken : (("begun" : Str) = "taken") = False := eq_false (by decide +kernel)
theorem rn_ways_taken : (("ways" : Str) = "taken") = False := eq_false (by decide +kernel)
theorem rn_stops_taken : (("stops" : Str) = "taken") = False := eq_false (by decide +kernel)
theorem rn_giving_taken : (("giving" : Str) = "taken") = False := eq_false (by decide +kernel)
theorem rn_totals_taken : (("totals" : Str) = "taken") = False := eq_false (by decide +kernel)
theorem rn_is_better_taken : (("is_better" : Str) = "taken") = False := eq_false (by decide +kernel)
theorem rn_fill_taken : (("fill" : Str) = "taken") = False := eq_false (by decide +kernel)
theorem rn_last_round_taken : (("last_round" : Str) = "taken") = False := eq_false (by decide +kernel)
theorem rn_rounds_to_taken : (("rounds_to" : Str) = "taken") = False := eq_false (by decide +kernel)
theorem rn_lasting_taken : (("lasting" : Str) = "taken") = False := eq_false (by decide +kernel)
theorem rn_most_ways : (("most" : Str) = "ways") = False := eq_false (by decide +kernel)
theorem rn_begun_ways : (("begun" : Str) = "ways") = False := eq_false (by decide +kernel)
theorem rn_taken_ways : (("taken" : Str) = "ways") = False := eq_false (by decide +kernel)
theorem rn_stops_ways : (("stops" : Str) = "ways") = False := eq_false (by decide +kernel)
theorem rn_giving_ways : (("giving" : Str) = "ways") = False := eq_false (by decide +kernel)
theorem rn_totals_ways : (("totals" : Str) = "ways") = False := eq_false (by decide +kernel)
theorem rn_is_better_ways : (("is_better" : Str) = "ways") = False := eq_false (by decide +kernel)
theorem rn_fill_ways : (("fill" : Str) = "ways") = False := eq_false (by decide +kernel)
theorem rn_last_round_ways : (("last_round" : Str) = "ways") = False := eq_false (by decide +kernel)
theorem rn_rounds_to_ways : (("rounds_to" : Str) = "ways") = False := eq_false (by decide +kernel)
theorem rn_lasting_ways : (("lasting" : Str) = "ways") = False := eq_false (by decide +kernel)
theorem rn_most_stops : (("most" : Str) = "stops") = False := eq_false (by decide +kernel)
theorem rn_begun_stops : (("begun" : Str) = "stops") = False := eq_false (by decide +kernel)
theorem rn_taken_stops : (("taken" : Str) = "stops") = False := eq_false (by decide +kernel)
theorem rn_ways_stops : (("ways" : Str) = "stops") = False := eq_false (by decide +kernel)
theorem rn_giving_stops : (("giving" : Str) = "stops") = False := eq_false (by decide +kernel)
theorem rn_totals_stops : (("totals" : Str) = "stops") = False := eq_false (by decide +kernel)
theorem rn_is_better_stops : (("is_better" : Str) = "stops") = False := eq_false (by decide +kernel)
theorem rn_fill_stops : (("fill" : Str) = "stops") = False := eq_false (by decide +kernel)
theorem rn_last_round_stops : (("last_round" : Str) = "stops") = False := eq_false (by decide +kernel)
theorem rn_rounds_to_stops : (("rounds_to" : Str) = "stops") = False := eq_false (by decide +kernel)
theorem rn_lasting_stops : (("lasting" : Str) = "stops") = False := eq_false (by decide +kernel)
theorem rn_most_giving : (("most" : Str) = "giving") = False := eq_false (by decide +kernel)
theorem rn_begun_giving : (("begun" : Str) = "giving") = False := eq_false (by decide +kernel)
theorem rn_taken_giving : (("taken" : Str) = "giving") = False := eq_false (by decide +kernel)
theorem rn_ways_giving : (("ways" : Str) = "giving") = False := eq_false (by decide +kernel)
theorem rn_stops_giving : (("stops" : Str) = "giving") = False := eq_false (by decide +kernel)
theorem rn_totals_giving : (("totals" : Str) = "giving") = False := eq_false (by decide +kernel)
theorem rn_is_better_giving : (("is_better" : Str) = "giving") = False := eq_false (by decide +kernel)
theorem rn_fill_giving : (("fill" : Str) = "giving") = False := eq_false (by decide +kernel)
theorem rn_last_round_giving : (("last_round" : Str) = "giving") = False := eq_false (by decide +kernel)
theorem rn_rounds_to_giving : (("rounds_to" : Str) = "giving") = False := eq_false (by decide +kernel)
theorem rn_lasting_giving : (("lasting" : Str) = "giving") = False := eq_false (by decide +kernel)
theorem rn_most_totals : (("most" : Str) = "totals") = False := eq_false (by decide +kernel)
theorem rn_begun_totals : (("begun" : Str) = "totals") = False := eq_false (by decide +kernel)
theorem rn_taken_totals : (("taken" : Str) = "totals") = False := eq_false (by decide +kernel)
theorem rn_ways_totals : (("ways" : Str) = "totals") = False := eq_false (by decide +kernel)
theorem rn_stops_totals : (("stops" : Str) = "totals") = False := eq_false (by decide +kernel)
theorem rn_giving_totals : (("giving" : Str) = "totals") = False := eq_false (by decide +kernel)
theorem rn_is_better_totals : (("is_better" : Str) = "totals") = False := eq_false (by decide +kernel)
theorem rn_fill_totals : (("fill" : Str) = "totals") = False := eq_false (by decide +kernel)
theorem rn_last_round_totals : (("last_round" : Str) = "totals") = False := eq_false (by decide +kernel)
theorem rn_rounds_to_totals : (("rounds_to" : Str) = "totals") = False := eq_false (by decide +kernel)
theorem rn_lasting_totals : (("lasting" : Str) = "totals") = False := eq_false (by decide +kernel)
local macro_rules | `(tactic| walk_at "rlk") => `(tactic| (simp only [lookup_putF, rn_begun_most, rn_taken_most, rn_ways_most, rn_stops_most, rn_giving_most, rn_totals_most, rn_is_better_most, rn_fill_most, rn_last_round_most, rn_rounds_to_most, rn_lasting_most, rn_most_begun, rn_taken_begun, rn_ways_begun, rn_stops_begun, rn_giving_begun, rn_totals_begun, rn_is_better_begun, rn_fill_begun, rn_last_round_begun, rn_rounds_to_begun, rn_lasting_begun, rn_most_taken, rn_begun_taken, rn_ways_taken, rn_stops_taken, rn_giving_taken, rn_totals_taken, rn_is_better_taken, rn_fill_taken, rn_last_round_taken, rn_rounds_to_taken, rn_lasting_taken, rn_most_ways, rn_begun_ways, rn_taken_ways, rn_stops_ways, rn_giving_ways, rn_totals_ways, rn_is_better_ways, rn_fill_ways, rn_last_round_ways, rn_rounds_to_ways, rn_lasting_ways, rn_most_stops, rn_begun_stops, rn_taken_stops, rn_ways_stops, rn_giving_stops, rn_totals_stops, rn_is_better_stops, rn_fill_stops, rn_last_round_stops, rn_rounds_to_stops, rn_lasting_stops, rn_most_giving, rn_begun_giving, rn_taken_giving, rn_ways_giving, rn_stops_giving, rn_totals_giving, rn_is_better_giving, rn_fill_giving, rn_last_round_giving, rn_rounds_to_giving, rn_lasting_giving, rn_most_totals, rn_begun_totals, rn_taken_totals, rn_ways_totals, rn_stops_totals, rn_giving_totals, rn_is_better_totals, rn_fill_totals, rn_last_round_totals, rn_rounds_to_totals, rn_lasting_totals, if_false, if_true, List.lookup_nil]))
def rF (m b t w s g c : V) : List (Str × V) := putF "totals" c (putF "giving" g (putF "stops" s (putF "ways" w (putF "taken" t (putF "begun" b (putF "most" m []))))))
section
variable {m b t w s g c : V}
theorem rF_most : (rF m b t w s g c).lookup ("most" : Str) = some m := by unfold rF; walk_at "rlk"
theorem rF_begun : (rF m b t w s g c).lookup ("begun" : Str) = some b := by unfold rF; walk_at "rlk"
theorem rF_taken : (rF m b t w s g c).lookup ("taken" : Str) = some t := by unfold rF; walk_at "rlk"
theorem rF_ways : (rF m b t w s g c).lookup ("ways" : Str) = some w := by unfold rF; walk_at "rlk"
theorem rF_stops : (rF m b t w s g c).lookup ("stops" : Str) = some s := by unfold rF; walk_at "rlk"
theorem rF_giving : (rF m b t w s g c).lookup ("giving" : Str) = some g := by unfold rF; walk_at "rlk"
theorem rF_totals : (rF m b t w s g c).lookup ("totals" : Str) = some c := by unfold rF; walk_at "rlk"
theorem rF_is_better : (rF m b t w s g c).lookup ("is_better" : Str) = none := by unfold rF; walk_at "rlk"
theorem rF_fill : (rF m b t w s g c).lookup ("fill" : Str) = none := by unfold rF; walk_at "rlk"
theorem rF_last_round : (rF m b t w s g c).lookup ("last_round" : Str) = none := by unfold rF; walk_at "rlk"
theorem rF_rounds_to : (rF m b t w s g c).lookup ("rounds_to" : Str) = none := by unfold rF; walk_at "rlk"
theorem rF_lasting : (rF m b t w s g c).lookup ("lasting" : Str) = none := by unfold rF; walk_at "rlk"
end

end
section
local macro_rules | `(tactic| walk_at "rlk") => `(tactic| (simp only [lookup_putF, rn_begun_most, rn_taken_most, rn_ways_most, rn_stops_most, rn_giving_most, rn_totals_most, rn_is_better_most, rn_fill_most, rn_last_round_most, rn_rounds_to_most, rn_lasting_most, rn_most_begun, rn_taken_begun, rn_ways_begun, rn_stops_begun, rn_giving_begun, rn_totals_begun, rn_is_better_begun, rn_fill_begun, rn_last_round_begun, rn_rounds_to_begun, rn_lasting_begun, rn_most_taken, rn_begun_taken, rn_ways_taken, rn_stops_taken, rn_giving_taken, rn_totals_taken, rn_is_better_taken, rn_fill_taken, rn_last_round_taken, rn_rounds_to_taken, rn_lasting_taken, rn_most_ways, rn_begun_ways, rn_taken_ways, rn_stops_ways, rn_giving_ways, rn_totals_ways, rn_is_better_ways, rn_fill_ways, rn_last_round_ways, rn_rounds_to_ways, rn_lasting_ways, rn_most_stops, rn_begun_stops, rn_taken_stops, rn_ways_stops, rn_giving_stops, rn_totals_stops, rn_is_better_stops, rn_fill_stops, rn_last_round_stops, rn_rounds_to_stops, rn_lasting_stops, rn_most_giving, rn_begun_giving, rn_taken_giving, rn_ways_giving, rn_stops_giving, rn_totals_giving, rn_is_better_giving, rn_fill_giving, rn_last_round_giving, rn_rounds_to_giving, rn_lasting_giving, rn_most_totals, rn_begun_totals, rn_taken_totals, rn_ways_totals, rn_stops_totals, rn_giving_totals, rn_is_better_totals, rn_fill_totals, rn_last_round_totals, rn_rounds_to_totals, rn_lasting_totals, if_false, if_true, List.lookup_nil]))
/-! Rounds: the rounds of a maker as seen at one inlet -/
theorem tex_lst {H H' : Hp} {p : Addr} {zs : List V} (hp : H p = some (.lst zs)) (f : Fr p H H') : TEx H H' := fun b xs q => by
  have hb : b ≠ p := by
    rintro rfl
    rcases q with q | ⟨o', q⟩ <;> rw [hp] at q <;> cases q
  rcases q with q | ⟨o', q⟩
  · exact .inl (f b _ hb q)
  · exact .inr ⟨o', f b _ hb q⟩
def WyAt (K : PySem.W.Frag) (H : Hp) (D : Addr) (v : V) (n : Nat) (w : Rd) : Prop := ∃ p a, v = .ref p ∧ a ≠ D ∧ SqT K H p [.int n, .ref a, .int w.2] ∧ H a = some (.lst (vI w.1))
theorem WyAt.ex {K : PySem.W.Frag} {H H' : Hp} {D : Addr} {v : V} {n : Nat} {w : Rd} (e : Ex H H') (h : WyAt K H D v n w) : WyAt K H' D v n w := by
  obtain ⟨p, a, e1, ne, s, g⟩ := h
  exact ⟨p, a, e1, ne, ex_t e s, e _ _ g⟩
theorem WyAt.fr {K : PySem.W.Frag} {H H' : Hp} {D : Addr} {v : V} {n : Nat} {w : Rd} {zs : List V} (hD : H D = some (.lst zs)) (f : Fr D H H') (h : WyAt K H D v n w) : WyAt K H' D v n w := by
  obtain ⟨p, a, e1, ne, s, g⟩ := h
  exact ⟨p, a, e1, ne, tex_t (tex_lst hD f) s, f _ _ ne g⟩
theorem WyAt.fri {K : PySem.W.Frag} {H H' : Hp} {D x C dx : Addr} {fs : List (Str × V)} {v : V} {n : Nat} {w : Rd} (hx : H x = some (.ins C dx fs)) (f : Fr x H H') (h : WyAt K H D v n w) : WyAt K H' D v n w := by
  obtain ⟨p, a, e1, ne, s, g⟩ := h
  exact ⟨p, a, e1, ne, tex_t (tex_fri hx f) s, f _ _ (by rintro rfl; rw [hx] at g; cases g) g⟩
theorem WyAt.re {K : PySem.W.Frag} {H : Hp} {D T : Addr} {v : V} {n : Nat} {w : Rd} (hT : H T = none) (h : WyAt K H D v n w) : WyAt K H T v n w := by
  obtain ⟨p, a, e1, ne, s, g⟩ := h
  exact ⟨p, a, e1, ne_of_none g hT, s, g⟩
def WyL (K : PySem.W.Frag) (H : Hp) (D : Addr) (vs : List V) (ws : List (Nat × Rd)) : Prop := vs.length = ws.length ∧ ∀ (k : Nat) (v : V) (q : Nat × Rd), vs[k]? = some v → ws[k]? = some q → WyAt K H D v q.1 q.2
theorem WyL.map {K : PySem.W.Frag} {H H' : Hp} {D D' : Addr} {vs : List V} {ws : List (Nat × Rd)} (f : ∀ v n w, WyAt K H D v n w → WyAt K H' D' v n w) (h : WyL K H D vs ws) : WyL K H' D' vs ws := ⟨h.1, fun k v q a b => f _ _ _ (h.2 k v q a b)⟩
theorem WyL.nil {K : PySem.W.Frag} {H : Hp} {D : Addr} : WyL K H D [] [] := ⟨rfl, fun k v q a => by cases a⟩
theorem WyL.snoc {K : PySem.W.Frag} {H : Hp} {D : Addr} {vs : List V} {ws : List (Nat × Rd)} {v : V} {n : Nat} {w : Rd} (h : WyL K H D vs ws) (a : WyAt K H D v n w) : WyL K H D (vs ++ [v]) (ws ++ [(n, w)]) := by
  refine ⟨by rw [List.length_append, List.length_append, h.1]; rfl, fun k u q hu hq => ?_⟩
  rcases Nat.lt_or_ge k vs.length with c | c
  · rw [List.getElem?_append_left c] at hu
    rw [List.getElem?_append_left (by rw [← h.1]; exact c)] at hq
    exact h.2 k u q hu hq
  · rw [List.getElem?_append_right c] at hu
    rw [List.getElem?_append_right (by rw [← h.1]; exact c), ← h.1] at hq
    cases hk : k - vs.length with
    | zero => rw [hk] at hu hq; cases hu; cases hq; exact a
    | succ d => rw [hk] at hu; cases hu
theorem WyL.get {K : PySem.W.Frag} {H : Hp} {D : Addr} {vs : List V} {ws : List (Nat × Rd)} {k : Nat} {v : V} (h : WyL K H D vs ws) (e : vs[k]? = some v) : ∃ q, ws[k]? = some q ∧ WyAt K H D v q.1 q.2 := by
  have l := (List.getElem?_eq_some_iff.mp e).1
  have l2 : k < ws.length := by rw [← h.1]; exact l
  exact ⟨ws[k], List.getElem?_eq_getElem l2, h.2 k v _ e (List.getElem?_eq_getElem l2)⟩
/-- the rounds of all ways, numbered -/
def nws (i : Int) (ws : List (List Dd)) : List (Nat × Rd) := (List.range ws.length).map fun n => (n, tkn i (ws.getD n []))
def ngs (i : Int) (ws : List (List Dd)) : List (Nat × Rd) := (nws i ws).filter fun q => gives q.2
theorem nws_len (i : Int) (ws : List (List Dd)) : (nws i ws).length = ws.length := by unfold nws; rw [List.length_map, List.length_range]
theorem nws_get {i : Int} {ws : List (List Dd)} {k : Nat} (h : k < ws.length) : (nws i ws)[k]? = some (k, tkn i (ws.getD k [])) := by
  unfold nws
  rw [List.getElem?_map, List.getElem?_range h]
  rfl
theorem nws_mem {i : Int} {ws : List (List Dd)} {q : Nat × Rd} : q ∈ nws i ws ↔ q.1 < ws.length ∧ q.2 = tkn i (ws.getD q.1 []) := by
  unfold nws
  rw [List.mem_map]
  constructor
  · rintro ⟨n, hn, rfl⟩
    exact ⟨List.mem_range.mp hn, rfl⟩
  · rintro ⟨a, b⟩
    exact ⟨q.1, List.mem_range.mpr a, by rw [← b]⟩
theorem ngs_mem {i : Int} {ws : List (List Dd)} {q : Nat × Rd} : q ∈ ngs i ws ↔ q.1 < ws.length ∧ q.2 = tkn i (ws.getD q.1 []) ∧ q.2.1 ≠ [] := by
  unfold ngs
  rw [List.mem_filter, nws_mem, gives_iff, and_assoc]
theorem ngs_gvs {i : Int} {ws : List (List Dd)} {q : Nat × Rd} (h : q ∈ ngs i ws) : q.2 ∈ gvs i ws := by
  obtain ⟨a, b, c⟩ := ngs_mem.mp h
  refine gvs_mem.mpr ⟨⟨ws[q.1], List.getElem_mem a, ?_⟩, c⟩
  rw [b, List.getD_eq_getElem?_getD, List.getElem?_eq_getElem a]
  rfl
theorem gvs_ngs {i : Int} {ws : List (List Dd)} {w : Rd} (h : w ∈ gvs i ws) : ∃ n, (n, w) ∈ ngs i ws := by
  obtain ⟨⟨x, hx, rfl⟩, c⟩ := gvs_mem.mp h
  obtain ⟨n, hn, rfl⟩ := List.getElem_of_mem hx
  refine ⟨n, ngs_mem.mpr ⟨hn, ?_, c⟩⟩
  rw [List.getD_eq_getElem?_getD, List.getElem?_eq_getElem hn]
  rfl
theorem ngs_nil {i : Int} {ws : List (List Dd)} : ngs i ws = [] ↔ gvs i ws = [] := by
  constructor
  · intro e
    refine List.eq_nil_iff_forall_not_mem.mpr fun w hw => ?_
    obtain ⟨n, h⟩ := gvs_ngs hw
    rw [e] at h
    exact List.not_mem_nil h
  · intro e
    refine List.eq_nil_iff_forall_not_mem.mpr fun q hq => ?_
    have := ngs_gvs hq
    rw [e] at this
    exact List.not_mem_nil this
theorem any_stop {i : Int} {ws : List (List Dd)} : ((nws i ws).any fun q => q.2.1.isEmpty) = true ↔ stopsP i ws := by
  rw [List.any_eq_true]
  constructor
  · rintro ⟨q, hq, e⟩
    obtain ⟨a, b⟩ := nws_mem.mp hq
    refine ⟨ws[q.1], List.getElem_mem a, ?_⟩
    rw [b, List.getD_eq_getElem?_getD, List.getElem?_eq_getElem a] at e
    exact List.isEmpty_iff.mp e
  · rintro ⟨x, hx, e⟩
    obtain ⟨n, hn, rfl⟩ := List.getElem_of_mem hx
    refine ⟨(n, tkn i (ws.getD n [])), nws_mem.mpr ⟨hn, rfl⟩, ?_⟩
    rw [List.getD_eq_getElem?_getD, List.getElem?_eq_getElem hn]
    exact List.isEmpty_iff.mpr e
/-- what totals holds -/
abbrev Tt := Option Int × Option (Nat × Rd)
def TtAt (K : PySem.W.Frag) (G H : Hp) (D : Addr) (v : V) (t : Tt) : Prop := ∃ p cv, v = .ref p ∧ SqT K H p [optV t.1, cv] ∧ (t.2 = none → cv = .non) ∧ ∀ n w, t.2 = some (n, w) → WyAt K G D cv n w
def TtL (K : PySem.W.Frag) (G H : Hp) (D : Addr) (vs : List V) (ts : List Tt) : Prop := vs.length = ts.length ∧ ∀ (k : Nat) (v : V) (t : Tt), vs[k]? = some v → ts[k]? = some t → TtAt K G H D v t
theorem TtAt.ex {K : PySem.W.Frag} {G H H' : Hp} {D : Addr} {v : V} {t : Tt} (e : Ex H H') (h : TtAt K G H D v t) : TtAt K G H' D v t := by
  obtain ⟨p, cv, e1, s, a, b⟩ := h
  exact ⟨p, cv, e1, ex_t e s, a, b⟩
theorem TtAt.fr {K : PySem.W.Frag} {G H H' : Hp} {D : Addr} {v : V} {t : Tt} {zs : List V} (hD : H D = some (.lst zs)) (f : Fr D H H') (h : TtAt K G H D v t) : TtAt K G H' D v t := by
  obtain ⟨p, cv, e1, s, a, b⟩ := h
  exact ⟨p, cv, e1, tex_t (tex_lst hD f) s, a, b⟩
theorem TtL.map {K : PySem.W.Frag} {G H H' : Hp} {D : Addr} {vs : List V} {ts : List Tt} (f : ∀ v t, TtAt K G H D v t → TtAt K G H' D v t) (h : TtL K G H D vs ts) : TtL K G H' D vs ts := ⟨h.1, fun k v q a b => f _ _ (h.2 k v q a b)⟩
theorem TtL.snoc {K : PySem.W.Frag} {G H : Hp} {D : Addr} {vs : List V} {ts : List Tt} {v : V} {t : Tt} (h : TtL K G H D vs ts) (a : TtAt K G H D v t) : TtL K G H D (vs ++ [v]) (ts ++ [t]) := by
  refine ⟨by rw [List.length_append, List.length_append, h.1]; rfl, fun k u q hu hq => ?_⟩
  rcases Nat.lt_or_ge k vs.length with c | c
  · rw [List.getElem?_append_left c] at hu
    rw [List.getElem?_append_left (by rw [← h.1]; exact c)] at hq
    exact h.2 k u q hu hq
  · rw [List.getElem?_append_right c] at hu
    rw [List.getElem?_append_right (by rw [← h.1]; exact c), ← h.1] at hq
    cases hk : k - vs.length with
    | zero => rw [hk] at hu hq; cases hu; cases hq; exact a
    | succ d => rw [hk] at hu; cases hu
theorem TtL.get {K : PySem.W.Frag} {G H : Hp} {D : Addr} {vs : List V} {ts : List Tt} {k : Nat} {v : V} (h : TtL K G H D vs ts) (e : vs[k]? = some v) : ∃ q, ts[k]? = some q ∧ TtAt K G H D v q := by
  have l := (List.getElem?_eq_some_iff.mp e).1
  have l2 : k < ts.length := by rw [← h.1]; exact l
  exact ⟨ts[k], List.getElem?_eq_getElem l2, h.2 k v _ e (List.getElem?_eq_getElem l2)⟩
/-- a Rounds at x with its totals at T -/
structure RdsAt (K : PySem.W.Frag) (H : Hp) (x T dx pb pw pg : Addr) (xs gs : List V) (m : Bool) (i : Int) (bs : List Dd) (ws : List (List Dd)) : Prop where
  ix : H x = some (.ins (He.ga K "Rounds") dx (rF (.bl m) (.ref pb) (.int (tkn i bs).2) (.ref pw) (.bl ((nws i ws).any fun q => q.2.1.isEmpty)) (.ref pg) (.ref T)))
  xT : x ≠ T
  bT : pb ≠ T
  wT : pw ≠ T
  gT : pg ≠ T
  gb : H pb = some (.lst (vI (tkn i bs).1))
  gw : H pw = some (.lst xs)
  wl : WyL K H T xs (nws i ws)
  gg : H pg = some (.lst gs)
  gl : WyL K H T gs (ngs i ws)
/-- the totals at T -/
structure TotAt (K : PySem.W.Frag) (G H : Hp) (T : Addr) (ts : List V) (os : List Tt) : Prop where
  gt : H T = some (.lst ts)
  tl : TtL K G H T ts os
theorem TotAt.ex {K : PySem.W.Frag} {G H H' : Hp} {T : Addr} {ts : List V} {os : List Tt} (e : Ex H H') (h : TotAt K G H T ts os) : TotAt K G H' T ts os := ⟨e _ _ h.gt, h.tl.map fun _ _ => .ex e⟩
section
variable {K : PySem.W.Frag} {H H' : Hp} {x T dx pb pw pg : Addr} {xs gs : List V} {m : Bool} {i : Int} {bs : List Dd} {ws : List (List Dd)}
theorem RdsAt.ex (e : Ex H H') (h : RdsAt K H x T dx pb pw pg xs gs m i bs ws) : RdsAt K H' x T dx pb pw pg xs gs m i bs ws :=
  ⟨e _ _ h.ix, h.xT, h.bT, h.wT, h.gT, e _ _ h.gb, e _ _ h.gw, h.wl.map fun _ _ _ => .ex e, e _ _ h.gg, h.gl.map fun _ _ _ => .ex e⟩
theorem RdsAt.fr {zs : List V} (hT : H T = some (.lst zs)) (f : Fr T H H') (h : RdsAt K H x T dx pb pw pg xs gs m i bs ws) : RdsAt K H' x T dx pb pw pg xs gs m i bs ws :=
  ⟨f _ _ h.xT h.ix, h.xT, h.bT, h.wT, h.gT, f _ _ h.bT h.gb, f _ _ h.wT h.gw, h.wl.map fun _ _ _ => .fr hT f, f _ _ h.gT h.gg, h.gl.map fun _ _ _ => .fr hT f⟩
variable {P : Program} {mg : Str → Option Value} {Q : VK}
theorem r_rMost (E : Env P K mg) (h : RdsAt K H x T dx pb pw pg xs gs m i bs ws) (q : Q (.bl m) H) : GetF K "most" (.ref x) H Q := r_getF h.ix E.c_Rounds E.na_Rounds_most rF_most q
theorem r_rBegun (E : Env P K mg) (h : RdsAt K H x T dx pb pw pg xs gs m i bs ws) (q : Q (.ref pb) H) : GetF K "begun" (.ref x) H Q := r_getF h.ix E.c_Rounds E.na_Rounds_begun rF_begun q
theorem r_rTaken (E : Env P K mg) (h : RdsAt K H x T dx pb pw pg xs gs m i bs ws) (q : Q (.int (tkn i bs).2) H) : GetF K "taken" (.ref x) H Q := r_getF h.ix E.c_Rounds E.na_Rounds_taken rF_taken q
theorem r_rWays (E : Env P K mg) (h : RdsAt K H x T dx pb pw pg xs gs m i bs ws) (q : Q (.ref pw) H) : GetF K "ways" (.ref x) H Q := r_getF h.ix E.c_Rounds E.na_Rounds_ways rF_ways q
theorem r_rStops (E : Env P K mg) (h : RdsAt K H x T dx pb pw pg xs gs m i bs ws) (q : Q (.bl ((nws i ws).any fun q => q.2.1.isEmpty)) H) : GetF K "stops" (.ref x) H Q := r_getF h.ix E.c_Rounds E.na_Rounds_stops rF_stops q
theorem r_rGiving (E : Env P K mg) (h : RdsAt K H x T dx pb pw pg xs gs m i bs ws) (q : Q (.ref pg) H) : GetF K "giving" (.ref x) H Q := r_getF h.ix E.c_Rounds E.na_Rounds_giving rF_giving q
theorem r_rTotals (E : Env P K mg) (h : RdsAt K H x T dx pb pw pg xs gs m i bs ws) (q : Q (.ref T) H) : GetF K "totals" (.ref x) H Q := r_getF h.ix E.c_Rounds E.na_Rounds_totals rF_totals q
end
theorem mak_fri {K : PySem.W.Frag} {H H' : Hp} {p q C dx : Addr} {fs : List (Str × V)} {k : Int} {bs : List Dd} {ws : List (List Dd)} (hp : H p = some (.ins C dx fs)) (n : q ≠ p) (f : Fr p H H') (t : MakAt K H q k bs ws) : MakAt K H' q k bs ws := by
  obtain ⟨dy, vb, vw, h1, h2, h3⟩ := t
  exact ⟨dy, vb, vw, f _ _ n h1, dp_tex (tex_fri hp f) (imm_dW bs) h2, dp_tex (tex_fri hp f) (imm_dWs ws) h3⟩
theorem i_enumE {K : PySem.W.Frag} {ta : TA} {σ : L2.St} {H : Hp} {R : It → Hp → Prop} (h : ta σ H fun vs H1 => ∃ a xs, vs = [.ref a] ∧ ((SqL K H1 a xs ∧ R (Ite K a) H1) ∨ (SqT K H1 a xs ∧ R (IteT K a) H1))) : iEnumE K ta σ H R := h
theorem pl1 {f0 : Str} {y0 : V} : ((putF f0 y0 []) : List (Str × V)).length ≤ 1 := putF_len _ _ _
theorem pl2 {f0 f1 : Str} {y0 y1 : V} : ((putF f1 y1 (putF f0 y0 [])) : List (Str × V)).length ≤ 2 := Nat.le_trans (putF_len _ _ _) (Nat.succ_le_succ pl1)
theorem pl3 {f0 f1 f2 : Str} {y0 y1 y2 : V} : ((putF f2 y2 (putF f1 y1 (putF f0 y0 []))) : List (Str × V)).length ≤ 3 := Nat.le_trans (putF_len _ _ _) (Nat.succ_le_succ pl2)
theorem pl4 {f0 f1 f2 f3 : Str} {y0 y1 y2 y3 : V} : ((putF f3 y3 (putF f2 y2 (putF f1 y1 (putF f0 y0 [])))) : List (Str × V)).length ≤ 4 := Nat.le_trans (putF_len _ _ _) (Nat.succ_le_succ pl3)
theorem pl5 {f0 f1 f2 f3 f4 : Str} {y0 y1 y2 y3 y4 : V} : ((putF f4 y4 (putF f3 y3 (putF f2 y2 (putF f1 y1 (putF f0 y0 []))))) : List (Str × V)).length ≤ 5 := Nat.le_trans (putF_len _ _ _) (Nat.succ_le_succ pl4)
theorem pl6 {f0 f1 f2 f3 f4 f5 : Str} {y0 y1 y2 y3 y4 y5 : V} : ((putF f5 y5 (putF f4 y4 (putF f3 y3 (putF f2 y2 (putF f1 y1 (putF f0 y0 [])))))) : List (Str × V)).length ≤ 6 := Nat.le_trans (putF_len _ _ _) (Nat.succ_le_succ pl5)
abbrev spRds (K : PySem.W.Frag) : Sp := sp4 fun x a b c H Q _ => ∃ (p dx q : Addr) (k i : Int) (m : Bool) (bs : List Dd) (ws : List (List Dd)), x = .ref p ∧ H p = some (.ins (He.ga K "Rounds") dx []) ∧ a = .ref q ∧ q ≠ p ∧ MakAt K H q k bs ws ∧ b = .int i ∧ c = .bl m ∧ bs.length ≤ 50000 ∧ (∀ w ∈ ws, w.length ≤ 50000) ∧ ws.length ≤ 50000 ∧
  ∀ H' T dx pb pw pg xs gs ts, H T = none → Fr p H H' → RdsAt K H' p T dx pb pw pg xs gs m i bs ws → TotAt K H' H' T ts [(some 0, none)] → Q .non H'
abbrev N_Rounds_init : List Str := ["self", "maker", "inlet", "most", "number", "way", "ahead", "total"]
theorem sc_Rounds_init : FnScope N_Rounds_init ["self", "maker", "inlet", "most"] (defScope s_Rounds_init) := ⟨rfl, rfl, rfl, by decide +kernel, rfl, by decide +kernel, by decide +kernel⟩
theorem fx_Rounds_init {P : Program} {w : World} {K : PySem.W.Frag} {mg : Str → Option Value} {base : Heap} (E : Env P K mg) : ∃ fd, FunD K "__init__" "Rounds.__init__" (defArgs s_Rounds_init) (defBody s_Rounds_init) (defScope s_Rounds_init) (d_Rounds_init.dvs K) [] (d_Rounds_init.adr K) fd ∧ FnOk P w K mg base CX0 2 (d_Rounds_init.adr K) fd ["self", "maker", "inlet", "most"] (spRds K) := by
  obtain ⟨fd, F⟩ := E.dd_Rounds_init
  refine ⟨fd, F, fnok0 F sc_Rounds_init sp4_len (fun cdv A outer s H vs Q X hr h => ?_)⟩
  have nd := sc_Rounds_init.nd
  obtain ⟨v0, v1, v2, v3, rfl, h⟩ := h
  refine ⟨_, (pss_cons (kFldS K (ps_fld (pv 0) (pv 3) rfl))
  (pss_cons (ps_asg (pc (ok_takes_ahead E) hr (by decide) pass0 rfl (pa_cons (kFld K (pv 1) rfl) (pa_cons (pv 2) pa_nil))) (kGtup K rfl (pgs_cons (kGfld K (pv 0)) (pgs_cons (kGfld K (pv 0)) (pgs_nil)))))
  (pss_cons (kFldS K (ps_fld (pv 0) (pe_lst (pa_nil)) rfl))
  (pss_cons (ps_for PassesOwn.never rfl (pi_enumE K (by rfl) E.f_enumerate (pa_cons (kFld K (pv 1) rfl) pa_nil)) (kGtup K rfl (pgs_cons (pg_name (i := 4) nd rfl (.inl rfl)) (pgs_cons (pg_name (i := 5) nd rfl (.inl rfl)) (pgs_nil))))
   (pss_cons (ps_asg (pc (ok_takes_ahead E) hr (by decide) pass0 rfl (pa_cons (pv 5) (pa_cons (pv 2) pa_nil))) (kGtup K rfl (pgs_cons (pg_name (i := 6) nd rfl (.inl rfl)) (pgs_cons (pg_name (i := 7) nd rfl (.inl rfl)) (pgs_nil)))))
  (pss_one (ps_expr (kBM K (pe_bm PySem.F.plainAttrs_list PySem.F.slot_list_append PySem.F.type_list_append mt_append (kFld K (pv 0) rfl) (pa_cons (pe_tup (pa_cons (pv 4) (pa_cons (pv 6) (pa_cons (pv 7) pa_nil)))) pa_nil)))))))
  (pss_cons (kFldS K (ps_fld (pv 0) (pe_callB (kAny K rfl) (by rfl) E.f_any (by decide +kernel) (pa_cons (pe_lc (own := [("way", 5)]) (g := gName 5) (tt := tYes) rfl nd (kSeq K (kFld K (pv 0) rfl)) (blkOk_by (N := N_Rounds_init) (sc := defScope s_Rounds_init) (by decide +kernel)) (fun _ _ _ _ _ => pg_name (i := 5) nd rfl (Or.inl rfl)) (fun _ _ _ _ _ => pts_nil) (fun _ _ _ _ _ => pe_cmpR (kEq K hr) (pe_callB (kLen K) (by rfl) E.f_len (by decide +kernel) (pa_cons (pe_ix (kIx K) (pv 5) (pe_int) (fun _ _ => rfl)) pa_nil)) (pe_int) (nomark _))) pa_nil)) rfl))
  (pss_cons (kFldS K (ps_fld (pv 0) (pe_lc (own := [("way", 5)]) (g := gName 5) rfl nd (kSeq K (kFld K (pv 0) rfl)) (blkOk_by (N := N_Rounds_init) (sc := defScope s_Rounds_init) (by decide +kernel)) (fun _ _ _ _ _ => pg_name (i := 5) nd rfl (Or.inl rfl)) (fun _ _ _ _ _ => pts_one (pt_cmpR op_gt (pe_callB (kLen K) (by rfl) E.f_len (by decide +kernel) (pa_cons (pe_ix (kIx K) (pv 5) (pe_int) (fun _ _ => rfl)) pa_nil)) (pe_int) (nomark _))) (fun _ _ _ _ _ => pv 5)) rfl))
  (pss_one (kFldS K (ps_fld (pv 0) (pe_lst (pa_cons (pe_tup (pa_cons (pe_int) (pa_cons (pe_non) pa_nil))) pa_nil)) rfl))))))))), ?_⟩
  change (_ : TS) _ [some v0, some v1, some v2, some v3, none, none, none, none] H
  try dsimp only [cxOf, Cx.nox, Cx.blk]
  obtain ⟨p, dx, q, k0, i, m, bs, ws, rfl, hp, rfl, nq, t, rfl, rfl, zb, zw, zn, k⟩ := h
  have e0 : ∀ {G : Hp} {o : HO}, Fr p G (upd G p o) := fun {G o} => Fr.upd
  walk_at "w"
  refine r_putF hp E.c_Rounds E.na_Rounds_most (by decide) ?_
  have f1 := e0 (G := H) (o := .ins (He.ga K "Rounds") dx (putF "most" (.bl m) []))
  have h1 : upd H p (.ins (He.ga K "Rounds") dx (putF "most" (.bl m) [])) p = some (.ins (He.ga K "Rounds") dx (putF "most" (.bl m) [])) := upd_same
  generalize upd H p (.ins (He.ga K "Rounds") dx (putF "most" (.bl m) [])) = H1 at *
  have t1 := mak_fri hp nq f1 t
  walk_at "w"
  refine r_makBe E t1 fun a sa => ?_
  walk_at "w"
  refine ⟨a, bs, i, rfl, rfl, .inr sa, zb, fun pq pb H2 e2 sq nb gb => ?_⟩
  have h2 := e2 _ _ h1
  have t2 := ex_mak e2 t1
  have pbp : pb ≠ p := by rintro rfl; rw [h2] at gb; cases gb
  walk_at "w"
  refine w_gfld ?_
  walk_at "w"
  refine r_putF h2 E.c_Rounds E.na_Rounds_begun (Nat.lt_of_le_of_lt pl1 (by decide)) ?_
  have f3 := e0 (G := H2) (o := .ins (He.ga K "Rounds") dx (putF "begun" (.ref pb) (putF "most" (.bl m) [])))
  have h3 : upd H2 p (.ins (He.ga K "Rounds") dx (putF "begun" (.ref pb) (putF "most" (.bl m) []))) p = some (.ins (He.ga K "Rounds") dx (putF "begun" (.ref pb) (putF "most" (.bl m) []))) := upd_same
  generalize upd H2 p (.ins (He.ga K "Rounds") dx (putF "begun" (.ref pb) (putF "most" (.bl m) []))) = H3 at *
  have t3 := mak_fri h2 nq f3 t2
  have gb3 := f3 _ _ pbp gb
  walk_at "w"
  refine w_gfld ?_
  walk_at "w"
  refine r_putF h3 E.c_Rounds E.na_Rounds_taken (Nat.lt_of_le_of_lt pl2 (by decide)) ?_
  have f4 := e0 (G := H3) (o := .ins (He.ga K "Rounds") dx (putF "taken" (.int (tkn i bs).2) (putF "begun" (.ref pb) (putF "most" (.bl m) []))))
  have h4 : upd H3 p (.ins (He.ga K "Rounds") dx (putF "taken" (.int (tkn i bs).2) (putF "begun" (.ref pb) (putF "most" (.bl m) [])))) p = some (.ins (He.ga K "Rounds") dx (putF "taken" (.int (tkn i bs).2) (putF "begun" (.ref pb) (putF "most" (.bl m) [])))) := upd_same
  generalize upd H3 p (.ins (He.ga K "Rounds") dx (putF "taken" (.int (tkn i bs).2) (putF "begun" (.ref pb) (putF "most" (.bl m) [])))) = H4 at *
  have t4 := mak_fri h3 nq f4 t3
  have gb4 := f4 _ _ pbp gb3
  walk_at "w"
  intro pw H5 n5 e5 g5
  have h5 := e5 _ _ h4
  have t5 := ex_mak e5 t4
  have gb5 := e5 _ _ gb4
  walk_at "w"
  refine r_putF h5 E.c_Rounds E.na_Rounds_ways (Nat.lt_of_le_of_lt pl3 (by decide)) ?_
  have f6 := e0 (G := H5) (o := .ins (He.ga K "Rounds") dx (putF "ways" (.ref pw) (putF "taken" (.int (tkn i bs).2) (putF "begun" (.ref pb) (putF "most" (.bl m) [])))))
  have h6 : upd H5 p (.ins (He.ga K "Rounds") dx (putF "ways" (.ref pw) (putF "taken" (.int (tkn i bs).2) (putF "begun" (.ref pb) (putF "most" (.bl m) []))))) p = some (.ins (He.ga K "Rounds") dx (putF "ways" (.ref pw) (putF "taken" (.int (tkn i bs).2) (putF "begun" (.ref pb) (putF "most" (.bl m) []))))) := upd_same
  generalize upd H5 p (.ins (He.ga K "Rounds") dx (putF "ways" (.ref pw) (putF "taken" (.int (tkn i bs).2) (putF "begun" (.ref pb) (putF "most" (.bl m) []))))) = H6 at *
  have t6 := mak_fri h5 nq f6 t5
  have gb6 := f6 _ _ pbp gb5
  have wp : pw ≠ p := by rintro rfl; rw [h5] at g5; cases g5
  have bw : pb ≠ pw := ne_of_none gb4 n5
  have g6 := f6 _ _ wp g5
  have F6 : Fr p H H6 := ((((f1.trans (Fr.of e2)).trans f3).trans f4).trans (Fr.of e5)).trans f6
  have nw : H pw = none := by
    cases hh : H pw with
    | none => rfl
    | some o => rw [(((f1.trans (Fr.of e2)).trans f3).trans f4) _ _ wp hh] at n5; cases n5
  clear f1 f3 f4 f6 e2 e5 h1 h2 h3 h4 h5 t1 t2 t3 t4 t5 gb gb3 gb4 gb5 g5 n5 sq nb sa
  walk_at "w"
  refine i_enumE ?_
  walk_at "w"
  refine r_makWa E t6 fun pm ms sm dm => ?_
  walk_at "w"
  have zm : ms.length = ws.length := (dpAll_len dm).trans (List.length_map ..)
  refine ⟨pm, ms, rfl, .inr ⟨sm, ?_⟩⟩
  refine for_enumT (xs := ms) (Pv := fun j σ' H' => ∃ (u v y z : Option V) (xs : List V), σ' = [some (.ref p), some (.ref q), some (.int i), some (.bl m), u, v, y, z] ∧ Fr pw H6 H' ∧ H' pw = some (.lst xs) ∧ WyL K H' pw xs ((nws i ws).take j)) ⟨_, _, _, _, [], rfl, Fr.refl _ _, g6, by rw [List.take_zero]; exact .nil⟩ (fun j σ' H' _ h => by obtain ⟨_, _, _, _, _, _, f, _⟩ := h; exact tex_t (tex_lst g6 f) sm) ?_ ?_
  · rintro j x σ' H' Tt hx ⟨u, v, y, z, xs, rfl, f, g, W⟩ nT
    have hj : j < ws.length := by rw [← zm]; exact (List.getElem?_eq_some_iff.mp hx).1
    have zx : xs.length = j := by rw [W.1, List.length_take, nws_len]; omega
    obtain ⟨d, d1, d2⟩ := dpAll_get dm hx
    rw [List.getElem?_map, List.getElem?_eq_getElem hj] at d1
    have d1 : dW ws[j] = d := Option.some.inj d1
    subst d1
    obtain ⟨qa, rfl, sa⟩ := dp_dW d2
    have sa := tex_t (tex_lst g6 f) sa
    have eT : Ex H' (upd H' Tt (.tup [.int (j : Nat), .ref qa])) := Ex.new nT
    have sT : SqT K (upd H' Tt (.tup [.int (j : Nat), .ref qa])) Tt [.int (j : Nat), .ref qa] := st_of upd_same
    have g := eT _ _ g
    have W := W.map fun _ _ _ => .ex eT
    have sa := ex_t eT sa
    have f := f.trans (Fr.of eT)
    generalize upd H' Tt (.tup [.int (j : Nat), .ref qa]) = H7 at *
    walk_at "w"
    refine ⟨qa, ws[j], i, rfl, rfl, .inr sa, zw _ (List.getElem_mem hj), fun pq pa H8 e8 sq na ga => ?_⟩
    have h8 := e8 _ _ (f _ _ wp.symm h6)
    have g8 := e8 _ _ g
    walk_at "w"
    refine r_getF h8 E.c_Rounds E.na_Rounds_ways (v := .ref pw) (by walk_at "rlk") ?_
    walk_at "w"
    intro pt H9 n9 e9 g9
    have g10 := e9 _ _ g8
    walk_at "w"
    refine r_app (K := K) g10 (sz_lt (by omega)) ?_
    walk_at "w"
    have W9 := (W.map fun _ _ _ => .ex (e8.trans e9)).snoc (v := .ref pt) (n := j) (w := tkn i ws[j]) ⟨pt, pa, rfl, (ne_of_none g na).symm, st_of g9, e9 _ _ ga⟩
    refine ⟨_, _, _, _, xs ++ [.ref pt], rfl, (f.trans (Fr.of (e8.trans e9))).trans Fr.upd, upd_same, ?_⟩
    rw [List.take_add_one, nws_get hj]
    have ew : ws.getD j [] = ws[j] := by rw [List.getD_eq_getElem?_getD, List.getElem?_eq_getElem hj]; rfl
    rw [ew]
    exact W9.map fun _ _ _ => .fr g10 Fr.upd
  rintro σ' H7 ⟨u, v, y, z, xs, rfl, f7, g7, W7⟩
  rw [zm, ← nws_len i, List.take_length] at W7
  have h7 := f7 _ _ wp.symm h6
  have gb7 := f7 _ _ bw gb6
  have F7 : Fr p H H7 := fun b o nb hb => by
    have hb6 := F6 b o nb hb
    exact f7 b o (by rintro rfl; rw [nw] at hb; cases hb) hb6
  clear f7 g6 h6 gb6 F6 t6 dm sm zm
  have zx : xs.length ≤ 90000 := by rw [W7.1, nws_len]; omega
  walk_at "w"
  refine i_seqL ?_
  walk_at "w"
  refine r_getF h7 E.c_Rounds E.na_Rounds_ways (v := .ref pw) (by walk_at "rlk") ?_
  walk_at "w"
  refine lcG_lst (xs := xs) (fun _ j acc H' => Ex H7 H' ∧ acc = ((nws i ws).take j).map fun q => V.bl q.2.1.isEmpty) zx (fun v => [some (.ref p), some (.ref q), some (.int i), some (.bl m), u, some v, y, z]) (fun _ => rfl) (fun _ => rfl) (fun D nD => ⟨Ex.new nD, rfl⟩) (fun _ _ _ H' c => sq_of (c.1 _ _ g7)) ?_ ?_
  · rintro D j v acc H' Q' nD gD _ hv ⟨e, rfl⟩ kk
    obtain ⟨qq, hq, pt, pa, rfl, nea, sq, ga⟩ := W7.get hv
    have sq := ex_t e sq
    have ga := sq_of (K := K) (e _ _ ga)
    walk_at "w"
    have el : decide ((qq.2.1.length : Int) = 0) = qq.2.1.isEmpty := by
      cases qq.2.1 with
      | nil => rfl
      | cons a l => exact decide_eq_false (by rw [List.length_cons]; omega)
    rw [el]
    refine kk _ _ gD ⟨Ex.mut e nD, ?_⟩
    rw [List.take_add_one, hq, List.map_append]
    rfl
  rintro D acc H8 nD ⟨e8, rfl⟩ gD _
  walk_at "w"
  refine r_any (bs := ((nws i ws).take xs.length).map fun q => q.2.1.isEmpty) (sq_of gD) (by rw [List.map_map]; rfl) ?_
  have ea : (((nws i ws).take xs.length).map fun q => q.2.1.isEmpty).any id = (nws i ws).any fun q => q.2.1.isEmpty := by
    rw [W7.1, List.take_length, List.any_map]
    rfl
  rw [ea]
  have h8 := e8 _ _ h7
  have g8 := e8 _ _ g7
  have gb8 := e8 _ _ gb7
  have W8 := W7.map fun _ _ _ => .ex e8
  walk_at "w"
  refine r_putF h8 E.c_Rounds E.na_Rounds_stops (Nat.lt_of_le_of_lt pl4 (by decide)) ?_
  have f9 := e0 (G := H8) (o := .ins (He.ga K "Rounds") dx (putF "stops" (.bl ((nws i ws).any fun q => q.2.1.isEmpty)) (putF "ways" (.ref pw) (putF "taken" (.int (tkn i bs).2) (putF "begun" (.ref pb) (putF "most" (.bl m) []))))))
  have h9 : upd H8 p (.ins (He.ga K "Rounds") dx (putF "stops" (.bl ((nws i ws).any fun q => q.2.1.isEmpty)) (putF "ways" (.ref pw) (putF "taken" (.int (tkn i bs).2) (putF "begun" (.ref pb) (putF "most" (.bl m) [])))))) p = some (.ins (He.ga K "Rounds") dx (putF "stops" (.bl ((nws i ws).any fun q => q.2.1.isEmpty)) (putF "ways" (.ref pw) (putF "taken" (.int (tkn i bs).2) (putF "begun" (.ref pb) (putF "most" (.bl m) [])))))) := upd_same
  generalize upd H8 p (.ins (He.ga K "Rounds") dx (putF "stops" (.bl ((nws i ws).any fun q => q.2.1.isEmpty)) (putF "ways" (.ref pw) (putF "taken" (.int (tkn i bs).2) (putF "begun" (.ref pb) (putF "most" (.bl m) [])))))) = H9 at *
  have W9 := W8.map fun _ _ _ => .fri h8 f9
  have g9 := f9 _ _ wp g8
  have gb9 := f9 _ _ pbp gb8
  have F9 : Fr p H H9 := (F7.trans (Fr.of e8)).trans f9
  clear F7 W7 W8 h7 h8 g7 g8 gb7 gb8 e8 f9 gD nD ea
  walk_at "w"
  refine i_seqL ?_
  walk_at "w"
  refine r_getF h9 E.c_Rounds E.na_Rounds_ways (v := .ref pw) (by walk_at "rlk") ?_
  walk_at "w"
  refine lcGF_lst (xs := xs) (fun _ j acc H' => Ex H9 H' ∧ WyL K H9 pw acc (((nws i ws).take j).filter fun q => gives q.2)) zx (fun v => [some (.ref p), some (.ref q), some (.int i), some (.bl m), u, some v, y, z]) (fun _ => rfl) (fun _ => rfl) (fun D nD => ⟨Ex.new nD, .nil⟩) (fun _ _ _ H' c => sq_of (c.1 _ _ g9)) ?_ ?_
  · rintro D j v acc H' QT nD gD hv ⟨e, W⟩ kF kT
    obtain ⟨qq, hq, pt, pa, rfl, nea, sq0, ga0⟩ := W9.get hv
    have sq := ex_t e sq0
    have ga := sq_of (K := K) (e _ _ ga0)
    walk_at "w"
    by_cases c : qq.2.1 = []
    · rw [decide_eq_false (by rw [c]; decide)]
      refine kF _ gD ⟨e, ?_⟩
      rw [List.take_add_one, hq, List.filter_append]
      have : (some qq).toList.filter (fun q => gives q.2) = [] := by
        have hg : gives qq.2 = false := by
          cases h : gives qq.2 with
          | false => rfl
          | true => exact absurd c (gives_iff.mp h)
        simp [hg]
      rw [this, List.append_nil]
      exact W
    · rw [decide_eq_true (by have := List.length_pos_iff.mpr c; omega)]
      refine kT _ fun Q' kk => ?_
      walk_at "w"
      refine kk _ _ gD ⟨Ex.mut e nD, ?_⟩
      rw [List.take_add_one, hq, List.filter_append]
      have : (some qq).toList.filter (fun q => gives q.2) = [qq] := by
        have hg : gives qq.2 = true := gives_iff.mpr c
        simp [hg]
      rw [this]
      exact W.snoc ⟨pt, pa, rfl, nea, sq0, ga0⟩
  rintro D gs HA nD ⟨eA, WA⟩ gD
  rw [W9.1, List.take_length] at WA
  walk_at "w"
  have hA := eA _ _ h9
  have dp : D ≠ p := (ne_of_none h9 nD).symm
  refine r_putF hA E.c_Rounds E.na_Rounds_giving (Nat.lt_of_le_of_lt pl5 (by decide)) ?_
  have fB := e0 (G := HA) (o := .ins (He.ga K "Rounds") dx (putF "giving" (.ref D) (putF "stops" (.bl ((nws i ws).any fun q => q.2.1.isEmpty)) (putF "ways" (.ref pw) (putF "taken" (.int (tkn i bs).2) (putF "begun" (.ref pb) (putF "most" (.bl m) [])))))))
  have hB : upd HA p (.ins (He.ga K "Rounds") dx (putF "giving" (.ref D) (putF "stops" (.bl ((nws i ws).any fun q => q.2.1.isEmpty)) (putF "ways" (.ref pw) (putF "taken" (.int (tkn i bs).2) (putF "begun" (.ref pb) (putF "most" (.bl m) []))))))) p = some (.ins (He.ga K "Rounds") dx (putF "giving" (.ref D) (putF "stops" (.bl ((nws i ws).any fun q => q.2.1.isEmpty)) (putF "ways" (.ref pw) (putF "taken" (.int (tkn i bs).2) (putF "begun" (.ref pb) (putF "most" (.bl m) []))))))) := upd_same
  generalize upd HA p (.ins (He.ga K "Rounds") dx (putF "giving" (.ref D) (putF "stops" (.bl ((nws i ws).any fun q => q.2.1.isEmpty)) (putF "ways" (.ref pw) (putF "taken" (.int (tkn i bs).2) (putF "begun" (.ref pb) (putF "most" (.bl m) []))))))) = HB at *
  have WB := (W9.map fun _ _ _ => .ex eA).map fun _ _ _ => .fri hA fB
  have GB := (WA.map fun _ _ _ => .ex eA).map fun _ _ _ => .fri hA fB
  have gB := fB _ _ wp (eA _ _ g9)
  have gbB := fB _ _ pbp (eA _ _ gb9)
  have gdB := fB _ _ dp gD
  have FB : Fr p H HB := (F9.trans (Fr.of eA)).trans fB
  clear F9 W9 WA h9 hA g9 gb9 eA fB gD
  walk_at "w"
  intro p0 HC nC eC gC
  walk_at "w"
  intro T HE nE eE gE
  have e2 := eC.trans eE
  have hE := e2 _ _ hB
  walk_at "w"
  refine r_putF hE E.c_Rounds E.na_Rounds_totals (Nat.lt_of_le_of_lt pl6 (by decide)) ?_
  have fG : Fr p HE (upd HE p (.ins (He.ga K "Rounds") dx (rF (.bl m) (.ref pb) (.int (tkn i bs).2) (.ref pw) (.bl ((nws i ws).any fun q => q.2.1.isEmpty)) (.ref D) (.ref T)))) := Fr.upd
  have Tp : T ≠ p := (ne_of_none (eC _ _ hB) nE).symm
  have nT : H T = none := by
    cases hh : H T with
    | none => rfl
    | some o => rw [eC _ _ (FB _ _ Tp hh)] at nE; cases nE
  walk_at "w"
  refine k _ T dx pb pw D xs gs [.ref p0] nT ((FB.trans (Fr.of e2)).trans fG) ⟨upd_same, Tp.symm, ne_of_none (eC _ _ gbB) nE, ne_of_none (eC _ _ gB) nE, ne_of_none (eC _ _ gdB) nE, fG _ _ pbp (e2 _ _ gbB), fG _ _ wp (e2 _ _ gB), ?_, fG _ _ dp (e2 _ _ gdB), ?_⟩ ⟨fG _ _ Tp gE, ?_⟩
  · exact ((WB.map fun _ _ _ => .ex eC).map fun _ _ _ h => ((h.re nE).ex eE).fri hE fG)
  · exact ((GB.map fun _ _ _ => .ex eC).map fun _ _ _ h => ((h.re nE).ex eE).fri hE fG)
  · refine ⟨rfl, fun j v t hv ht => ?_⟩
    cases j with
    | zero =>
      cases hv
      cases ht
      exact ⟨p0, .non, rfl, tex_t (tex_fri hE fG) (st_of (eE _ _ gC)), fun _ => rfl, fun n w h => by cases h⟩
    | succ j => cases hv
section
variable {P : Program} {w : World} {K : PySem.W.Frag} {mg : Str → Option Value} {base : Heap}
theorem ok_Rounds3 (E : Env P K mg) : Mkc P w K mg base CX0 2 "Rounds" (He.ga K "Rounds") (spRds K) [] := by
  obtain ⟨fd, F, k⟩ := fx_Rounds_init (P := P) (w := w) (base := base) E
  exact ⟨_, fd, _, [], E.mk_Rounds, k, E.g_Rounds, F.bindsN (fun _ _ _ _ _ _ us hl => match us, hl with | [_, _, _, _], _ => rfl), .nil⟩
end
/-- Rounds(..) made -/
theorem mk_rds {K : PySem.W.Frag} {H : Hp} {Q : VK} {q : Addr} {k i : Int} {m : Bool} {bs : List Dd} {ws : List (List Dd)} (t : MakAt K H q k bs ws) (zb : bs.length ≤ 50000) (zw : ∀ w ∈ ws, w.length ≤ 50000) (zn : ws.length ≤ 50000)
    (h : ∀ x T dx pb pw pg xs gs ts H', Ex H H' → H T = none → RdsAt K H' x T dx pb pw pg xs gs m i bs ws → TotAt K H' H' T ts [(some 0, none)] → Q (.ref x) H') : MakeI (He.ga K "Rounds") (spRds K) [] E0 [.ref q, .int i, .bl m] H Q := by
  intro x dx nx ndx ne
  have ex : Ex H (upd (upd H dx (.own x)) x (.ins (He.ga K "Rounds") dx [])) := fun b o e => by
    rw [upd_ne (ne_of_none e nx), upd_ne (ne_of_none e ndx)]
    exact e
  have hq : q ≠ x := by
    obtain ⟨_, _, _, hh, _⟩ := t
    exact ne_of_none hh nx
  refine ⟨_, _, _, _, rfl, x, dx, q, k, i, m, bs, ws, rfl, upd_same, rfl, hq, ex_mak ex t, rfl, rfl, zb, zw, zn, fun H' T dx' pb pw pg xs gs ts nT f r tt => ⟨rfl, ?_⟩⟩
  have nT' : H T = none := by
    cases hh : H T with
    | none => rfl
    | some o => rw [ex _ _ hh] at nT; cases nT
  exact h x T dx' pb pw pg xs gs ts H' (fun b o e => f b o (ne_of_none e nx) (ex b o e)) nT' r tt

end
section
/-! what Rounds tells -/
def btr (m : Bool) (i : Int) : Option Int → Bool
  | none => true
  | some j => if m = true then decide (j < i) else decide (i < j)
theorem btr_yes {m : Bool} {i j : Int} (h : btr m i (some j) = true) : bt m i j := by
  cases m
  · exact Int.le_of_lt (of_decide_eq_true h)
  · exact Int.le_of_lt (of_decide_eq_true h)
theorem btr_no {m : Bool} {i j : Int} (h : btr m i (some j) = false) : bt m j i := by
  cases m
  · exact Int.not_lt.mp (of_decide_eq_false h)
  · exact Int.not_lt.mp (of_decide_eq_false h)
abbrev spBetter (K : PySem.W.Frag) : Sp := sp3 fun x a b H Q _ => ∃ (p T dx pb pw pg : Addr) (xs gs : List V) (m : Bool) (it i : Int) (o : Option Int) (bs : List Dd) (ws : List (List Dd)), x = .ref p ∧ RdsAt K H p T dx pb pw pg xs gs m it bs ws ∧ a = .int i ∧ b = optV o ∧ Q (.bl (btr m i o)) H
abbrev N_Rounds_is_better : List Str := ["self", "one", "other"]
theorem sc_Rounds_is_better : FnScope N_Rounds_is_better ["self", "one", "other"] (defScope s_Rounds_is_better) := ⟨rfl, rfl, rfl, by decide +kernel, rfl, by decide +kernel, by decide +kernel⟩
theorem fx_Rounds_is_better {P : Program} {w : World} {K : PySem.W.Frag} {mg : Str → Option Value} {base : Heap} (E : Env P K mg) : ∃ fd, FunD K "is_better" "Rounds.is_better" (defArgs s_Rounds_is_better) (defBody s_Rounds_is_better) (defScope s_Rounds_is_better) (d_Rounds_is_better.dvs K) [] (d_Rounds_is_better.adr K) fd ∧ FnOk P w K mg base CX0 1 (d_Rounds_is_better.adr K) fd ["self", "one", "other"] (spBetter K) := by
  obtain ⟨fd, F⟩ := E.dd_Rounds_is_better
  refine ⟨fd, F, fnok0 F sc_Rounds_is_better sp3_len (fun cdv A outer s H vs Q X hr h => ?_)⟩
  have nd := sc_Rounds_is_better.nd
  obtain ⟨v0, v1, v2, rfl, h⟩ := h
  refine ⟨_, (pss_cons (ps_if (pt_cmpR xIs (pv 2) (pe_non) (nomark _))
   (pss_one (ps_ret (pe_bl)))
   pss_nil)
  (pss_one (ps_ret (pe_ifExp (kTru K (kFld K (pv 0) rfl) (by intro _; rfl)) (pe_cmpR op_gt (pv 1) (pv 2) (nomark _)) (pe_cmpR op_lt (pv 1) (pv 2) (nomark _)))))), ?_⟩
  change (_ : TS) _ [some v0, some v1, some v2] H
  try dsimp only [cxOf, Cx.nox, Cx.blk]
  obtain ⟨p, T, dx, pb, pw, pg, xs, gs, m, it, i, o, bs, ws, rfl, r, rfl, rfl, k⟩ := h
  walk_at "w"
  cases o with
  | none =>
    walk_at "w"
    exact k
  | some j =>
    walk_at "w"
    refine r_rMost E r ?_
    cases m with
    | true =>
      walk_at "w"
      show rI0 (fun i j => V.bl (decide (j < i))) (.int i) (.int j) H _
      walk_at "w"
      exact k
    | false =>
      walk_at "w"
      show rI0 (fun i j => V.bl (decide (i < j))) (.int i) (.int j) H _
      walk_at "w"
      exact k
theorem ok_Rounds_is_better {P : Program} {w : World} {K : PySem.W.Frag} {mg : Str → Option Value} {base : Heap} (E : Env P K mg) : Mt P w K mg base CX0 1 (He.ga K "Rounds") "is_better" (spBetter K) := by
  obtain ⟨fd, F, k⟩ := fx_Rounds_is_better (P := P) (w := w) (base := base) E
  exact ⟨_, fd, _, E.c_Rounds, E.m_Rounds_is_better, k, F.bindsN (fun _ _ _ _ _ _ us hl => match us, hl with | [_, _, _], _ => rfl)⟩
theorem ngs_sz {i : Int} {ws : List (List Dd)} (zw : ∀ w ∈ ws, w.length ≤ 50000) {q : Nat × Rd} (h : q ∈ ngs i ws) : 1 ≤ q.2.1.length ∧ q.2.1.length ≤ 50000 ∧ 0 ≤ q.2.2 ∧ q.2.2 ≤ 50000 := by
  obtain ⟨a, b, c⟩ := ngs_mem.mp h
  have z := zw _ (List.getElem_mem a)
  have e : ws.getD q.1 [] = ws[q.1] := by rw [List.getD_eq_getElem?_getD, List.getElem?_eq_getElem a]; rfl
  rw [e] at b
  have s := tkn_ok i ws[q.1]
  rw [← b] at s
  have c1 := s.ll
  have c2 := s.cl
  exact ⟨List.length_pos_iff.mpr c, by omega, s.c0, by omega⟩
abbrev spLasting (K : PySem.W.Frag) : Sp := sp1 fun x H Q _ => ∃ (p T dx pb pw pg : Addr) (xs gs : List V) (m : Bool) (i : Int) (bs : List Dd) (ws : List (List Dd)), x = .ref p ∧ RdsAt K H p T dx pb pw pg xs gs m i bs ws ∧ (∀ w ∈ ws, w.length ≤ 50000) ∧ gvs i ws ≠ [] ∧
  ∀ q b H', Ex H H' → SqT K H' q [.int (b : Rd).1.length, .int b.2] → Bst m (gvs i ws) b → Q (.ref q) H'
abbrev N_Rounds_lasting : List Str := ["self", "best", "way"]
theorem sc_Rounds_lasting : FnScope N_Rounds_lasting ["self"] (defScope s_Rounds_lasting) := ⟨rfl, rfl, rfl, by decide +kernel, rfl, by decide +kernel, by decide +kernel⟩
theorem fx_Rounds_lasting {P : Program} {w : World} {K : PySem.W.Frag} {mg : Str → Option Value} {base : Heap} (E : Env P K mg) : ∃ fd, FunD K "lasting" "Rounds.lasting" (defArgs s_Rounds_lasting) (defBody s_Rounds_lasting) (defScope s_Rounds_lasting) (d_Rounds_lasting.dvs K) [] (d_Rounds_lasting.adr K) fd ∧ FnOk P w K mg base CX0 2 (d_Rounds_lasting.adr K) fd ["self"] (spLasting K) := by
  obtain ⟨fd, F⟩ := E.dd_Rounds_lasting
  refine ⟨fd, F, fnok0 F sc_Rounds_lasting sp1_len (fun cdv A outer s H vs Q X hr h => ?_)⟩
  have nd := sc_Rounds_lasting.nd
  obtain ⟨v0, rfl, h⟩ := h
  refine ⟨_, (pss_cons (ps_set (i := 1) nd rfl (.inl rfl) (pe_non))
  (pss_cons (ps_for PassesOwn.never rfl (kSeq K (kFld K (pv 0) rfl)) (pg_name (i := 2) nd rfl (.inl rfl))
   (pss_one (ps_if (pt_cmpR xIs (pv 1) (pe_non) (nomark _))
   (pss_one (ps_set (i := 1) nd rfl (.inl rfl) (pv 2)))
   (pss_one (ps_if (kTru K (pmt (ok_Rounds_is_better E) hr (by decide) pass0 (pv 0) (pa_cons (pe_op (kMul K) (pe_ix (kIx K) (pv 2) (pe_int) (fun _ _ => rfl)) (pe_callB (kLen K) (by rfl) E.f_len (by decide +kernel) (pa_cons (pe_ix (kIx K) (pv 1) (pe_int) (fun _ _ => rfl)) pa_nil))) (pa_cons (pe_op (kMul K) (pe_ix (kIx K) (pv 1) (pe_int) (fun _ _ => rfl)) (pe_callB (kLen K) (by rfl) E.f_len (by decide +kernel) (pa_cons (pe_ix (kIx K) (pv 2) (pe_int) (fun _ _ => rfl)) pa_nil))) pa_nil))) (by intro _; rfl))
   (pss_one (ps_set (i := 1) nd rfl (.inl rfl) (pv 2)))
   pss_nil)))))
  (pss_one (ps_ret (pe_tup (pa_cons (pe_callB (kLen K) (by rfl) E.f_len (by decide +kernel) (pa_cons (pe_ix (kIx K) (pv 1) (pe_int) (fun _ _ => rfl)) pa_nil)) (pa_cons (pe_ix (kIx K) (pv 1) (pe_int) (fun _ _ => rfl)) pa_nil))))))), ?_⟩
  change (_ : TS) _ [some v0, none, none] H
  try dsimp only [cxOf, Cx.nox, Cx.blk]
  obtain ⟨p, T, dx, pb, pw, pg, xs, gs, m, i, bs, ws, rfl, r, zw, gn, k⟩ := h
  have gl := r.gl
  walk_at "w"
  refine i_seqL ?_
  walk_at "w"
  refine r_rGiving E r ?_
  refine i_xL (sq_of r.gg) ?_
  refine for_list (xs := gs) (Pv := fun j σ' H' => ∃ bv u, σ' = [some (.ref p), some bv, u] ∧ H' = H ∧ (j = 0 → bv = .non) ∧ (0 < j → ∃ n b, WyAt K H T bv n b ∧ (n, b) ∈ ngs i ws ∧ ∀ (idx : Nat) (q : Nat × Rd), idx < j → (ngs i ws)[idx]? = some q → bt m (b.2 * q.2.1.length) (q.2.2 * b.1.length))) ⟨_, _, rfl, rfl, fun _ => rfl, fun h => absurd h (Nat.lt_irrefl 0)⟩ (fun j σ' H' _ h => by obtain ⟨_, _, _, rfl, _⟩ := h; exact sq_of r.gg) ?_ ?_
  · rintro j v σ' H' hv ⟨bv, u, rfl, rfl, h0, h1⟩
    obtain ⟨qq, hq, wy⟩ := gl.get hv
    have hm : qq ∈ ngs i ws := List.mem_of_getElem? hq
    obtain ⟨s1, s2, s3, s4⟩ := ngs_sz zw hm
    obtain ⟨pt, pa, rfl, nea, sq, ga⟩ := id wy
    have ga := sq_of (K := K) ga
    rcases Nat.eq_zero_or_pos j with rfl | hj
    · obtain rfl := h0 rfl
      walk_at "w"
      refine ⟨_, _, rfl, rfl, fun h => absurd h (Nat.succ_ne_zero 0), fun _ => ⟨qq.1, qq.2, wy, hm, fun idx q hi hq' => ?_⟩⟩
      obtain rfl : idx = 0 := by omega
      rw [hq] at hq'
      cases hq'
      exact bt_refl _ _
    · obtain ⟨n, b, wb, hb, rate⟩ := h1 hj
      obtain ⟨t1, t2, t3, t4⟩ := ngs_sz zw hb
      obtain ⟨pt', pa', rfl, nea', sq', ga'⟩ := id wb
      have ga' := sq_of (K := K) ga'
      walk_at "w"
      refine r_meth r.ix rF_is_better ?_
      walk_at "w"
      refine ⟨_, _, _, rfl, p, T, dx, pb, pw, pg, xs, gs, m, i, _, some (b.2 * (qq.2.1.length : Int)), bs, ws, rfl, r, rfl, rfl, ?_⟩
      cases hb2 : btr m (qq.2.2 * (b.1.length : Int)) (some (b.2 * (qq.2.1.length : Int))) with
      | true =>
        walk_at "w"
        refine ⟨_, _, rfl, rfl, fun h => absurd h (Nat.succ_ne_zero _), fun _ => ⟨qq.1, qq.2, wy, hm, fun idx q hi hq' => ?_⟩⟩
        rcases Nat.lt_or_ge idx j with c | c
        · exact rate_trans (show 0 < b.1.length from t1) (btr_yes hb2) (rate idx q c hq')
        · obtain rfl : idx = j := by omega
          rw [hq] at hq'
          cases hq'
          exact bt_refl _ _
      | false =>
        walk_at "w"
        refine ⟨_, _, rfl, rfl, fun h => absurd h (Nat.succ_ne_zero _), fun _ => ⟨n, b, wb, hb, fun idx q hi hq' => ?_⟩⟩
        rcases Nat.lt_or_ge idx j with c | c
        · exact rate idx q c hq'
        · obtain rfl : idx = j := by omega
          rw [hq] at hq'
          cases hq'
          exact btr_no hb2
  rintro σ' H' ⟨bv, u, rfl, rfl, h0, h1⟩
  have l0 : 0 < gs.length := by
    rw [gl.1]
    exact List.length_pos_iff.mpr fun e => gn (ngs_nil.mp e)
  obtain ⟨n, b, wb, hb, rate⟩ := h1 l0
  obtain ⟨pt', pa', rfl, nea', sq', ga'⟩ := id wb
  have ga' := sq_of (K := K) ga'
  walk_at "w"
  intro q H2 n2 e2 g2
  refine k q b H2 e2 (st_of g2) ⟨ngs_gvs hb, fun w hw => ?_⟩
  obtain ⟨n', h'⟩ := gvs_ngs hw
  obtain ⟨idx, hi, he⟩ := List.getElem_of_mem h'
  have := rate idx _ (by rw [gl.1]; exact hi) (List.getElem?_eq_getElem hi)
  rw [he] at this
  exact this
theorem ok_Rounds_lasting {P : Program} {w : World} {K : PySem.W.Frag} {mg : Str → Option Value} {base : Heap} (E : Env P K mg) : Mt P w K mg base CX0 2 (He.ga K "Rounds") "lasting" (spLasting K) := by
  obtain ⟨fd, F, k⟩ := fx_Rounds_lasting (P := P) (w := w) (base := base) E
  exact ⟨_, fd, _, E.c_Rounds, E.m_Rounds_lasting, k, F.bindsN (fun _ _ _ _ _ _ us hl => match us, hl with | [_], _ => rfl)⟩
/-- the total for j gives -/
def tvl (os : List Tt) (j : Nat) : Option Int := match os[j]? with
  | some t => t.1
  | none => none
/-- totals as they should be -/
structure TOk (m : Bool) (i : Int) (ws : List (List Dd)) (os : List Tt) : Prop where
  one : 1 ≤ os.length
  ist : ∀ j, j < os.length → IsT m (gvs i ws) j (tvl os j)
  ch : ∀ (j : Nat) (t : Tt) (v : Int), os[j]? = some t → 0 < j → t.1 = some v → ∃ n w u, t.2 = some (n, w) ∧ (n, w) ∈ ngs i ws ∧ w.1.length ≤ j ∧ tvl os (j - w.1.length) = some u ∧ v = u + w.2
theorem tvl_at {os : List Tt} {j : Nat} {t : Tt} (h : os[j]? = some t) : tvl os j = t.1 := by unfold tvl; rw [h]
theorem tvl_some {os : List Tt} {j : Nat} {v : Int} (h : tvl os j = some v) : ∃ t, os[j]? = some t ∧ t.1 = some v := by
  unfold tvl at h
  cases e : os[j]? with
  | none => rw [e] at h; cases h
  | some t => rw [e] at h; exact ⟨t, rfl, h⟩
theorem tvl_app {os : List Tt} {t : Tt} {j : Nat} (h : j < os.length) : tvl (os ++ [t]) j = tvl os j := by
  unfold tvl
  rw [List.getElem?_append_left h]
theorem TOk.zero (m : Bool) (i : Int) (ws : List (List Dd)) : TOk m i ws [(some 0, none)] := by
  refine ⟨Nat.le_refl _, fun j hj => ?_, fun j t v h h0 => ?_⟩
  · obtain rfl : j = 0 := by simp at hj; omega
    exact .zero (gvs_pos i ws)
  · obtain ⟨d, rfl⟩ : ∃ d, j = d + 1 := ⟨j - 1, by omega⟩
    cases h
theorem TOk.snoc {m : Bool} {i : Int} {ws : List (List Dd)} {os : List Tt} {t : Tt} (h : TOk m i ws os) (a : IsT m (gvs i ws) os.length t.1)
    (b : ∀ v, t.1 = some v → ∃ n w u, t.2 = some (n, w) ∧ (n, w) ∈ ngs i ws ∧ w.1.length ≤ os.length ∧ tvl os (os.length - w.1.length) = some u ∧ v = u + w.2) : TOk m i ws (os ++ [t]) := by
  refine ⟨by rw [List.length_append]; exact Nat.le_add_left _ _, fun j hj => ?_, fun j t' v e h0 ev => ?_⟩
  · rw [List.length_append, List.length_singleton] at hj
    rcases Nat.lt_or_ge j os.length with c | c
    · rw [tvl_app c]; exact h.ist j c
    · obtain rfl : j = os.length := by omega
      rw [tvl_at (t := t) (by rw [List.getElem?_append_right (Nat.le_refl _), Nat.sub_self]; rfl)]
      exact a
  · have lj := (List.getElem?_eq_some_iff.mp e).1
    rw [List.length_append, List.length_singleton] at lj
    rcases Nat.lt_or_ge j os.length with c | c
    · rw [List.getElem?_append_left c] at e
      obtain ⟨n, w, u, h1, h2, h3, h4, h5⟩ := h.ch j t' v e h0 ev
      exact ⟨n, w, u, h1, h2, h3, by rw [tvl_app (by omega)]; exact h4, h5⟩
    · obtain rfl : j = os.length := by omega
      rw [List.getElem?_append_right (Nat.le_refl _), Nat.sub_self] at e
      cases e
      obtain ⟨n, w, u, h1, h2, h3, h4, h5⟩ := b v ev
      have l1 : 1 ≤ w.1.length := gvs_pos i ws _ (ngs_gvs h2)
      exact ⟨n, w, u, h1, h2, h3, by rw [tvl_app (by omega)]; exact h4, h5⟩
theorem cRd_snoc {i : Int} {ws : List (List Dd)} {N : List Int} {n : Nat} : cRd i ws (N ++ [(n : Int)]) = cRd i ws N ++ [tkn i (ws.getD n [])] := by
  unfold cRd
  rw [List.map_append]
  rfl
abbrev spRoundsTo (K : PySem.W.Frag) : Sp := sp2 fun x g H Q _ => ∃ (G : Hp) (zs : List V) (p T dx pb pw pg : Addr) (xs gs ts : List V) (os : List Tt) (m : Bool) (i : Int) (bs : List Dd) (ws : List (List Dd)) (n : Nat) (u : Int), x = .ref p ∧ g = .int n ∧ RdsAt K G p T dx pb pw pg xs gs m i bs ws ∧ G T = some (.lst zs) ∧ Fr T G H ∧ TotAt K G H T ts os ∧ TOk m i ws os ∧ n < os.length ∧ os.length ≤ 50000 ∧ tvl os n = some u ∧
  ∀ q H' ns, H q = none → Ex H H' → H' q = some (.lst (vI ns)) → okN ws ns → ns.length ≤ n → gsum (cRd i ws ns) = n → tsum (cRd i ws ns) = u → Of (gvs i ws) (cRd i ws ns) → Q (.ref q) H'
abbrev N_Rounds_rounds_to : List Str := ["self", "gives", "told", "way"]
theorem sc_Rounds_rounds_to : FnScope N_Rounds_rounds_to ["self", "gives"] (defScope s_Rounds_rounds_to) := ⟨rfl, rfl, rfl, by decide +kernel, rfl, by decide +kernel, by decide +kernel⟩
theorem fx_Rounds_rounds_to {P : Program} {w : World} {K : PySem.W.Frag} {mg : Str → Option Value} {base : Heap} (E : Env P K mg) : ∃ fd, FunD K "rounds_to" "Rounds.rounds_to" (defArgs s_Rounds_rounds_to) (defBody s_Rounds_rounds_to) (defScope s_Rounds_rounds_to) (d_Rounds_rounds_to.dvs K) [] (d_Rounds_rounds_to.adr K) fd ∧ FnOk P w K mg base CX0 1 (d_Rounds_rounds_to.adr K) fd ["self", "gives"] (spRoundsTo K) := by
  obtain ⟨fd, F⟩ := E.dd_Rounds_rounds_to
  refine ⟨fd, F, fnok0 F sc_Rounds_rounds_to sp2_len (fun cdv A outer s H vs Q X hr h => ?_)⟩
  have nd := sc_Rounds_rounds_to.nd
  obtain ⟨v0, v1, rfl, h⟩ := h
  refine ⟨_, (pss_cons (ps_set (i := 2) nd rfl (.inl rfl) (pe_lst (pa_nil)))
  (pss_cons (ps_while PassesOwn.never (pt_cmpR op_gt (pv 1) (pe_int) (nomark _))
   (pss_cons (ps_set (i := 3) nd rfl (.inl rfl) (pe_ix (kIx K) (pe_ix (kIx K) (kFld K (pv 0) rfl) (pv 1) (fun _ _ => rfl)) (pe_int) (fun _ _ => rfl)))
  (pss_cons (ps_expr (kBM K (pe_bm PySem.F.plainAttrs_list PySem.F.slot_list_append PySem.F.type_list_append mt_append (pv 2) (pa_cons (pe_ix (kIx K) (pv 3) (pe_int) (fun _ _ => rfl)) pa_nil))))
  (pss_one (ps_aug (i := 1) nd rfl (.inl rfl) (pe_callB (kLen K) (by rfl) E.f_len (by decide +kernel) (pa_cons (pe_ix (kIx K) (pv 3) (pe_int) (fun _ _ => rfl)) pa_nil)) ip_sub)))))
  (pss_one (ps_ret (pv 2))))), ?_⟩
  change (_ : TS) _ [some v0, some v1, none, none] H
  try dsimp only [cxOf, Cx.nox, Cx.blk]
  obtain ⟨G, zs, p, T, dx, pb, pw, pg, xs, gs, ts, os, m, i, bs, ws, n, u, rfl, rfl, r0, hG, fg, tt, ok, hn, zo, hu, k⟩ := h
  have r := r0.fr hG fg
  walk_at "w"
  intro q H1 n1 e1 g1
  walk_at "w"
  refine ⟨fun mm σ' H' => ∃ (g : Nat) (ns : List Int) (u' : Int) (z : Option V), σ' = [some (.ref p), some (.int g), some (.ref q), z] ∧ mm = g ∧ Ex H H' ∧ H' q = some (.lst (vI ns)) ∧ okN ws ns ∧ ns.length + g ≤ n ∧ gsum (cRd i ws ns) + g = n ∧ tvl os g = some u' ∧ tsum (cRd i ws ns) + u' = u ∧ Of (gvs i ws) (cRd i ws ns), ⟨n, n, [], u, none, rfl, rfl, e1, g1, fun _ h => absurd h List.not_mem_nil, Nat.le_of_eq (Nat.zero_add _), Nat.zero_add _, hu, Int.zero_add _, .nil⟩, ?_⟩
  rintro mm σ' H' ⟨g, ns, u', z, rfl, rfl, e, gq, oN, l1, l2, hg, hs, of⟩
  walk_at "w"
  rcases Nat.eq_zero_or_pos mm with rfl | h0
  · walk_at "w"
    have : some 0 = some u' := (IsT.zero (gvs_pos i ws)).uniq (by rw [← hg]; exact ok.ist 0 (by omega))
    cases this
    exact k q H' ns n1 e gq oN (by omega) l2 (by omega) of
  · obtain ⟨t, ht, ht1⟩ := tvl_some hg
    obtain ⟨n', w', u2, c1, c2, c3, c4, c5⟩ := ok.ch _ _ _ ht h0 ht1
    have c3 : w'.1.length ≤ mm := c3
    have lg : mm < ts.length := by rw [tt.tl.1]; exact (List.getElem?_eq_some_iff.mp ht).1
    obtain ⟨t', ht', a⟩ := tt.tl.get (List.getElem?_eq_getElem lg)
    rw [ht] at ht'
    cases ht'
    obtain ⟨pt, cv, ev, st0, _, a2⟩ := a
    have wy := (a2 n' w' c1).fr hG fg
    obtain ⟨py, pa, rfl, nea, sy0, ga0⟩ := wy
    have st := ex_t e st0
    have sy := ex_t e sy0
    have gT := sq_of (K := K) (e _ _ tt.gt)
    have r' := r.ex e
    walk_at "w"
    refine ⟨_, fun σ2 H2 h2 => h2, ?_⟩
    walk_at "w"
    refine r_rTotals E r' ?_
    walk_at "w"
    refine r_ixL gT (atI_pos (Int.natCast_nonneg _) (by rw [Int.toNat_natCast, List.getElem?_eq_getElem lg, ev])) ?_
    walk_at "w"
    refine r_app (K := K) gq (sz_lt (by rw [List.length_map]; omega)) ?_
    have eU : Ex H (upd H' q (.lst (vI ns ++ [.int (n' : Nat)]))) := Ex.mut e n1
    have gU : upd H' q (.lst (vI ns ++ [.int (n' : Nat)])) q = some (.lst (vI (ns ++ [(n' : Int)]))) := by
      rw [upd_same, vI, vI, List.map_append]
      rfl
    generalize upd H' q (.lst (vI ns ++ [.int (n' : Nat)])) = H2 at *
    have sy := ex_t eU sy0
    have ga := sq_of (K := K) (eU _ _ ga0)
    obtain ⟨b1, b2, b3⟩ := ngs_mem.mp c2
    have b2 : w' = tkn i (ws.getD n' []) := b2
    have l1w : 1 ≤ w'.1.length := gvs_pos i ws _ (ngs_gvs c2)
    walk_at "w"
    refine ⟨_, rfl, ?_⟩
    walk_at "w"
    refine ⟨_, _, rfl, rfl, ?_⟩
    try dsimp only [List.set]
    refine ⟨mm - w'.1.length, by omega, mm - w'.1.length, ns ++ [(n' : Int)], u2, _, by rw [show ((mm - w'.1.length : Nat) : Int) = (mm : Int) - w'.1.length by omega], rfl, eU, gU, okN_app oN (fun x hx => by rw [List.mem_singleton.mp hx]; exact ⟨by omega, by have : n' < ws.length := b1; omega⟩), ?_, ?_, c4, ?_, ?_⟩
    · rw [List.length_append, List.length_singleton]
      omega
    · rw [cRd_snoc, gsum_app, ← b2]
      show gsum (cRd i ws ns) + (w'.1.length + 0) + _ = n
      omega
    · rw [cRd_snoc, tsum_app, ← b2]
      show tsum (cRd i ws ns) + (w'.2 + 0) + _ = u
      omega
    · rw [cRd_snoc, ← b2]
      exact of.app (.cons (ngs_gvs c2) .nil)
theorem ok_Rounds_rounds_to {P : Program} {w : World} {K : PySem.W.Frag} {mg : Str → Option Value} {base : Heap} (E : Env P K mg) : Mt P w K mg base CX0 1 (He.ga K "Rounds") "rounds_to" (spRoundsTo K) := by
  obtain ⟨fd, F, k⟩ := fx_Rounds_rounds_to (P := P) (w := w) (base := base) E
  exact ⟨_, fd, _, E.c_Rounds, E.m_Rounds_rounds_to, k, F.bindsN (fun _ _ _ _ _ _ us hl => match us, hl with | [_, _], _ => rfl)⟩

end
section
/-! Rounds.fill -/
structure FI (m : Bool) (T : Nat → Option Int) (gl : List (Nat × Rd)) (N j : Nat) (o : Option Int) (ch : Option (Nat × Rd)) : Prop where
  lo : ∀ (idx : Nat) (q : Nat × Rd) (u : Int), idx < j → gl[idx]? = some q → q.2.1.length ≤ N → T (N - q.2.1.length) = some u → ∃ b, o = some b ∧ bt m b (u + q.2.2)
  no : o = none → ch = none
  hi : ∀ v, o = some v → ∃ n w u, ch = some (n, w) ∧ (n, w) ∈ gl ∧ w.1.length ≤ N ∧ T (N - w.1.length) = some u ∧ v = u + w.2
section
variable {m : Bool} {T : Nat → Option Int} {gl : List (Nat × Rd)} {N j : Nat} {o : Option Int} {ch : Option (Nat × Rd)} {q : Nat × Rd} {u : Int}
theorem FI.zero : FI m T gl N 0 none none := ⟨fun _ _ _ h => absurd h (Nat.not_lt_zero _), fun _ => rfl, fun v h => by cases h⟩
theorem FI.skip (h : FI m T gl N j o ch) (e : gl[j]? = some q) (c : q.2.1.length ≤ N → T (N - q.2.1.length) = none) : FI m T gl N (j + 1) o ch := by
  refine ⟨fun idx p u hi hp hl hT => ?_, h.no, h.hi⟩
  rcases Nat.lt_or_ge idx j with d | d
  · exact h.lo idx p u d hp hl hT
  · obtain rfl : idx = j := by omega
    rw [e] at hp
    cases hp
    rw [c hl] at hT
    cases hT
theorem FI.keep (h : FI m T gl N j o ch) (e : gl[j]? = some q) (hT : T (N - q.2.1.length) = some u) (b : btr m (u + q.2.2) o = false) : FI m T gl N (j + 1) o ch := by
  refine ⟨fun idx p u' hi hp hl hT' => ?_, h.no, h.hi⟩
  rcases Nat.lt_or_ge idx j with d | d
  · exact h.lo idx p u' d hp hl hT'
  · obtain rfl : idx = j := by omega
    rw [e] at hp
    cases hp
    rw [hT] at hT'
    cases hT'
    cases o with
    | none => cases b
    | some v => exact ⟨v, rfl, btr_no b⟩
theorem FI.take (h : FI m T gl N j o ch) (e : gl[j]? = some q) (l : q.2.1.length ≤ N) (hT : T (N - q.2.1.length) = some u) (b : btr m (u + q.2.2) o = true) : FI m T gl N (j + 1) (some (u + q.2.2)) (some q) := by
  refine ⟨fun idx p u' hi hp hl hT' => ⟨_, rfl, ?_⟩, fun h => (by cases h), fun v hv => ⟨q.1, q.2, u, rfl, List.mem_of_getElem? e, l, hT, (Option.some.inj hv).symm⟩⟩
  rcases Nat.lt_or_ge idx j with d | d
  · obtain ⟨v, rfl, hb⟩ := h.lo idx p u' d hp hl hT'
    exact bt_trans (btr_yes b) hb
  · obtain rfl : idx = j := by omega
    rw [e] at hp
    cases hp
    rw [hT] at hT'
    cases hT'
    exact bt_refl _ _
end
theorem FI.isT {m : Bool} {i : Int} {ws : List (List Dd)} {os : List Tt} {o : Option Int} {ch : Option (Nat × Rd)} (h : FI m (tvl os) (ngs i ws) os.length (ngs i ws).length o ch) (ok : TOk m i ws os) : IsT m (gvs i ws) os.length o := by
  have idx : ∀ w ∈ gvs i ws, ∃ (k n : Nat), k < (ngs i ws).length ∧ (ngs i ws)[k]? = some (n, w) := fun w hw => by
    obtain ⟨n, hn⟩ := gvs_ngs hw
    obtain ⟨k, hk, e⟩ := List.getElem_of_mem hn
    exact ⟨k, n, hk, by rw [List.getElem?_eq_getElem hk, e]⟩
  cases o with
  | none =>
    refine .none_ (T := tvl os) (gvs_pos i ws) ok.one (fun j hj => ok.ist j hj) fun v hv => ?_
    obtain ⟨w, hw, u, l, ht, rfl⟩ := hv
    obtain ⟨k, n, hk, e⟩ := idx w hw
    obtain ⟨b, hb, _⟩ := h.lo k _ u hk e l ht
    cases hb
  | some v =>
    obtain ⟨n, w, u, _, hm, l, ht, rfl⟩ := h.hi v rfl
    refine .some_ (T := tvl os) (gvs_pos i ws) ok.one (fun j hj => ok.ist j hj) ⟨w, ngs_gvs hm, u, l, ht, rfl⟩ fun x hx => ?_
    obtain ⟨w', hw', u', l', ht', rfl⟩ := hx
    obtain ⟨k, n', hk, e⟩ := idx w' hw'
    obtain ⟨b, hb, hbt⟩ := h.lo k _ u' hk e l' ht'
    cases hb
    exact hbt
theorem max_step {a b n : Nat} (h : a ≤ max b (n + 1)) (c : a ≤ n) : a + 1 ≤ max b (n + 1) := by omega
abbrev spFill (K : PySem.W.Frag) : Sp := sp2 fun x g H Q _ => ∃ (G : Hp) (zs : List V) (p T dx pb pw pg : Addr) (xs gs ts : List V) (os : List Tt) (m : Bool) (i : Int) (bs : List Dd) (ws : List (List Dd)) (n : Nat), x = .ref p ∧ g = .int n ∧ RdsAt K G p T dx pb pw pg xs gs m i bs ws ∧ G T = some (.lst zs) ∧ Fr T G H ∧ TotAt K G H T ts os ∧ TOk m i ws os ∧ (∀ w ∈ ws, w.length ≤ 50000) ∧ n ≤ 40000 ∧ os.length ≤ 40001 ∧
  ∀ H' ts' os', Fr T H H' → TotAt K G H' T ts' os' → TOk m i ws os' → n < os'.length → os'.length ≤ max os.length (n + 1) → Q .non H'
abbrev N_Rounds_fill : List Str := ["self", "gives", "best", "chosen", "way", "rest", "total"]
theorem sc_Rounds_fill : FnScope N_Rounds_fill ["self", "gives"] (defScope s_Rounds_fill) := ⟨rfl, rfl, rfl, by decide +kernel, rfl, by decide +kernel, by decide +kernel⟩
theorem fx_Rounds_fill {P : Program} {w : World} {K : PySem.W.Frag} {mg : Str → Option Value} {base : Heap} (E : Env P K mg) : ∃ fd, FunD K "fill" "Rounds.fill" (defArgs s_Rounds_fill) (defBody s_Rounds_fill) (defScope s_Rounds_fill) (d_Rounds_fill.dvs K) [] (d_Rounds_fill.adr K) fd ∧ FnOk P w K mg base CX0 2 (d_Rounds_fill.adr K) fd ["self", "gives"] (spFill K) := by
  obtain ⟨fd, F⟩ := E.dd_Rounds_fill
  refine ⟨fd, F, fnok0 F sc_Rounds_fill sp2_len (fun cdv A outer s H vs Q X hr h => ?_)⟩
  have nd := sc_Rounds_fill.nd
  obtain ⟨v0, v1, rfl, h⟩ := h
  refine ⟨_, (pss_one (ps_while PassesOwn.never (pt_cmpR op_le (pe_callB (kLen K) (by rfl) E.f_len (by decide +kernel) (pa_cons (kFld K (pv 0) rfl) pa_nil)) (pv 1) (nomark _))
   (pss_cons (ps_set (i := 2) nd rfl (.inl rfl) (pe_non))
  (pss_cons (ps_set (i := 3) nd rfl (.inl rfl) (pe_non))
  (pss_cons (ps_for PassesOwn.never rfl (kSeq K (kFld K (pv 0) rfl)) (pg_name (i := 4) nd rfl (.inl rfl))
   (pss_cons (ps_set (i := 5) nd rfl (.inl rfl) (pe_op xSub (pe_callB (kLen K) (by rfl) E.f_len (by decide +kernel) (pa_cons (kFld K (pv 0) rfl) pa_nil)) (pe_callB (kLen K) (by rfl) E.f_len (by decide +kernel) (pa_cons (pe_ix (kIx K) (pv 4) (pe_int) (fun _ _ => rfl)) pa_nil))))
  (pss_cons (ps_if (PW.pt (pw_or (pt_cmpR op_lt (pv 5) (pe_int) (nomark _)) (pw_or1 (pt_cmpR xIs (pe_ix (kIx K) (pe_ix (kIx K) (kFld K (pv 0) rfl) (pv 5) (fun _ _ => rfl)) (pe_int) (fun _ _ => rfl)) (pe_non) (nomark _)))))
   (pss_one (ps_continue))
   pss_nil)
  (pss_cons (ps_set (i := 6) nd rfl (.inl rfl) (pe_op (kAdd K) (pe_ix (kIx K) (pe_ix (kIx K) (kFld K (pv 0) rfl) (pv 5) (fun _ _ => rfl)) (pe_int) (fun _ _ => rfl)) (pe_ix (kIx K) (pv 4) (pe_int) (fun _ _ => rfl))))
  (pss_one (ps_if (kTru K (pmt (ok_Rounds_is_better E) hr (by decide) pass0 (pv 0) (pa_cons (pv 6) (pa_cons (pv 2) pa_nil))) (by intro _; rfl))
   (pss_cons (ps_set (i := 2) nd rfl (.inl rfl) (pv 6))
  (pss_one (ps_set (i := 3) nd rfl (.inl rfl) (pv 4))))
   pss_nil))))))
  (pss_one (ps_expr (kBM K (pe_bm PySem.F.plainAttrs_list PySem.F.slot_list_append PySem.F.type_list_append mt_append (kFld K (pv 0) rfl) (pa_cons (pe_tup (pa_cons (pv 2) (pa_cons (pv 3) pa_nil))) pa_nil)))))))))), ?_⟩
  change (_ : TS) _ [some v0, some v1, none, none, none, none, none] H
  try dsimp only [cxOf, Cx.nox, Cx.blk]
  obtain ⟨G, zs, p, T, dx, pb, pw, pg, xs, gs, ts0, os0, m, i, bs, ws, n, rfl, rfl, r0, hG, fg, tt0, ok0, zw, zn, zo0, k⟩ := h
  walk_at "w"
  refine ⟨fun mm σ' H' => ∃ (ts : List V) (os : List Tt) (b c w' r' t' : Option V), σ' = [some (.ref p), some (.int n), b, c, w', r', t'] ∧ mm = n + 1 - os.length ∧ Fr T H H' ∧ TotAt K G H' T ts os ∧ TOk m i ws os ∧ os.length ≤ max os0.length (n + 1), ⟨_, ts0, os0, _, _, _, _, _, rfl, rfl, Fr.refl _ _, tt0, ok0, Nat.le_max_left _ _⟩, ?_⟩
  rintro mm σ' H' ⟨ts, os, b, c, w', r', t', rfl, rfl, f, tt, ok, zo⟩
  have fG := fg.trans f
  have r := r0.fr hG fG
  have gT := sq_of (K := K) tt.gt
  have lt : ts.length = os.length := tt.tl.1
  walk_at "w"
  refine r_rTotals E r ?_
  walk_at "w"
  by_cases hc : os.length ≤ n
  · have hc' : (ts.length : Int) ≤ n := by omega
    walk_at "w"
    refine ⟨_, fun σ2 H2 h2 => h2, ?_⟩
    walk_at "w"
    refine i_seqL ?_
    walk_at "w"
    refine r_rGiving E r ?_
    refine i_xL (sq_of r.gg) ?_
    refine for_list (xs := gs) (Pv := fun j σ2 H2 => ∃ (o : Option Int) (cv : V) (ch : Option (Nat × Rd)) (w2 r2 t2 : Option V), σ2 = [some (.ref p), some (.int n), some (optV o), some cv, w2, r2, t2] ∧ H2 = H' ∧ (ch = none → cv = .non) ∧ (∀ n w, ch = some (n, w) → WyAt K G T cv n w) ∧ FI m (tvl os) (ngs i ws) os.length j o ch) ⟨none, .non, none, _, _, _, rfl, rfl, fun _ => rfl, fun n w h => (by cases h), .zero⟩ (fun j σ2 H2 _ h => by obtain ⟨_, _, _, _, _, _, _, rfl, _⟩ := h; exact sq_of r.gg) ?_ ?_
    · rintro j v σ2 H2 hv ⟨o, cv, ch, w2, r2, t2, rfl, rfl, c1, c2, fi⟩
      obtain ⟨qq, hq, wyG⟩ := r0.gl.get hv
      have wy := wyG.fr hG fG
      have hm : qq ∈ ngs i ws := List.mem_of_getElem? hq
      obtain ⟨s1, s2, s3, s4⟩ := ngs_sz zw hm
      obtain ⟨pt, pa, rfl, nea, sq, ga⟩ := id wy
      have ga := sq_of (K := K) ga
      walk_at "w"
      refine r_rTotals E r ?_
      walk_at "w"
      by_cases hl : qq.2.1.length ≤ os.length
      · have hl' : ¬ ((ts.length : Int) - qq.2.1.length < 0) := by omega
        walk_at "w"
        have ei : (ts.length : Int) - qq.2.1.length = ((os.length - qq.2.1.length : Nat) : Int) := by omega
        rw [ei]
        have lk : os.length - qq.2.1.length < ts.length := by have := ok.one; omega
        obtain ⟨t, ht, a⟩ := tt.tl.get (List.getElem?_eq_getElem lk)
        obtain ⟨pt2, cv2, ev2, st2, _, _⟩ := a
        rw [← tvl_at ht] at st2
        have ix : atI ts ((os.length - qq.2.1.length : Nat) : Int) = some (.ref pt2) := atI_pos (Int.natCast_nonneg _) (by rw [Int.toNat_natCast, List.getElem?_eq_getElem lk, ev2])
        refine r_rTotals E r ?_
        walk_at "w"
        refine r_ixL gT ix ?_
        walk_at "w"
        cases hT : tvl os (os.length - qq.2.1.length) with
        | none =>
          walk_at "w"
          exact ⟨o, cv, ch, _, _, _, rfl, rfl, c1, c2, fi.skip hq fun _ => hT⟩
        | some u =>
          rw [hT] at st2
          have st2 : SqT K H2 pt2 [.int u, cv2] := st2
          walk_at "w"
          refine r_rTotals E r ?_
          walk_at "w"
          refine r_ixL gT ix ?_
          walk_at "w"
          refine r_meth r.ix rF_is_better ?_
          walk_at "w"
          refine ⟨_, _, _, rfl, p, T, dx, pb, pw, pg, xs, gs, m, i, _, o, bs, ws, rfl, r, rfl, rfl, ?_⟩
          cases hb2 : btr m (u + qq.2.2) o with
          | true =>
            walk_at "w"
            exact ⟨some (u + qq.2.2), .ref pt, some qq, _, _, _, rfl, rfl, fun h => (by cases h), fun n w h => by cases h; exact wyG, fi.take hq hl hT hb2⟩
          | false =>
            walk_at "w"
            exact ⟨o, cv, ch, _, _, _, rfl, rfl, c1, c2, fi.keep hq hT hb2⟩
      · have hl' : (ts.length : Int) - qq.2.1.length < 0 := by omega
        walk_at "w"
        exact ⟨o, cv, ch, _, _, _, rfl, rfl, c1, c2, fi.skip hq fun h => absurd h hl⟩
    rintro σ2 H2 ⟨o, cv, ch, w2, r2, t2, rfl, rfl, c1, c2, fi⟩
    rw [r.gl.1] at fi
    walk_at "w"
    refine r_rTotals E r ?_
    walk_at "w"
    intro q H3 n3 e3 g3
    walk_at "w"
    refine r_app (K := K) (e3 _ _ tt.gt) (sz_lt (by omega)) ?_
    walk_at "w"
    have tt3 := tt.ex e3
    have F3 : Fr T H3 (upd H3 T (.lst (ts ++ [.ref q]))) := Fr.upd
    have a3 : TtAt K G H3 T (.ref q) (o, ch) := ⟨q, cv, rfl, st_of g3, c1, c2⟩
    refine ⟨n + 1 - (os.length + 1), by omega, ts ++ [.ref q], os ++ [(o, ch)], _, _, _, _, _, rfl, by rw [List.length_append]; rfl, (f.trans (Fr.of e3)).trans F3, ⟨upd_same, ?_⟩, ok.snoc (fi.isT ok) fi.hi, ?_⟩
    · exact (tt3.tl.snoc a3).map fun _ _ => .fr tt3.gt F3
    · rw [List.length_append]
      exact max_step zo hc
  · have hc' : ¬ ((ts.length : Int) ≤ n) := by omega
    walk_at "w"
    exact k H' ts os f tt ok (by omega) zo
theorem ok_Rounds_fill {P : Program} {w : World} {K : PySem.W.Frag} {mg : Str → Option Value} {base : Heap} (E : Env P K mg) : Mt P w K mg base CX0 2 (He.ga K "Rounds") "fill" (spFill K) := by
  obtain ⟨fd, F, k⟩ := fx_Rounds_fill (P := P) (w := w) (base := base) E
  exact ⟨_, fd, _, E.c_Rounds, E.m_Rounds_fill, k, F.bindsN (fun _ _ _ _ _ _ us hl => match us, hl with | [_, _], _ => rfl)⟩

end
section
/-! Rounds.last_round -/
theorem for_enumL {K : PySem.W.Frag} {a : Addr} {xs : List V} {g : TG} {tb : TS} {D : Ends} {σ : L2.St} {H : Hp} (Pv : Nat → L2.St → Hp → Prop) (h0 : Pv 0 σ H) (hl : ∀ i σ H, i ≤ xs.length → Pv i σ H → SqL K H a xs)
    (hs : ∀ i x σ H T, xs[i]? = some x → Pv i σ H → H T = none → g (.ref T) σ (upd H T (.tup [.int (i : Nat), x])) fun σ2 H2 => tb { D with nx := Pv (i + 1), ct := Pv (i + 1), bk := D.nx } σ2 H2) (hd : ∀ σ H, Pv xs.length σ H → D.nx σ H) : ForJ (Ite K a) g tb D σ H := by
  refine for_it (walk_enum (K := K) (a := a) (xs := xs)) Pv h0 hl ?_ hd
  rintro i v σ H H' hi p ⟨T, x, y, rfl, hT, rfl, hx, hy⟩
  cases hx
  exact hs i y σ H T hy p hT
theorem i_enumL {K : PySem.W.Frag} {ta : TA} {σ : L2.St} {H : Hp} {R : It → Hp → Prop} (h : ta σ H fun vs H1 => ∃ a xs, vs = [.ref a] ∧ SqL K H1 a xs ∧ R (Ite K a) H1) : iEnum K ta σ H R := h
/-- what is found: the value, gives of whole rounds ahead, the way -/
abbrev Fo := Option (Int × Nat × (Nat × Rd))
structure VI (m : Bool) (T : Nat → Option Int) (gl : List (Nat × Rd)) (tk : Int) (N j k : Nat) (fo : Fo) : Prop where
  lo : ∀ (idx kk : Nat) (q : Nat × Rd) (u : Int), (idx < j ∨ idx = j ∧ kk < k) → gl[idx]? = some q → kk < q.2.1.length → kk < N → T (N - kk - 1) = some u → ∃ b r, fo = some (b, r) ∧ bt m b (tk + u + gI q.2.1 kk)
  hi : ∀ v r q, fo = some (v, r, q) → q ∈ gl ∧ ∃ (kk : Nat) (u : Int), kk < q.2.1.length ∧ r + kk + 1 = N ∧ T r = some u ∧ v = tk + u + gI q.2.1 kk
section
variable {m : Bool} {T : Nat → Option Int} {gl : List (Nat × Rd)} {tk : Int} {N j k : Nat} {fo : Fo} {q : Nat × Rd} {u : Int}
theorem VI.zero : VI m T gl tk N 0 0 none := ⟨fun _ _ _ _ h => by omega, fun v r q h => by cases h⟩
theorem VI.next (h : VI m T gl tk N j k fo) (e : gl[j]? = some q) (c : q.2.1.length ≤ k) : VI m T gl tk N (j + 1) 0 fo := by
  refine ⟨fun idx kk p u hi hp hl hn hT => h.lo idx kk p u ?_ hp hl hn hT, h.hi⟩
  by_cases d : idx < j
  · exact .inl d
  · obtain rfl : idx = j := by omega
    rw [e] at hp
    cases hp
    exact .inr ⟨rfl, by omega⟩
theorem VI.skip (h : VI m T gl tk N j k fo) (c : k < N → T (N - k - 1) = none) : VI m T gl tk N j (k + 1) fo := by
  refine ⟨fun idx kk p u hi hp hl hn hT => ?_, h.hi⟩
  by_cases d : idx = j ∧ kk = k
  · obtain ⟨rfl, rfl⟩ := d
    rw [c hn] at hT
    cases hT
  · exact h.lo idx kk p u (by omega) hp hl hn hT
theorem VI.keep {x : Int} {r : Nat × (Nat × Rd)} (h : VI m T gl tk N j k (some (x, r))) (e : gl[j]? = some q) (hT : T (N - k - 1) = some u) (b : btr m (tk + u + gI q.2.1 k) (some x) = false) : VI m T gl tk N j (k + 1) (some (x, r)) := by
  refine ⟨fun idx kk p u' hi hp hl hn hT' => ?_, h.hi⟩
  by_cases d : idx = j ∧ kk = k
  · obtain ⟨rfl, rfl⟩ := d
    rw [hT] at hT'
    cases hT'
    rw [e] at hp
    cases hp
    exact ⟨x, r, rfl, btr_no b⟩
  · exact h.lo idx kk p u' (by omega) hp hl hn hT'
theorem VI.take (h : VI m T gl tk N j k fo) (e : gl[j]? = some q) (l : k < q.2.1.length) (ln : k < N) (hT : T (N - k - 1) = some u) (b : ∀ x r, fo = some (x, r) → btr m (tk + u + gI q.2.1 k) (some x) = true) : VI m T gl tk N j (k + 1) (some (tk + u + gI q.2.1 k, N - k - 1, q)) := by
  refine ⟨fun idx kk p u' hi hp hl hn hT' => ⟨_, _, rfl, ?_⟩, fun v r q' hv => ?_⟩
  · by_cases d : idx = j ∧ kk = k
    · obtain ⟨rfl, rfl⟩ := d
      rw [hT] at hT'
      cases hT'
      rw [e] at hp
      cases hp
      exact bt_refl _ _
    · obtain ⟨x, r, rfl, hb⟩ := h.lo idx kk p u' (by omega) hp hl hn hT'
      exact bt_trans (btr_yes (b x r rfl)) hb
  · cases hv
    exact ⟨List.mem_of_getElem? e, k, u, l, by omega, hT, rfl⟩
end
theorem VI.isV {m : Bool} {i : Int} {ws : List (List Dd)} {os : List Tt} {tk : Int} {N : Nat} {fo : Fo} (h : VI m (tvl os) (ngs i ws) tk N (ngs i ws).length 0 fo) (ok : TOk m i ws os) (hN : 1 ≤ N) (hl : N ≤ os.length) (gn : gvs i ws ≠ []) :
    ∃ v r q, fo = some (v, r, q) ∧ IsV m (gvs i ws) tk N v := by
  have idx : ∀ w ∈ gvs i ws, ∃ (k n : Nat), k < (ngs i ws).length ∧ (ngs i ws)[k]? = some (n, w) := fun w hw => by
    obtain ⟨n, hn⟩ := gvs_ngs hw
    obtain ⟨k, hk, e⟩ := List.getElem_of_mem hn
    exact ⟨k, n, hk, by rw [List.getElem?_eq_getElem hk, e]⟩
  have hT : ∀ j, j < N → IsT m (gvs i ws) j (tvl os j) := fun j hj => ok.ist j (by omega)
  obtain ⟨v0, hv0⟩ := exV (m := m) (tk := tk) (gvs_pos i ws) gn hN
  obtain ⟨⟨c, w, k, h1, h2, h3, h4, _⟩, _⟩ := hv0
  have ht := hT (gsum c) (by omega)
  cases e : tvl os (gsum c) with
  | none => rw [e] at ht; exact absurd rfl (ht c h1)
  | some u =>
    obtain ⟨kx, n, hk, he⟩ := idx w h2
    obtain ⟨b, r, rfl, _⟩ := h.lo kx k _ u (.inl hk) he h3 (by omega) (by rw [show N - k - 1 = gsum c by omega]; exact e)
    obtain ⟨hm, kk, u', l, e1, e2, rfl⟩ := h.hi b r.1 r.2 rfl
    refine ⟨_, r.1, r.2, rfl, .of (T := tvl os) hT ⟨r.2.2, ngs_gvs hm, kk, u', l, by omega, by rw [show N - kk - 1 = r.1 by omega]; exact e2, rfl⟩ fun x hx => ?_⟩
    obtain ⟨w', hw', k', u'', a1, a2, a3, rfl⟩ := hx
    obtain ⟨ky, n', hk', he'⟩ := idx w' hw'
    obtain ⟨b', r', eb, hb⟩ := h.lo ky k' _ u'' (.inl hk') he' a1 a2 a3
    cases eb
    exact hb
/-- the found thing in the heap -/
def FoAt (K : PySem.W.Frag) (H : Hp) (T : Addr) (v : V) : Fo → Prop
  | none => v = .non
  | some (x, r, q) => ∃ a wv, v = .ref a ∧ SqT K H a [.int x, .int (r : Nat), wv] ∧ WyAt K H T wv q.1 q.2
theorem FoAt.ex {K : PySem.W.Frag} {H H' : Hp} {T : Addr} {v : V} {fo : Fo} (e : Ex H H') (h : FoAt K H T v fo) : FoAt K H' T v fo := by
  cases fo with
  | none => exact h
  | some t =>
    obtain ⟨x, r, q⟩ := t
    obtain ⟨a, wv, h1, h2, h3⟩ := h
    exact ⟨a, wv, h1, ex_t e h2, h3.ex e⟩
abbrev spLast (K : PySem.W.Frag) : Sp := sp2 fun x g H Q _ => ∃ (G : Hp) (zs : List V) (p T dx pb pw pg : Addr) (xs gs ts : List V) (os : List Tt) (m : Bool) (i : Int) (bs : List Dd) (ws : List (List Dd)) (n : Nat), x = .ref p ∧ g = .int ((tkn i bs).1.length + n : Nat) ∧ RdsAt K G p T dx pb pw pg xs gs m i bs ws ∧ G T = some (.lst zs) ∧ Fr T G H ∧ TotAt K G H T ts os ∧ TOk m i ws os ∧ (∀ w ∈ ws, w.length ≤ 50000) ∧ gvs i ws ≠ [] ∧ 1 ≤ n ∧ n ≤ 40000 ∧ os.length ≤ 40001 ∧
  ∀ H' ts' os' q v r wv b k u, Fr T H H' → TotAt K G H' T ts' os' → TOk m i ws os' → os'.length ≤ max os.length (n + 1) → SqT K H' q [.int v, .int (r : Nat), wv] → WyAt K H' T wv (b : Nat × Rd).1 b.2 → b ∈ ngs i ws → IsV m (gvs i ws) (tkn i bs).2 n v → k < b.2.1.length → r + k + 1 = n → r < os'.length → tvl os' r = some u → v = (tkn i bs).2 + u + gI b.2.1 (k : Nat) → Q (.ref q) H'
abbrev N_Rounds_last_round : List Str := ["self", "piece", "wanted", "found", "way", "place", "taken", "rest", "value"]
theorem sc_Rounds_last_round : FnScope N_Rounds_last_round ["self", "piece"] (defScope s_Rounds_last_round) := ⟨rfl, rfl, rfl, by decide +kernel, rfl, by decide +kernel, by decide +kernel⟩
theorem fx_Rounds_last_round {P : Program} {w : World} {K : PySem.W.Frag} {mg : Str → Option Value} {base : Heap} (E : Env P K mg) : ∃ fd, FunD K "last_round" "Rounds.last_round" (defArgs s_Rounds_last_round) (defBody s_Rounds_last_round) (defScope s_Rounds_last_round) (d_Rounds_last_round.dvs K) [] (d_Rounds_last_round.adr K) fd ∧ FnOk P w K mg base CX0 3 (d_Rounds_last_round.adr K) fd ["self", "piece"] (spLast K) := by
  obtain ⟨fd, F⟩ := E.dd_Rounds_last_round
  refine ⟨fd, F, fnok0 F sc_Rounds_last_round sp2_len (fun cdv A outer s H vs Q X hr h => ?_)⟩
  have nd := sc_Rounds_last_round.nd
  obtain ⟨v0, v1, rfl, h⟩ := h
  refine ⟨_, (pss_cons (ps_set (i := 2) nd rfl (.inl rfl) (pe_op xSub (pv 1) (pe_callB (kLen K) (by rfl) E.f_len (by decide +kernel) (pa_cons (kFld K (pv 0) rfl) pa_nil))))
  (pss_cons (ps_expr (pmt (ok_Rounds_fill E) hr (by decide) pass0 (pv 0) (pa_cons (pv 2) pa_nil)))
  (pss_cons (ps_set (i := 3) nd rfl (.inl rfl) (pe_non))
  (pss_cons (ps_for PassesOwn.never rfl (kSeq K (kFld K (pv 0) rfl)) (pg_name (i := 4) nd rfl (.inl rfl))
   (pss_one (ps_for PassesOwn.never rfl (pi_enum (by rfl) E.f_enumerate (pa_cons (pe_ix (kIx K) (pv 4) (pe_int) (fun _ _ => rfl)) pa_nil)) (kGtup K rfl (pgs_cons (pg_name (i := 5) nd rfl (.inl rfl)) (pgs_cons (pg_name (i := 6) nd rfl (.inl rfl)) (pgs_nil))))
   (pss_cons (ps_set (i := 7) nd rfl (.inl rfl) (pe_op xSub (pe_op xSub (pv 2) (pv 5)) (pe_int)))
  (pss_cons (ps_if (PW.pt (pw_or (pt_cmpR op_lt (pv 7) (pe_int) (nomark _)) (pw_or1 (pt_cmpR xIs (pe_ix (kIx K) (pe_ix (kIx K) (kFld K (pv 0) rfl) (pv 7) (fun _ _ => rfl)) (pe_int) (fun _ _ => rfl)) (pe_non) (nomark _)))))
   (pss_one (ps_continue))
   pss_nil)
  (pss_cons (ps_set (i := 8) nd rfl (.inl rfl) (pe_op (kAdd K) (pe_op (kAdd K) (kFld K (pv 0) rfl) (pe_ix (kIx K) (pe_ix (kIx K) (kFld K (pv 0) rfl) (pv 7) (fun _ _ => rfl)) (pe_int) (fun _ _ => rfl))) (pv 6)))
  (pss_one (ps_if (PW.pt (pw_or (pt_cmpR xIs (pv 3) (pe_non) (nomark _)) (pw_or1 (kTru K (pmt (ok_Rounds_is_better E) hr (by decide) pass0 (pv 0) (pa_cons (pv 8) (pa_cons (pe_ix (kIx K) (pv 3) (pe_int) (fun _ _ => rfl)) pa_nil))) (by intro _; rfl)))))
   (pss_one (ps_set (i := 3) nd rfl (.inl rfl) (pe_tup (pa_cons (pv 8) (pa_cons (pv 7) (pa_cons (pv 4) pa_nil))))))
   pss_nil))))))))
  (pss_one (ps_ret (pv 3))))))), ?_⟩
  change (_ : TS) _ [some v0, some v1, none, none, none, none, none, none, none] H
  try dsimp only [cxOf, Cx.nox, Cx.blk]
  obtain ⟨G, zs, p, T, dx, pb, pw, pg, xs, gs, ts0, os0, m, i, bs, ws, n, rfl, rfl, rG, hG, fg, tt0, ok0, zw, gn, n1, zn, zo0, k⟩ := h
  have r0 := rG.fr hG fg
  walk_at "w"
  refine r_rBegun E r0 ?_
  have gb := sq_of (K := K) r0.gb
  walk_at "w"
  have ew : (((tkn i bs).1.length + n : Nat) : Int) - (tkn i bs).1.length = (n : Int) := by omega
  rw [ew]
  refine r_meth r0.ix rF_fill ?_
  walk_at "w"
  refine ⟨_, _, rfl, G, zs, p, T, dx, pb, pw, pg, xs, gs, ts0, os0, m, i, bs, ws, n, rfl, rfl, rG, hG, fg, tt0, ok0, zw, zn, zo0, fun H1 ts os f tt ok l1 l2 => ?_⟩
  have r := r0.fr tt0.gt f
  have gT := tt.gt
  have lt : ts.length = os.length := tt.tl.1
  clear gb
  walk_at "w"
  refine i_seqL ?_
  walk_at "w"
  refine r_rGiving E r ?_
  refine i_xL (sq_of r.gg) ?_
  refine for_list (xs := gs) (Pv := fun j σ2 H2 => ∃ (fv : V) (fo : Fo) (a b c d e : Option V), σ2 = [some (.ref p), some (.int ((tkn i bs).1.length + n : Nat)), some (.int n), some fv, a, b, c, d, e] ∧ Ex H1 H2 ∧ FoAt K H2 T fv fo ∧ VI m (tvl os) (ngs i ws) (tkn i bs).2 n j 0 fo) ⟨.non, none, _, _, _, _, _, rfl, Ex.refl _, rfl, .zero⟩ (fun j σ2 H2 _ h => by obtain ⟨_, _, _, _, _, _, _, _, e, _⟩ := h; exact sq_of (e _ _ r.gg)) ?_ ?_
  · rintro j v σ2 H2 hv ⟨fv, fo, a, b, c, d, e', rfl, e, fa, vi⟩
    obtain ⟨qq, hq, wy⟩ := r.gl.get hv
    have hm : qq ∈ ngs i ws := List.mem_of_getElem? hq
    obtain ⟨s1, s2, s3, s4⟩ := ngs_sz zw hm
    have wy2 := wy.ex e
    obtain ⟨pt, pa, rfl, nea, sq, ga⟩ := id wy2
    have ga1 := sq_of (K := K) ga
    walk_at "w"
    refine i_enumL ?_
    walk_at "w"
    refine ⟨pa, vI qq.2.1, rfl, ga1, ?_⟩
    refine for_enumL (Pv := fun kk σ3 H3 => ∃ (fv : V) (fo : Fo) (b c d e : Option V), σ3 = [some (.ref p), some (.int ((tkn i bs).1.length + n : Nat)), some (.int n), some fv, some (.ref pt), b, c, d, e] ∧ Ex H2 H3 ∧ FoAt K H3 T fv fo ∧ VI m (tvl os) (ngs i ws) (tkn i bs).2 n j kk fo) ⟨fv, fo, _, _, _, _, rfl, Ex.refl _, fa, vi⟩ (fun kk σ3 H3 _ h => by obtain ⟨_, _, _, _, _, _, _, e, _⟩ := h; exact sq_of (e _ _ ga)) ?_ ?_
    · rintro kk x σ3 H3 Tx hx ⟨fv, fo, b, c, d, e', rfl, e3, fa, vi⟩ nT
      have hkk : kk < qq.2.1.length := by
        have := (List.getElem?_eq_some_iff.mp hx).1
        rwa [List.length_map] at this
      obtain rfl : x = .int (gI qq.2.1 (kk : Nat)) := by
        rw [List.getElem?_map, gI_get hkk] at hx
        exact (Option.some.inj hx).symm
      have eT : Ex H3 (upd H3 Tx (.tup [.int (kk : Nat), .int (gI qq.2.1 (kk : Nat))])) := Ex.new nT
      have sT : SqT K (upd H3 Tx (.tup [.int (kk : Nat), .int (gI qq.2.1 (kk : Nat))])) Tx [.int (kk : Nat), .int (gI qq.2.1 (kk : Nat))] := st_of upd_same
      have fa := fa.ex eT
      have e4 := e3.trans eT
      generalize upd H3 Tx (.tup [.int (kk : Nat), .int (gI qq.2.1 (kk : Nat))]) = H4 at *
      have r4 := (r.ex e).ex e4
      have gT4 := sq_of (K := K) (e4 _ _ (e _ _ gT))
      have wy4 := wy2.ex e4
      clear e3 eT
      walk_at "w"
      by_cases hl : kk < n
      · have ei : (n : Int) - (kk : Nat) - 1 = ((n - kk - 1 : Nat) : Int) := by omega
        rw [ei]
        have hn0 : ¬ (((n - kk - 1 : Nat) : Int) < 0) := by omega
        have lk : n - kk - 1 < ts.length := by omega
        obtain ⟨t, ht, a⟩ := tt.tl.get (List.getElem?_eq_getElem lk)
        obtain ⟨pt2, cv2, ev2, st2, _, _⟩ := a
        rw [← tvl_at ht] at st2
        have st2 := ex_t e4 (ex_t e st2)
        have ix : atI ts ((n - kk - 1 : Nat) : Int) = some (.ref pt2) := atI_pos (Int.natCast_nonneg _) (by rw [Int.toNat_natCast, List.getElem?_eq_getElem lk, ev2])
        walk_at "w"
        refine r_rTotals E r4 ?_
        walk_at "w"
        refine r_ixL gT4 ix ?_
        walk_at "w"
        cases hT : tvl os (n - kk - 1) with
        | none =>
          walk_at "w"
          exact ⟨fv, fo, _, _, _, _, rfl, e4, fa, vi.skip fun _ => hT⟩
        | some u =>
          rw [hT] at st2
          have st2 : SqT K H4 pt2 [.int u, cv2] := st2
          walk_at "w"
          refine r_rTaken E r4 ?_
          walk_at "w"
          refine r_rTotals E r4 ?_
          walk_at "w"
          refine r_ixL gT4 ix ?_
          walk_at "w"
          cases fo with
          | none =>
            obtain rfl : fv = .non := fa
            walk_at "w"
            intro q5 H5 n5 e5 g5
            walk_at "w"
            refine ⟨_, some _, _, _, _, _, rfl, e4.trans e5, ⟨q5, .ref pt, rfl, st_of g5, wy4.ex e5⟩, vi.take hq hkk hl hT fun x r h => (by cases h)⟩
          | some t =>
            obtain ⟨x0, rr, qq0⟩ := t
            obtain ⟨af, wv, rfl, sf, wf⟩ := id fa
            walk_at "w"
            refine r_meth r4.ix rF_is_better ?_
            walk_at "w"
            refine ⟨_, _, _, rfl, p, T, dx, pb, pw, pg, xs, gs, m, i, _, some x0, bs, ws, rfl, r4, rfl, rfl, ?_⟩
            cases hb2 : btr m ((tkn i bs).2 + u + gI qq.2.1 (kk : Nat)) (some x0) with
            | true =>
              walk_at "w"
              intro q5 H5 n5 e5 g5
              walk_at "w"
              refine ⟨_, some _, _, _, _, _, rfl, e4.trans e5, ⟨q5, .ref pt, rfl, st_of g5, wy4.ex e5⟩, vi.take hq hkk hl hT fun x r h => ?_⟩
              cases h
              exact hb2
            | false =>
              walk_at "w"
              exact ⟨_, some (x0, rr, qq0), _, _, _, _, rfl, e4, fa, vi.keep hq hT hb2⟩
      · have hn0 : (n : Int) - (kk : Nat) - 1 < 0 := by omega
        walk_at "w"
        exact ⟨fv, fo, _, _, _, _, rfl, e4, fa, vi.skip fun h => absurd h hl⟩
    rintro σ3 H3 ⟨fv, fo, b, c, d, e', rfl, e3, fa, vi⟩
    walk_at "w"
    exact ⟨fv, fo, _, _, _, _, _, rfl, e.trans e3, fa, vi.next hq (Nat.le_of_eq (List.length_map ..).symm)⟩
  rintro σ2 H2 ⟨fv, fo, a, b, c, d, e', rfl, e, fa, vi⟩
  rw [r.gl.1] at vi
  obtain ⟨v, rr, q, rfl, iv⟩ := vi.isV ok n1 (by omega) gn
  obtain ⟨af, wv, rfl, sf, wf⟩ := fa
  obtain ⟨hm, kk, u, c1, c2, c3, c4⟩ := vi.hi v rr q rfl
  walk_at "w"
  exact k H2 ts os af v rr wv q kk u (f.trans (Fr.of e)) (tt.ex e) ok l2 sf wf hm iv c1 c2 (by omega) c3 c4
theorem ok_Rounds_last_round {P : Program} {w : World} {K : PySem.W.Frag} {mg : Str → Option Value} {base : Heap} (E : Env P K mg) : Mt P w K mg base CX0 3 (He.ga K "Rounds") "last_round" (spLast K) := by
  obtain ⟨fd, F, k⟩ := fx_Rounds_last_round (P := P) (w := w) (base := base) E
  exact ⟨_, fd, _, E.c_Rounds, E.m_Rounds_last_round, k, F.bindsN (fun _ _ _ _ _ _ us hl => match us, hl with | [_, _], _ => rfl)⟩

end
section
/-! the least and the greatest needs -/
theorem stn_val {k : Nat} {s : List Int × Int} (S : Stn k s) (z : k ≤ 50000) : Val s.1 [] 0 := by
  have l := S.ll
  exact ⟨fun n hn => (S.lo n hn).1, fun n h => absurd h List.not_mem_nil, S.ri, fun i hi => absurd hi (by simp), Int.le_refl _, fun _ => rfl, fun _ c => absurd rfl c, fun c => absurd rfl c, ⟨by decide, by decide, by omega, show 0 ≤ 50000 by decide⟩⟩
theorem tv_end (h : List Int) : TV h [] 0 = fun j => h[j]? := funext fun j => if_pos rfl
theorem gvs_sz {k i : Int} {b : List Dd} {ws : List (List Dd)} (ok : MkOk k b ws) (one : ws.length ≠ 1) {w : Rd} (h : w ∈ gvs i ws) : 1 ≤ w.1.length ∧ w.1.length ≤ 24 ∧ 0 ≤ w.2 ∧ w.2 ≤ 24 := by
  obtain ⟨⟨x, hx, rfl⟩, c⟩ := gvs_mem.mp h
  have z := ok.zw x hx
  rw [if_neg one] at z
  have s := tkn_ok i x
  have c1 := s.ll
  have c2 := s.cl
  exact ⟨List.length_pos_iff.mpr c, by omega, s.c0, by omega⟩
/-- a row of best needs makes the table -/
theorem xt_tab {m : Bool} {i : Int} {bs : List Dd} {ws : List (List Dd)} {b : Rd} {L c : Nat} {xs : List Int} (one : ws.length ≠ 1) (gn : gvs i ws ≠ []) (ns : ¬ (m = true ∧ stopsP i ws)) (B : Bst m (gvs i ws) b) (hL : ∀ w ∈ gvs i ws, w.1.length ≤ L)
    (hc : (tkn i bs).1.length + b.1.length * L ≤ c) (hx : xs = (List.range (c + b.1.length)).map (exF m (tkn i bs) (gvs i ws))) (zc : c ≤ 50000) (zb : b.1.length ≤ 50000) (zr : b.2 < 1152921504606846976) :
    Val (xs.take c) (xs.drop c) b.2 ∧ Pl (xtV m i bs ws) (plainF (xs.take c) (xs.drop c) b.2).1 (plainF (xs.take c) (xs.drop c) b.2).2.1 (plainF (xs.take c) (xs.drop c) b.2).2.2 := by
  have P := gvs_pos i ws
  obtain ⟨V, n0, F⟩ := val_of (f := exF m (tkn i bs) (gvs i ws)) (xs := xs) (c := c) (s := b.1.length) (d := b.2) (exF_nn (tkn_ok i bs) (gvs_ok i ws) P gn) (exF_up (tkn_ok i bs) (gvs_ok i ws) P gn) (P b B.mem)
    (fun j hj => exF_per B P hL gn (by omega)) (by rw [hx, List.length_map, List.length_range]) (fun k hk => by rw [hx]; exact gI_map_range hk) zc zb zr
  refine ⟨V, ?_⟩
  have p := Pl.of V
  refine ⟨p.val, p.pf, fun j => (p.tv j).trans ?_⟩
  rw [xtV_on one fun h => h.elim gn ns]
  unfold TV
  rw [if_neg n0, F]
theorem exF_bg {m : Bool} {bg : Rd} {gv : List Rd} : (List.range bg.1.length).map (exF m bg gv) = bg.1 :=
  List.ext_getElem (by rw [List.length_map, List.length_range]) fun k h1 h2 => by
    rw [List.getElem_map, List.getElem_range, exF_lo h2]
    exact Option.some.inj ((gI_get h2).symm.trans (List.getElem?_eq_getElem h2))
theorem fr_upn {T pv : Addr} {G W : Hp} {o : HO} (n : G pv = none) (f : Fr T G W) : Fr T G (upd W pv o) := fun b u nb hb => by rw [upd_ne (ne_of_none hb n)]; exact f b u nb hb
theorem TtAt.tex {K : PySem.W.Frag} {G H H' : Hp} {D : Addr} {v : V} {t : Tt} (e : TEx H H') (h : TtAt K G H D v t) : TtAt K G H' D v t := by
  obtain ⟨p, cv, e1, s, a, b⟩ := h
  exact ⟨p, cv, e1, tex_t e s, a, b⟩
abbrev spExtr (K : PySem.W.Frag) : Sp := sp3 fun a b c H Q _ => ∃ (p : Addr) (k i : Int) (m : Bool) (bs : List Dd) (ws : List (List Dd)), a = .ref p ∧ b = .int i ∧ c = .bl m ∧ MakAt K H p k bs ws ∧ MkOk k bs ws ∧ 0 ≤ i ∧ i < k ∧ ∀ t H2 h l r, Ex H H2 → TabAt K H2 t h l r → Pl (xtV m i bs ws) h l r → Q (.ref t) H2
abbrev spLeast (K : PySem.W.Frag) : Sp := sp2 fun a b H Q _ => ∃ (p : Addr) (k i : Int) (bs : List Dd) (ws : List (List Dd)), a = .ref p ∧ b = .int i ∧ MakAt K H p k bs ws ∧ MkOk k bs ws ∧ 0 ≤ i ∧ i < k ∧ ∀ t H2 h l r, Ex H H2 → TabAt K H2 t h l r → Pl (xtV false i bs ws) h l r → Q (.ref t) H2
abbrev N_extreme : List Str := ["maker", "inlet", "most", "rounds", "many", "rise", "longest", "cut", "values", "way"]
theorem sc_extreme : FnScope N_extreme ["maker", "inlet", "most"] (defScope s_extreme) := ⟨rfl, rfl, rfl, by decide +kernel, rfl, by decide +kernel, by decide +kernel⟩
theorem ok_extreme {P : Program} {w : World} {K : PySem.W.Frag} {mg : Str → Option Value} {base : Heap} (E : Env P K mg) : Fn P w K mg base CX0 13 "extreme" (spExtr K) := by
  obtain ⟨fd, F⟩ := E.dd_extreme
  refine Fn.mk0 F E.g_extreme sc_extreme sp3_len (fun _ _ _ _ _ _ us hl => match us, hl with | [_, _, _], _ => rfl) (fun cdv A outer s H vs Q X hr h => ?_)
  have nd := sc_extreme.nd
  obtain ⟨v0, v1, v2, rfl, h⟩ := h
  refine ⟨_, (pss_cons (ps_if (pt_cmpR (kEq K hr) (pe_callB (kLen K) (by rfl) E.f_len (by decide +kernel) (pa_cons (kFld K (pv 0) rfl) pa_nil)) (pe_int) (nomark _))
   (pss_one (ps_ret (pc (ok_need_on E) hr (by decide) pass0 rfl (pa_cons (pv 0) (pa_cons (pv 1) (pa_cons (pe_tup (pa_cons (pe_tup pa_nil) (pa_cons (pe_tup (pa_cons (pe_int) pa_nil)) pa_nil))) pa_nil))))))
   pss_nil)
  (pss_cons (ps_set (i := 3) nd rfl (.inl rfl) (pmk (ok_Rounds3 E) hr (by decide) pass0 rfl (pa_cons (pv 0) (pa_cons (pv 1) (pa_cons (pv 2) pa_nil)))))
  (pss_cut (ps_if (PW.pt (pw_or (pt_cmpR (kEq K hr) (pe_callB (kLen K) (by rfl) E.f_len (by decide +kernel) (pa_cons (kFld K (pv 3) rfl) pa_nil)) (pe_int) (nomark _)) (pw_or1 (PW.pt (pw_and (kTru K (pv 2) (by intro _; rfl)) (pw_and1 (kTru K (kFld K (pv 3) rfl) (by intro _; rfl))))))))
   (pss_one (ps_ret (pmk (ok_Table1 E) hr (by decide) pass0 rfl (pa_cons (kFld K (pv 3) rfl) pa_nil))))
   pss_nil)
  (pss_cons (ps_asg (pmt0 (ok_Rounds_lasting E) hr (by decide) pass0 (pv 3)) (kGtup K rfl (pgs_cons (pg_name (i := 4) nd rfl (.inl rfl)) (pgs_cons (pg_name (i := 5) nd rfl (.inl rfl)) (pgs_nil)))))
  (pss_cons (ps_set (i := 6) nd rfl (.inl rfl) (pe_callB (kMaxL K rfl) (by rfl) E.f_max (by decide +kernel) (pa_cons (pe_lc (own := [("way", 9)]) (g := gName 9) (tt := tYes) rfl nd (kSeq K (kFld K (pv 3) rfl)) (blkOk_by (N := N_extreme) (sc := defScope s_extreme) (by decide +kernel)) (fun _ _ _ _ _ => pg_name (i := 9) nd rfl (Or.inl rfl)) (fun _ _ _ _ _ => pts_nil) (fun _ _ _ _ _ => pe_callB (kLen K) (by rfl) E.f_len (by decide +kernel) (pa_cons (pe_ix (kIx K) (pv 9) (pe_int) (fun _ _ => rfl)) pa_nil))) pa_nil)))
  (pss_cons (ps_set (i := 7) nd rfl (.inl rfl) (pe_op (kAdd K) (pe_callB (kLen K) (by rfl) E.f_len (by decide +kernel) (pa_cons (kFld K (pv 3) rfl) pa_nil)) (pe_op (kMul K) (pe_op (kAdd K) (pv 4) (pe_int)) (pv 6))))
  (pss_cons (ps_set (i := 8) nd rfl (.inl rfl) (pe_callTy (kLst K) (by rfl) E.f_list (by decide +kernel) (pa_cons (kFld K (pv 3) rfl) pa_nil)))
  (pss_cons (ps_while PassesOwn.never (pt_cmpR op_lt (pe_callB (kLen K) (by rfl) E.f_len (by decide +kernel) (pa_cons (pv 8) pa_nil)) (pe_op (kAdd K) (pv 7) (pv 4)) (nomark _))
   (pss_one (ps_expr (kBM K (pe_bm PySem.F.plainAttrs_list PySem.F.slot_list_append PySem.F.type_list_append mt_append (pv 8) (pa_cons (pe_ix (kIx K) (pmt (ok_Rounds_last_round E) hr (by decide) pass0 (pv 3) (pa_cons (pe_op (kAdd K) (pe_callB (kLen K) (by rfl) E.f_len (by decide +kernel) (pa_cons (pv 8) pa_nil)) (pe_int)) pa_nil)) (pe_int) (fun _ _ => rfl)) pa_nil))))))
  (pss_one (ps_ret (pmk (ok_Table3 E) hr (by decide) pass0 rfl (pa_cons (pe_slice (kSl K) (pv 8) po_none (po_some (pv 7))) (pa_cons (pe_slice (kSl K) (pv 8) (po_some (pv 7)) po_none) (pa_cons (pv 5) pa_nil)))))))))))))), ?_⟩
  change (_ : TS) _ [some v0, some v1, some v2, none, none, none, none, none, none, none] H
  try dsimp only [cxOf, Cx.nox, Cx.blk]
  obtain ⟨p, k0, i, m, bs, ws, rfl, rfl, rfl, t, ok, i0, i1, k⟩ := h
  have z6 := ok.z6
  have zb := ok.zb
  have w4 := ok.w4
  walk_at "w"
  refine r_makWa E t fun am xm sm dm => ?_
  have zm : xm.length = ws.length := (dpAll_len dm).trans (List.length_map ..)
  walk_at "w"
  by_cases one : ws.length = 1
  · have one' : (xm.length : Int) = 1 := by omega
    walk_at "w"
    intro pe G1 _ e1 g1
    walk_at "w"
    intro pz G2 _ e2 g2
    walk_at "w"
    intro pc G3 _ e3 g3
    walk_at "w"
    obtain ⟨w', rfl⟩ : ∃ w', ws = [w'] := by
      match ws, one with
      | [w'], _ => exact ⟨w', rfl⟩
    have z1 := z6 w' List.mem_cons_self
    have zd : (bs ++ fl [w'] []).length ≤ 40000 := by
      show (bs ++ []).length ≤ _
      rw [List.append_nil]
      omega
    have za : (fl [w'] [0]).length ≤ 40000 := by
      show (w' ++ []).length ≤ _
      rw [List.append_nil]
      omega
    refine ⟨p, k0, bs, [w'], i, [], [0], rfl, ex_mak ((e1.trans e2).trans e3) t, rfl, i0, i1, ⟨pc, pe, pz, rfl, .inr (st_of g3), .inr (st_of (e3 _ _ (e2 _ _ g1))), .inr (st_of (e3 _ _ g2))⟩, ?_, ?_, by decide, by decide, by decide, zd, za, fun t H2 e4 T => k t H2 _ _ _ (((e1.trans e2).trans e3).trans e4) T ?_⟩
    · exact fun x hx => absurd hx List.not_mem_nil
    · intro x hx
      rw [List.mem_singleton.mp hx]
      exact ⟨by decide, by show (0 : Int) < ((1 : Nat) : Int); decide⟩
    · rw [xtV_one rfl]
      exact crs_pl zd za
  · have one' : ¬ ((xm.length : Int) = 1) := by omega
    walk_at "w"
    have zw : ∀ w ∈ ws, w.length ≤ 50000 := fun w hw => by have := z6 w hw; omega
    refine mk_rds t (by omega) zw (by omega) fun x T dx pb pw pg xs gs ts G eG nT rG tt => ?_
    have hG := tt.gt
    have zg := rG.gl.1
    have zl : (ngs i ws).length ≤ 4 := by
      have := List.length_filter_le (fun q : Nat × Rd => gives q.2) (nws i ws)
      rw [nws_len] at this
      show ((nws i ws).filter fun q => gives q.2).length ≤ 4
      omega
    have endK : (gvs i ws = [] ∨ (m = true ∧ stopsP i ws)) → ∀ tt' H2, Ex G H2 → TabAt K H2 tt' (tkn i bs).1 [] 0 → Q (.ref tt') H2 := fun c tt' H2 e2 T2 => k tt' H2 _ _ _ (eG.trans e2) T2 (by rw [xtV_end one c]; exact ⟨stn_val (tkn_ok i bs) (by omega), plainF_nil, fun j => by rw [tv_end]⟩)
    have vB : Val (tkn i bs).1 [] 0 := stn_val (tkn_ok i bs) (by omega)
    have gbG := sq_of (K := K) rG.gb
    have gg := sq_of (K := K) rG.gg
    walk_at "w"
    refine w_cut (M := fun σ' H' => σ' = [some (.ref p), some (.int i), some (.bl m), some (.ref x), none, none, none, none, none, none] ∧ G = H' ∧ gvs i ws ≠ [] ∧ ¬ (m = true ∧ stopsP i ws)) ?_ ?_
    · walk_at "w"
      refine r_rGiving E rG ?_
      walk_at "w"
      by_cases gn : gvs i ws = []
      · have g0 : (gs.length : Int) = 0 := by rw [zg, ngs_nil.mpr gn]; rfl
        walk_at "w"
        refine r_rBegun E rG ?_
        walk_at "w"
        refine mk_tab (b1 := false) (b2 := true) rfl (dp_of_intL gbG) (dp_of_ints (ns := []) (E.t0_Table _)) (.int 0) vB fun y H2 e2 T2 => ?_
        rw [plainF_nil] at T2
        walk_at "w"
        exact endK (.inl gn) y H2 e2 T2
      · have g0 : ¬ ((gs.length : Int) = 0) := by
          have := List.length_pos_iff.mpr fun e => gn (ngs_nil.mp e)
          omega
        walk_at "w"
        cases m with
        | false =>
          walk_at "w"
          exact ⟨rfl, rfl, gn, fun c => by cases c.1⟩
        | true =>
          walk_at "w"
          refine r_rStops E rG ?_
          cases st : (nws i ws).any fun q => q.2.1.isEmpty with
          | true =>
            walk_at "w"
            refine r_rBegun E rG ?_
            walk_at "w"
            refine mk_tab (b1 := false) (b2 := true) rfl (dp_of_intL gbG) (dp_of_ints (ns := []) (E.t0_Table _)) (.int 0) vB fun y H2 e2 T2 => ?_
            rw [plainF_nil] at T2
            walk_at "w"
            exact endK (.inr ⟨rfl, any_stop.mp st⟩) y H2 e2 T2
          | false =>
            walk_at "w"
            exact ⟨rfl, rfl, gn, fun c => by rw [any_stop.mpr c.2] at st; cases st⟩
    rintro σ' H' ⟨rfl, rfl, gn, ns⟩
    clear endK vB
    walk_at "w"
    refine r_meth rG.ix rF_lasting ?_
    walk_at "w"
    refine ⟨_, rfl, x, T, dx, pb, pw, pg, xs, gs, m, i, bs, ws, rfl, rG, zw, gn, fun q b H1 e1 sq B => ?_⟩
    obtain ⟨b1, b2, b3, b4⟩ := gvs_sz ok one B.mem
    have r1 := rG.ex e1
    have gg1 := ex_l e1 gg
    walk_at "w"
    refine i_seqL ?_
    walk_at "w"
    refine r_rGiving E r1 ?_
    refine i_xL gg1 ?_
    refine lcG_lst (xs := gs) (fun _ j acc W => Ex H1 W ∧ acc = vI (((ngs i ws).take j).map fun q => (q.2.1.length : Int))) (by omega) (fun v => [some (.ref p), some (.int i), some (.bl m), some (.ref x), some (.int b.1.length), some (.int b.2), none, none, none, some v]) (fun _ => rfl) (fun _ => rfl) (fun D nD => ⟨Ex.new nD, rfl⟩) (fun _ _ _ W c => ex_l c.1 gg1) ?_ ?_
    · rintro D j v acc W Q' nD gD _ hv ⟨e, rfl⟩ kk
      obtain ⟨qq, hq, pt, pa, rfl, nea, sq, ga⟩ := r1.gl.get hv
      have sq := ex_t e sq
      have ga := sq_of (K := K) (e _ _ ga)
      walk_at "w"
      refine kk _ _ gD ⟨Ex.mut e nD, ?_⟩
      rw [List.take_add_one, hq, List.map_append]
      show _ = List.map V.int _
      rw [List.map_append]
      rfl
    rintro D acc H2 nD ⟨e2, rfl⟩ gD _
    rw [zg, List.take_length] at gD
    walk_at "w"
    have zp : 0 < (ngs i ws).length := List.length_pos_iff.mpr fun e => gn (ngs_nil.mp e)
    refine r_maxL (sq_of gD) (by rw [List.length_map]; exact zp) fun L hm hx => ?_
    obtain ⟨Lq, rfl, hL, l1, l24⟩ : ∃ Lq : Nat, L = (Lq : Nat) ∧ (∀ w ∈ gvs i ws, w.1.length ≤ Lq) ∧ 1 ≤ Lq ∧ Lq ≤ 24 := by
      obtain ⟨qm, hq, rfl⟩ := List.mem_map.mp hm
      obtain ⟨y1, y2, _, _⟩ := gvs_sz ok one (ngs_gvs hq)
      refine ⟨qm.2.1.length, rfl, fun w hw => ?_, y1, y2⟩
      obtain ⟨n, hn⟩ := gvs_ngs hw
      have := hx _ (List.mem_map.mpr ⟨(n, w), hn, rfl⟩)
      dsimp only at this
      omega
    clear hx hm gD nD
    have r2 := r1.ex e2
    have gb2 := sq_of (K := K) r2.gb
    walk_at "w"
    refine r_rBegun E r2 ?_
    obtain ⟨c, hc⟩ : ∃ c : Nat, c = (tkn i bs).1.length + (b.1.length + 1) * Lq := ⟨_, rfl⟩
    have ec : ((tkn i bs).1.length : Int) + ((b.1.length : Int) + 1) * (Lq : Int) = (c : Nat) := by rw [hc, Int.natCast_add, Int.natCast_mul, Int.natCast_add]; rfl
    have zB := (tkn_ok i bs).ll
    have cz : (b.1.length + 1) * Lq ≤ 25 * 24 := Nat.mul_le_mul (by omega) l24
    have cb : (tkn i bs).1.length + b.1.length * Lq ≤ c := by rw [hc, Nat.succ_mul]; omega
    walk_at "w"
    rw [ec]
    refine r_rBegun E r2 ?_
    walk_at "w"
    intro pv H3 n3 e3 g3
    have e13 := (e1.trans e2).trans e3
    have nG : G pv = none := by
      cases hh : G pv with
      | none => rfl
      | some o => rw [(e1.trans e2) _ _ hh] at n3; cases n3
    have Tpv : T ≠ pv := ne_of_none hG nG
    have exH : ∀ {W : Hp}, Fr T G W → Ex H W := fun f b o hb => f b o (by rintro rfl; rw [nT] at hb; cases hb) (eG b o hb)
    walk_at "w"
    refine ⟨fun mm σ' W => ∃ (n : Nat) (ts' : List V) (os : List Tt), σ' = [some (.ref p), some (.int i), some (.bl m), some (.ref x), some (.int b.1.length), some (.int b.2), some (.int Lq), some (.int c), some (.ref pv), none] ∧ mm = c + b.1.length - n ∧ (tkn i bs).1.length ≤ n ∧ n ≤ c + b.1.length ∧ Fr T G W ∧ W pv = some (.lst (vI ((List.range n).map (exF m (tkn i bs) (gvs i ws))))) ∧ TotAt K G W T ts' os ∧ TOk m i ws os ∧ os.length ≤ 1000,
      ⟨_, (tkn i bs).1.length, ts, [(some 0, none)], rfl, rfl, Nat.le_refl _, by omega, Fr.of e13, by rw [exF_bg]; exact g3, tt.ex e13, .zero m i ws, by decide⟩, ?_⟩
    rintro mm σ' W ⟨n, ts', os, rfl, rfl, y1, y2, f, gv, tt', ok', zo⟩
    have rW := rG.fr hG f
    have gvl := sq_of (K := K) gv
    have lv : (vI ((List.range n).map (exF m (tkn i bs) (gvs i ws)))).length = n := by rw [List.length_map, List.length_map, List.length_range]
    walk_at "w"
    by_cases hlt : n < c + b.1.length
    · have hlt' : (n : Int) < (c : Int) + b.1.length := by omega
      walk_at "w"
      refine ⟨_, fun σ2 H2 h2 => h2, ?_⟩
      walk_at "w"
      refine r_meth rW.ix rF_last_round ?_
      walk_at "w"
      obtain ⟨n', en⟩ : ∃ n' : Nat, n + 1 = (tkn i bs).1.length + n' := ⟨n + 1 - (tkn i bs).1.length, by omega⟩
      have cz2 : c ≤ 1200 := by omega
      refine ⟨_, _, rfl, G, ts, x, T, dx, pb, pw, pg, xs, gs, ts', os, m, i, bs, ws, n', rfl, by rw [List.length_map, List.length_range]; congr 1; omega, rG, hG, f, tt', ok', zw, gn, by omega, by omega, by omega, fun H4 ts4 os4 q4 v4 r4 wv4 b4 k4 u4 f4 tt4 ok4 zo4 sq4 _ _ iv _ _ _ _ _ => ?_⟩
      have g4 := f4 _ _ Tpv.symm gv
      walk_at "w"
      refine r_app (K := K) g4 (sz_lt (by omega)) ?_
      walk_at "w"
      have ev : v4 = exF m (tkn i bs) (gvs i ws) n := by
        rw [exF_hi (by omega), show n - (tkn i bs).1.length + 1 = n' by omega]
        exact iv.uniq (Vf_ok (gvs_pos i ws) gn (by omega))
      subst ev
      refine ⟨c + b.1.length - (n + 1), by omega, n + 1, ts4, os4, rfl, rfl, by omega, by omega, fr_upn nG (f.trans f4), ?_, ⟨?_, ?_⟩, ok4, by omega⟩
      · rw [upd_same, List.range_succ, List.map_append]
        show _ = some (HO.lst (List.map V.int _))
        rw [List.map_append]
        rfl
      · rw [upd_ne Tpv]
        exact tt4.gt
      · exact tt4.tl.map fun _ _ => .tex (TEx.upd g4)
    · have hlt' : ¬ ((n : Int) < (c : Int) + b.1.length) := by omega
      obtain rfl : n = c + b.1.length := by omega
      walk_at "w"
      intro pa H4 n4 e4 g4
      walk_at "w"
      intro pb5 H5 n5 e5 g5
      walk_at "w"
      rw [Int.toNat_natCast] at g4 g5
      obtain ⟨V, pl⟩ := xt_tab one gn ns B hL cb rfl (by omega) (by omega) (by omega)
      refine mk_tab (b1 := false) (b2 := false) rfl (dp_of_intL (sq_of (e5 _ _ g4))) (dp_of_intL (sq_of g5)) (.int _) V fun y H6 e6 T6 => ?_
      exact k y H6 _ _ _ (fun b' o hb => ((e4.trans e5).trans e6) _ _ (exH f b' o hb)) T6 pl
abbrev N_least : List Str := ["maker", "inlet"]
theorem sc_least : FnScope N_least ["maker", "inlet"] (defScope s_least) := ⟨rfl, rfl, rfl, by decide +kernel, rfl, by decide +kernel, by decide +kernel⟩
theorem ok_least {P : Program} {w : World} {K : PySem.W.Frag} {mg : Str → Option Value} {base : Heap} (E : Env P K mg) : Fn P w K mg base CX0 14 "least" (spLeast K) := by
  obtain ⟨fd, F⟩ := E.dd_least
  refine Fn.mk0 F E.g_least sc_least sp2_len (fun _ _ _ _ _ _ us hl => match us, hl with | [_, _], _ => rfl) (fun cdv A outer s H vs Q X hr h => ?_)
  have nd := sc_least.nd
  obtain ⟨v0, v1, rfl, h⟩ := h
  refine ⟨_, (pss_cons (ps_expr (pc (ok_check_inlet E) hr (by decide) pass0 rfl (pa_cons (pv 0) (pa_cons (pv 1) pa_nil))))
  (pss_one (ps_ret (pc (ok_extreme E) hr (by decide) pass0 rfl (pa_cons (pv 0) (pa_cons (pv 1) (pa_cons (pe_bl) pa_nil))))))), ?_⟩
  change (_ : TS) _ [some v0, some v1] H
  try dsimp only [cxOf, Cx.nox, Cx.blk]
  obtain ⟨p, k0, i, bs, ws, rfl, rfl, t, ok, i0, i1, k⟩ := h
  walk_at "w"
  refine ⟨p, k0, bs, ws, i, rfl, t, rfl, i0, i1, fun H1 e1 => ?_⟩
  walk_at "w"
  exact ⟨p, k0, i, false, bs, ws, rfl, rfl, rfl, ex_mak e1 t, ok, i0, i1, fun t' H2 h l r e2 T pl => k t' H2 h l r (e1.trans e2) T pl⟩

end
section
/-! courses on which the needs are the best ones -/
abbrev spBestC (K : PySem.W.Frag) : Sp := sp4 fun a b c d H Q _ => ∃ (p : Addr) (k i : Int) (m : Bool) (bs : List Dd) (ws : List (List Dd)) (n : Nat), a = .ref p ∧ b = .int i ∧ c = .int ((n : Int) + 1) ∧ d = .bl m ∧ MakAt K H p k bs ws ∧ MkOk k bs ws ∧ 0 ≤ i ∧ i < k ∧ n < 2000 ∧
  ∀ c' p' q' ns n' H2, Ex H H2 → SqT K H2 c' [.ref p', .ref q'] → SqT K H2 p' (vI ns) → SqT K H2 q' (vI [n']) → okN ws ns → okN ws [n'] → ns.length ≤ n → crsV i bs ws ns [n'] n = xtV m i bs ws n → Q (.ref c') H2
theorem okN_zero {ws : List (List Dd)} (h : 1 ≤ ws.length) : okN ws [0] := fun x hx => by
  rw [List.mem_singleton.mp hx]
  exact ⟨by decide, by omega⟩
theorem okN_one {ws : List (List Dd)} {n : Nat} (h : n < ws.length) : okN ws [(n : Int)] := fun x hx => by
  rw [List.mem_singleton.mp hx]
  exact ⟨Int.natCast_nonneg _, by omega⟩
theorem okN_nil {ws : List (List Dd)} : okN ws [] := fun _ h => absurd h List.not_mem_nil
/-- where the beginning tells, or no way gives -/
theorem xt_begin {m : Bool} {i : Int} {bs : List Dd} {ws : List (List Dd)} {n : Nat} (w1 : 1 ≤ ws.length) (c : n < (tkn i bs).1.length ∨ gvs i ws = []) : crsV i bs ws [] [0] n = xtV m i bs ws n := by
  by_cases one : ws.length = 1
  · rw [xtV_one one]
  · by_cases g : gvs i ws = [] ∨ (m = true ∧ stopsP i ws)
    · rw [xtV_end one g]
      rcases c with c | c
      · exact crs_lo c
      · rw [crs_nogive c okN_nil (okN_zero w1)]
    · rw [xtV_on one g]
      rcases c with c | c
      · rw [crs_lo c]
        show _ = some (exF m (tkn i bs) (gvs i ws) n)
        rw [exF_lo c]
        exact gI_get c
      · exact absurd (.inl c) g
theorem xt_found {m : Bool} {i : Int} {bs : List Dd} {ws : List (List Dd)} {n n' r k : Nat} {u v : Int} {ns : List Int} {b : Nat × Rd} (gn : gvs i ws ≠ []) (nst : ¬ (m = true ∧ stopsP i ws)) (e : n + 1 = (tkn i bs).1.length + n') (n1 : 1 ≤ n') (hb : b ∈ ngs i ws) (iv : IsV m (gvs i ws) (tkn i bs).2 n' v) (hk : k < b.2.1.length)
    (er : r + k + 1 = n') (ev : v = (tkn i bs).2 + u + gI b.2.1 (k : Nat)) (oN : okN ws ns) (es : gsum (cRd i ws ns) = r) (et : tsum (cRd i ws ns) = u) : crsV i bs ws ns [(b.1 : Int)] n = xtV m i bs ws n := by
  obtain ⟨b1, b2, _⟩ := ngs_mem.mp hb
  have hk2 : k < (tkn i (ws.getD ((b.1 : Nat) : Int).toNat [])).1.length := by rw [Int.toNat_natCast, ← b2]; exact hk
  have cv := crs_val (bs := bs) (ns := ns) hk2
  rw [Int.toNat_natCast, ← b2, es, et, ← ev] at cv
  obtain rfl : n = (tkn i bs).1.length + (r + k) := by omega
  rw [cv]
  by_cases one : ws.length = 1
  · rw [xtV_one one, ← cv]
    exact congrFun (crs_one one oN (okN_one b1) (List.cons_ne_nil _ _)) _
  · rw [xtV_on one fun h => h.elim gn nst]
    show _ = some (exF m (tkn i bs) (gvs i ws) _)
    rw [exF_hi (by omega), show (tkn i bs).1.length + (r + k) - (tkn i bs).1.length + 1 = n' by omega]
    exact congrArg some (iv.uniq (Vf_ok (gvs_pos i ws) gn n1))
theorem xt_stop {i : Int} {bs : List Dd} {ws : List (List Dd)} {n k : Nat} (gn : gvs i ws ≠ []) (hk : k < ws.length) (h : (tkn i (ws.getD k [])).1 = []) : crsV i bs ws [] [(k : Int)] n = xtV true i bs ws n := by
  have st : stopsP i ws := ⟨ws[k], List.getElem_mem hk, by rw [List.getD_eq_getElem?_getD, List.getElem?_eq_getElem hk] at h; exact h⟩
  by_cases one : ws.length = 1
  · rw [xtV_one one]
    exact congrFun (crs_one one okN_nil (okN_one hk) (List.cons_ne_nil _ _)) _
  · rw [xtV_end one (.inr ⟨rfl, st⟩), crs_stop (by rw [Int.toNat_natCast]; exact h)]
abbrev N_best_course : List Str := ["maker", "inlet", "piece", "most", "rounds", "value", "rest", "way"]
theorem sc_best_course : FnScope N_best_course ["maker", "inlet", "piece", "most"] (defScope s_best_course) := ⟨rfl, rfl, rfl, by decide +kernel, rfl, by decide +kernel, by decide +kernel⟩
theorem ok_best_course {P : Program} {w : World} {K : PySem.W.Frag} {mg : Str → Option Value} {base : Heap} (E : Env P K mg) : Fn P w K mg base CX0 4 "best_course" (spBestC K) := by
  obtain ⟨fd, F⟩ := E.dd_best_course
  refine Fn.mk0 F E.g_best_course sc_best_course sp4_len (fun _ _ _ _ _ _ us hl => match us, hl with | [_, _, _, _], _ => rfl) (fun cdv A outer s H vs Q X hr h => ?_)
  have nd := sc_best_course.nd
  obtain ⟨v0, v1, v2, v3, rfl, h⟩ := h
  refine ⟨_, (pss_cons (ps_set (i := 4) nd rfl (.inl rfl) (pmk (ok_Rounds3 E) hr (by decide) pass0 rfl (pa_cons (pv 0) (pa_cons (pv 1) (pa_cons (pv 3) pa_nil)))))
  (pss_cut (ps_if (PW.pt (pw_or (pt_cmpR op_le (pv 2) (pe_callB (kLen K) (by rfl) E.f_len (by decide +kernel) (pa_cons (kFld K (pv 4) rfl) pa_nil)) (nomark _)) (pw_or1 (pt_cmpR (kEq K hr) (pe_callB (kLen K) (by rfl) E.f_len (by decide +kernel) (pa_cons (kFld K (pv 4) rfl) pa_nil)) (pe_int) (nomark _)))))
   (pss_one (ps_ret (pe_tup (pa_cons (pe_tup pa_nil) (pa_cons (pe_tup (pa_cons (pe_int) pa_nil)) pa_nil)))))
   pss_nil)
  (pss_cut (ps_if (PW.pt (pw_and (kTru K (pv 3) (by intro _; rfl)) (pw_and1 (kTru K (kFld K (pv 4) rfl) (by intro _; rfl)))))
   (pss_one (ps_ret (pe_tup (pa_cons (pe_tup pa_nil) (pa_cons (pe_tup (pa_cons (pe_ix (kIx K) (pe_lc (own := [("way", 7)]) (g := gName 7) rfl nd (kSeq K (kFld K (pv 4) rfl)) (blkOk_by (N := N_best_course) (sc := defScope s_best_course) (by decide +kernel)) (fun _ _ _ _ _ => pg_name (i := 7) nd rfl (Or.inl rfl)) (fun _ _ _ _ _ => pts_one (pt_cmpR (kEq K hr) (pe_callB (kLen K) (by rfl) E.f_len (by decide +kernel) (pa_cons (pe_ix (kIx K) (pv 7) (pe_int) (fun _ _ => rfl)) pa_nil)) (pe_int) (nomark _))) (fun _ _ _ _ _ => pe_ix (kIx K) (pv 7) (pe_int) (fun _ _ => rfl))) (pe_int) (fun _ _ => rfl)) pa_nil)) pa_nil)))))
   pss_nil)
  (pss_cons (ps_asg (pmt (ok_Rounds_last_round E) hr (by decide) pass0 (pv 4) (pa_cons (pv 2) pa_nil)) (kGtup K rfl (pgs_cons (pg_name (i := 5) nd rfl (.inl rfl)) (pgs_cons (pg_name (i := 6) nd rfl (.inl rfl)) (pgs_cons (pg_name (i := 7) nd rfl (.inl rfl)) (pgs_nil))))))
  (pss_one (ps_ret (pe_tup (pa_cons (pe_callTy (kTup K) (by rfl) E.f_tuple (by decide +kernel) (pa_cons (pmt (ok_Rounds_rounds_to E) hr (by decide) pass0 (pv 4) (pa_cons (pv 6) pa_nil)) pa_nil)) (pa_cons (pe_tup (pa_cons (pe_ix (kIx K) (pv 7) (pe_int) (fun _ _ => rfl)) pa_nil)) pa_nil))))))))), ?_⟩
  change (_ : TS) _ [some v0, some v1, some v2, some v3, none, none, none, none] H
  try dsimp only [cxOf, Cx.nox, Cx.blk]
  obtain ⟨p, k0, i, m, bs, ws, n, rfl, rfl, rfl, rfl, t, ok, i0, i1, zn, k⟩ := h
  have z6 := ok.z6
  have zb := ok.zb
  have w4 := ok.w4
  have w1 := ok.w1
  walk_at "w"
  have zw : ∀ w ∈ ws, w.length ≤ 50000 := fun w hw => by have := z6 w hw; omega
  refine mk_rds t (by omega) zw (by omega) fun x T dx pb pw pg xs gs ts G eG nT rG tt => ?_
  have hG := tt.gt
  have zg := rG.gl.1
  have exH : ∀ {W : Hp}, Fr T G W → Ex H W := fun f b o hb => f b o (by rintro rfl; rw [nT] at hb; cases hb) (eG b o hb)
  have gbG := sq_of (K := K) rG.gb
  have gg := sq_of (K := K) rG.gg
  have gw := sq_of (K := K) rG.gw
  have zB := (tkn_ok i bs).ll
  walk_at "w"
  refine w_cut (M := fun σ' H' => σ' = [some (.ref p), some (.int i), some (.int ((n : Int) + 1)), some (.bl m), some (.ref x), none, none, none] ∧ G = H' ∧ (tkn i bs).1.length ≤ n ∧ gvs i ws ≠ []) ?_ ?_
  · dsimp only [List.set]
    walk_at "w"
    refine r_rBegun E rG ?_
    have ret : (n < (tkn i bs).1.length ∨ gvs i ws = []) → ∀ c' p' q' H2, Ex G H2 → SqT K H2 c' [.ref p', .ref q'] → SqT K H2 p' (vI []) → SqT K H2 q' (vI [0]) → Q (.ref c') H2 := fun c c' p' q' H2 e2 s1 s2 s3 => k c' p' q' [] 0 H2 (eG.trans e2) s1 s2 s3 okN_nil (okN_zero w1) (Nat.zero_le _) (xt_begin w1 c)
    walk_at "w"
    by_cases c : n < (tkn i bs).1.length
    · have c' : (n : Int) + 1 ≤ (tkn i bs).1.length := by omega
      walk_at "w"
      intro pa H1 n1 e1 g1
      walk_at "w"
      intro pq H2 n2 e2 g2
      walk_at "w"
      intro pc H3 n3 e3 g3
      walk_at "w"
      exact ret (.inl c) pc pa pq H3 ((e1.trans e2).trans e3) (st_of g3) (st_of ((e2.trans e3) _ _ g1)) (st_of (e3 _ _ g2))
    · have c' : ¬ ((n : Int) + 1 ≤ (tkn i bs).1.length) := by omega
      walk_at "w"
      refine r_rGiving E rG ?_
      walk_at "w"
      by_cases gn : gvs i ws = []
      · have g0 : (gs.length : Int) = 0 := by rw [zg, ngs_nil.mpr gn]; rfl
        walk_at "w"
        intro pa H1 n1 e1 g1
        walk_at "w"
        intro pq H2 n2 e2 g2
        walk_at "w"
        intro pc H3 n3 e3 g3
        walk_at "w"
        exact ret (.inr gn) pc pa pq H3 ((e1.trans e2).trans e3) (st_of g3) (st_of ((e2.trans e3) _ _ g1)) (st_of (e3 _ _ g2))
      · have g0 : ¬ ((gs.length : Int) = 0) := by
          have := List.length_pos_iff.mpr fun e => gn (ngs_nil.mp e)
          omega
        walk_at "w"
        exact ⟨rfl, rfl, by omega, gn⟩
  rintro σ' H' ⟨rfl, rfl, c, gn⟩
  refine w_cut (M := fun σ' H' => ∃ u : Option V, σ' = [some (.ref p), some (.int i), some (.int ((n : Int) + 1)), some (.bl m), some (.ref x), none, none, none] ∧ G = H' ∧ ¬ (m = true ∧ stopsP i ws)) ?_ ?_
  · walk_at "w"
    cases m with
    | false =>
      walk_at "w"
      exact ⟨none, rfl, rfl, fun c => by cases c.1⟩
    | true =>
      walk_at "w"
      refine r_rStops E rG ?_
      cases st : (nws i ws).any fun q => q.2.1.isEmpty with
      | false =>
        walk_at "w"
        exact ⟨none, rfl, rfl, fun c => by rw [any_stop.mpr c.2] at st; cases st⟩
      | true =>
        walk_at "w"
        intro pa H1 n1 e1 g1
        walk_at "w"
        have r1 := rG.ex e1
        have gw1 := ex_l e1 gw
        have zx : xs.length = ws.length := by rw [rG.wl.1, nws_len]
        refine i_seqL ?_
        walk_at "w"
        refine r_rWays E r1 ?_
        refine i_xL gw1 ?_
        refine lcGF_lst (xs := xs) (fun _ j acc W => Ex H1 W ∧ acc = (((nws i ws).take j).filter fun q => q.2.1.isEmpty).map fun q => V.int (q.1 : Nat)) (by omega) (fun v => [some (.ref p), some (.int i), some (.int ((n : Int) + 1)), some (.bl true), some (.ref x), none, none, some v]) (fun _ => rfl) (fun _ => rfl) (fun D nD => ⟨Ex.new nD, rfl⟩) (fun _ _ _ W c => ex_l c.1 gw1) ?_ ?_
        · rintro D j v acc W QT nD gD hv ⟨e, rfl⟩ kF kT
          obtain ⟨qq, hq, pt, pa', rfl, nea, sq0, ga0⟩ := r1.wl.get hv
          have sq := ex_t e sq0
          have ga := sq_of (K := K) (e _ _ ga0)
          walk_at "w"
          cases he : qq.2.1.isEmpty with
          | false =>
            have l1 : 0 < qq.2.1.length := List.length_pos_iff.mpr fun h : qq.2.1 = [] => by rw [h] at he; cases he
            rw [decide_eq_false (by omega)]
            refine kF _ gD ⟨e, ?_⟩
            rw [List.take_add_one, hq, List.filter_append]
            simp [he]
          | true =>
            rw [decide_eq_true (by rw [List.isEmpty_iff.mp he]; rfl)]
            refine kT _ fun Q' kk => ?_
            walk_at "w"
            refine kk _ _ gD ⟨Ex.mut e nD, ?_⟩
            rw [List.take_add_one, hq, List.filter_append]
            simp [he]
        rintro D acc H2 nD ⟨e2, rfl⟩ gD
        rw [zx, ← nws_len i ws, List.take_length] at gD
        obtain ⟨q0, l0, hl0⟩ : ∃ q0 l0, ((nws i ws).filter fun q => q.2.1.isEmpty) = q0 :: l0 := by
          cases hh : (nws i ws).filter fun q => q.2.1.isEmpty with
          | nil =>
            obtain ⟨q, hq, hq2⟩ := List.any_eq_true.mp st
            have : q ∈ (nws i ws).filter fun q => q.2.1.isEmpty := List.mem_filter.mpr ⟨hq, hq2⟩
            rw [hh] at this
            exact absurd this List.not_mem_nil
          | cons a l => exact ⟨a, l, rfl⟩
        have hm0 : q0 ∈ (nws i ws).filter fun q => q.2.1.isEmpty := by rw [hl0]; exact List.mem_cons_self
        obtain ⟨hm1, hm2⟩ := List.mem_filter.mp hm0
        obtain ⟨hm3, hm4⟩ := nws_mem.mp hm1
        rw [hl0] at gD
        have gD' := sq_of (K := K) gD
        walk_at "w"
        refine r_ixL gD' (v := .int (q0.1 : Nat)) (atI_pos (Int.le_refl _) rfl) ?_
        walk_at "w"
        intro pq H3 n3 e3 g3
        walk_at "w"
        intro pc H4 n4 e4 g4
        walk_at "w"
        exact k pc pa pq [] q0.1 H4 (eG.trans (((e1.trans e2).trans e3).trans e4)) (st_of g4) (st_of ((e3.trans e4) _ _ (e2 _ _ g1))) (st_of (e4 _ _ g3)) okN_nil (okN_one hm3) (Nat.zero_le _) (xt_stop gn hm3 (by rw [← hm4]; exact List.isEmpty_iff.mp hm2))
  rintro σ' H' ⟨_, rfl, rfl, nst⟩
  obtain ⟨n', en⟩ : ∃ n' : Nat, n + 1 = (tkn i bs).1.length + n' := ⟨n + 1 - (tkn i bs).1.length, by omega⟩
  walk_at "w"
  refine r_meth rG.ix rF_last_round ?_
  walk_at "w"
  refine ⟨_, _, rfl, G, ts, x, T, dx, pb, pw, pg, xs, gs, ts, [(some 0, none)], m, i, bs, ws, n', rfl, by congr 1; omega, rG, hG, Fr.refl _ _, tt, .zero m i ws, zw, gn, by omega, by omega, by decide, fun H4 ts4 os4 q4 v4 r4 wv4 b4 k4 u4 f4 tt4 ok4 zo4 sq4 wy4 hb4 iv4 hk4 er4 lr4 hu4 ev4 => ?_⟩
  have r4' := rG.fr hG f4
  walk_at "w"
  refine r_meth r4'.ix rF_rounds_to ?_
  walk_at "w"
  refine ⟨_, _, rfl, G, ts, x, T, dx, pb, pw, pg, xs, gs, ts4, os4, m, i, bs, ws, r4, u4, rfl, rfl, rG, hG, f4, tt4, ok4, lr4, by simp only [List.length_singleton] at zo4; omega, hu4, fun q5 H5 ns n5 e5 g5 oN zN es et _ => ?_⟩
  walk_at "w"
  intro pa H6 e6 s6
  obtain ⟨pt, pa2, rfl, _, sq, _⟩ := wy4.ex (e5.trans e6)
  walk_at "w"
  intro pq H7 n7 e7 g7
  walk_at "w"
  intro pc H8 n8 e8 g8
  walk_at "w"
  refine k pc pa pq ns b4.1 H8 (exH (((f4.trans (Fr.of e5)).trans (Fr.of e6)).trans ((Fr.of e7).trans (Fr.of e8)))) (st_of g8) (ex_t (e7.trans e8) s6) (st_of (e8 _ _ g7)) oN (okN_one (ngs_mem.mp hb4).1) (by omega) ?_
  exact xt_found gn nst en (by omega) hb4 iv4 hk4 er4 ev4 oN es et
abbrev N_course_of : List Str := ["maker", "inlet", "piece", "most"]
theorem sc_course_of : FnScope N_course_of ["maker", "inlet", "piece", "most"] (defScope s_course_of) := ⟨rfl, rfl, rfl, by decide +kernel, rfl, by decide +kernel, by decide +kernel⟩
theorem fx_course_of {P : Program} {w : World} {K : PySem.W.Frag} {mg : Str → Option Value} {base : Heap} (E : Env P K mg) : ∃ fd, FunD K "course_of" "course_of" (defArgs s_course_of) (defBody s_course_of) (defScope s_course_of) (d_course_of.dvs K) [] (d_course_of.adr K) fd ∧ FnOk P w K mg base CX0 5 (d_course_of.adr K) fd ["maker", "inlet", "piece", "most"] (spBestC K) := by
  obtain ⟨fd, F⟩ := E.dd_course_of
  refine ⟨fd, F, fnok0 F sc_course_of sp4_len (fun cdv A outer s H vs Q X hr h => ?_)⟩
  have nd := sc_course_of.nd
  obtain ⟨v0, v1, v2, v3, rfl, h⟩ := h
  refine ⟨_, (pss_cons (ps_expr (pc (ok_check_inlet E) hr (by decide) pass0 rfl (pa_cons (pv 0) (pa_cons (pv 1) pa_nil))))
  (pss_cons (ps_if (PW.pt (pw_or (pt_not (kTru K (pc (ok_is_count E) hr (by decide) pass0 rfl (pa_cons (pv 2) pa_nil)) (by intro _; rfl))) (pw_or1 (pt_not (pt_chain op_le op_le (pe_int) (pv 2) ((E.k_MOST_PIECE).elim fun t e => pe_glob (v := .int 2000) (by rfl) e ⟨t, rfl⟩))))))
   (pss_one (ps_never))
   pss_nil)
  (pss_one (ps_ret (pc (ok_best_course E) hr (by decide) pass0 rfl (pa_cons (pv 0) (pa_cons (pv 1) (pa_cons (pv 2) (pa_cons (pv 3) pa_nil))))))))), ?_⟩
  change (_ : TS) _ [some v0, some v1, some v2, some v3] H
  try dsimp only [cxOf, Cx.nox, Cx.blk]
  obtain ⟨p, k0, i, m, bs, ws, n, rfl, rfl, rfl, rfl, t, ok, i0, i1, zn, k⟩ := h
  walk_at "w"
  refine ⟨p, k0, bs, ws, i, rfl, t, rfl, i0, i1, fun H1 e1 => ?_⟩
  walk_at "w"
  refine ⟨.int ((n : Int) + 1), .int _, fun v H2 e2 d2 => ?_⟩
  rw [show dIsCount (.int ((n : Int) + 1)) = true from decide_eq_true (show (0 : Int) ≤ n + 1 by omega)] at d2
  obtain rfl := dp_toBl d2
  walk_at "w"
  exact ⟨p, k0, i, m, bs, ws, n, rfl, rfl, rfl, rfl, ex_mak (e1.trans e2) t, ok, i0, i1, zn, fun c' p' q' ns n' H3 e3 s1 s2 s3 o1 o2 z h => k c' p' q' ns n' H3 ((e1.trans e2).trans e3) s1 s2 s3 o1 o2 z h⟩
theorem ok_course_ofK {P : Program} {w : World} {K : PySem.W.Frag} {mg : Str → Option Value} {base : Heap} (E : Env P K mg) : FnK P w K mg base CX0 5 "course_of" 3 ["most"] (spBestC K) := by
  obtain ⟨fd, F, k⟩ := fx_course_of (P := P) (w := w) (base := base) E
  exact ⟨_, fd, _, k, E.g_course_of, F.kp, kbnN F (fun _ _ _ _ _ _ us ws hu hw => match us, ws, hu, hw with | [_, _, _], [_], _, _ => rfl)⟩


end
section
theorem w_v16 {v : V} {H : Hp} {Q : VK} {x0 x1 x2 x3 x4 x5 x6 x7 x8 x9 x10 x11 x12 x13 x14 x15 : Option V} {l : L2.St} (h : Q v H) : GetN 16 (x0 :: x1 :: x2 :: x3 :: x4 :: x5 :: x6 :: x7 :: x8 :: x9 :: x10 :: x11 :: x12 :: x13 :: x14 :: x15 :: some v :: l) H Q := ⟨v, rfl, h⟩
theorem w_n16 {v : V} {H : Hp} {x0 x1 x2 x3 x4 x5 x6 x7 x8 x9 x10 x11 x12 x13 x14 x15 : Option V} {y : Option V} {l : L2.St} {Q : L2.St → Hp → Prop} (h : Q (x0 :: x1 :: x2 :: x3 :: x4 :: x5 :: x6 :: x7 :: x8 :: x9 :: x10 :: x11 :: x12 :: x13 :: x14 :: x15 :: some v :: l) H) : SetN 16 v (x0 :: x1 :: x2 :: x3 :: x4 :: x5 :: x6 :: x7 :: x8 :: x9 :: x10 :: x11 :: x12 :: x13 :: x14 :: x15 :: y :: l) H Q := h
theorem w_v17 {v : V} {H : Hp} {Q : VK} {x0 x1 x2 x3 x4 x5 x6 x7 x8 x9 x10 x11 x12 x13 x14 x15 x16 : Option V} {l : L2.St} (h : Q v H) : GetN 17 (x0 :: x1 :: x2 :: x3 :: x4 :: x5 :: x6 :: x7 :: x8 :: x9 :: x10 :: x11 :: x12 :: x13 :: x14 :: x15 :: x16 :: some v :: l) H Q := ⟨v, rfl, h⟩
theorem w_n17 {v : V} {H : Hp} {x0 x1 x2 x3 x4 x5 x6 x7 x8 x9 x10 x11 x12 x13 x14 x15 x16 : Option V} {y : Option V} {l : L2.St} {Q : L2.St → Hp → Prop} (h : Q (x0 :: x1 :: x2 :: x3 :: x4 :: x5 :: x6 :: x7 :: x8 :: x9 :: x10 :: x11 :: x12 :: x13 :: x14 :: x15 :: x16 :: some v :: l) H) : SetN 17 v (x0 :: x1 :: x2 :: x3 :: x4 :: x5 :: x6 :: x7 :: x8 :: x9 :: x10 :: x11 :: x12 :: x13 :: x14 :: x15 :: x16 :: y :: l) H Q := h
theorem w_v18 {v : V} {H : Hp} {Q : VK} {x0 x1 x2 x3 x4 x5 x6 x7 x8 x9 x10 x11 x12 x13 x14 x15 x16 x17 : Option V} {l : L2.St} (h : Q v H) : GetN 18 (x0 :: x1 :: x2 :: x3 :: x4 :: x5 :: x6 :: x7 :: x8 :: x9 :: x10 :: x11 :: x12 :: x13 :: x14 :: x15 :: x16 :: x17 :: some v :: l) H Q := ⟨v, rfl, h⟩
theorem w_n18 {v : V} {H : Hp} {x0 x1 x2 x3 x4 x5 x6 x7 x8 x9 x10 x11 x12 x13 x14 x15 x16 x17 : Option V} {y : Option V} {l : L2.St} {Q : L2.St → Hp → Prop} (h : Q (x0 :: x1 :: x2 :: x3 :: x4 :: x5 :: x6 :: x7 :: x8 :: x9 :: x10 :: x11 :: x12 :: x13 :: x14 :: x15 :: x16 :: x17 :: some v :: l) H) : SetN 18 v (x0 :: x1 :: x2 :: x3 :: x4 :: x5 :: x6 :: x7 :: x8 :: x9 :: x10 :: x11 :: x12 :: x13 :: x14 :: x15 :: x16 :: x17 :: y :: l) H Q := h
theorem w_v19 {v : V} {H : Hp} {Q : VK} {x0 x1 x2 x3 x4 x5 x6 x7 x8 x9 x10 x11 x12 x13 x14 x15 x16 x17 x18 : Option V} {l : L2.St} (h : Q v H) : GetN 19 (x0 :: x1 :: x2 :: x3 :: x4 :: x5 :: x6 :: x7 :: x8 :: x9 :: x10 :: x11 :: x12 :: x13 :: x14 :: x15 :: x16 :: x17 :: x18 :: some v :: l) H Q := ⟨v, rfl, h⟩
theorem w_n19 {v : V} {H : Hp} {x0 x1 x2 x3 x4 x5 x6 x7 x8 x9 x10 x11 x12 x13 x14 x15 x16 x17 x18 : Option V} {y : Option V} {l : L2.St} {Q : L2.St → Hp → Prop} (h : Q (x0 :: x1 :: x2 :: x3 :: x4 :: x5 :: x6 :: x7 :: x8 :: x9 :: x10 :: x11 :: x12 :: x13 :: x14 :: x15 :: x16 :: x17 :: x18 :: some v :: l) H) : SetN 19 v (x0 :: x1 :: x2 :: x3 :: x4 :: x5 :: x6 :: x7 :: x8 :: x9 :: x10 :: x11 :: x12 :: x13 :: x14 :: x15 :: x16 :: x17 :: x18 :: y :: l) H Q := h
theorem w_v20 {v : V} {H : Hp} {Q : VK} {x0 x1 x2 x3 x4 x5 x6 x7 x8 x9 x10 x11 x12 x13 x14 x15 x16 x17 x18 x19 : Option V} {l : L2.St} (h : Q v H) : GetN 20 (x0 :: x1 :: x2 :: x3 :: x4 :: x5 :: x6 :: x7 :: x8 :: x9 :: x10 :: x11 :: x12 :: x13 :: x14 :: x15 :: x16 :: x17 :: x18 :: x19 :: some v :: l) H Q := ⟨v, rfl, h⟩
theorem w_n20 {v : V} {H : Hp} {x0 x1 x2 x3 x4 x5 x6 x7 x8 x9 x10 x11 x12 x13 x14 x15 x16 x17 x18 x19 : Option V} {y : Option V} {l : L2.St} {Q : L2.St → Hp → Prop} (h : Q (x0 :: x1 :: x2 :: x3 :: x4 :: x5 :: x6 :: x7 :: x8 :: x9 :: x10 :: x11 :: x12 :: x13 :: x14 :: x15 :: x16 :: x17 :: x18 :: x19 :: some v :: l) H) : SetN 20 v (x0 :: x1 :: x2 :: x3 :: x4 :: x5 :: x6 :: x7 :: x8 :: x9 :: x10 :: x11 :: x12 :: x13 :: x14 :: x15 :: x16 :: x17 :: x18 :: x19 :: y :: l) H Q := h
theorem w_v21 {v : V} {H : Hp} {Q : VK} {x0 x1 x2 x3 x4 x5 x6 x7 x8 x9 x10 x11 x12 x13 x14 x15 x16 x17 x18 x19 x20 : Option V} {l : L2.St} (h : Q v H) : GetN 21 (x0 :: x1 :: x2 :: x3 :: x4 :: x5 :: x6 :: x7 :: x8 :: x9 :: x10 :: x11 :: x12 :: x13 :: x14 :: x15 :: x16 :: x17 :: x18 :: x19 :: x20 :: some v :: l) H Q := ⟨v, rfl, h⟩
theorem w_n21 {v : V} {H : Hp} {x0 x1 x2 x3 x4 x5 x6 x7 x8 x9 x10 x11 x12 x13 x14 x15 x16 x17 x18 x19 x20 : Option V} {y : Option V} {l : L2.St} {Q : L2.St → Hp → Prop} (h : Q (x0 :: x1 :: x2 :: x3 :: x4 :: x5 :: x6 :: x7 :: x8 :: x9 :: x10 :: x11 :: x12 :: x13 :: x14 :: x15 :: x16 :: x17 :: x18 :: x19 :: x20 :: some v :: l) H) : SetN 21 v (x0 :: x1 :: x2 :: x3 :: x4 :: x5 :: x6 :: x7 :: x8 :: x9 :: x10 :: x11 :: x12 :: x13 :: x14 :: x15 :: x16 :: x17 :: x18 :: x19 :: x20 :: y :: l) H Q := h
theorem w_v22 {v : V} {H : Hp} {Q : VK} {x0 x1 x2 x3 x4 x5 x6 x7 x8 x9 x10 x11 x12 x13 x14 x15 x16 x17 x18 x19 x20 x21 : Option V} {l : L2.St} (h : Q v H) : GetN 22 (x0 :: x1 :: x2 :: x3 :: x4 :: x5 :: x6 :: x7 :: x8 :: x9 :: x10 :: x11 :: x12 :: x13 :: x14 :: x15 :: x16 :: x17 :: x18 :: x19 :: x20 :: x21 :: some v :: l) H Q := ⟨v, rfl, h⟩
theorem w_n22 {v : V} {H : Hp} {x0 x1 x2 x3 x4 x5 x6 x7 x8 x9 x10 x11 x12 x13 x14 x15 x16 x17 x18 x19 x20 x21 : Option V} {y : Option V} {l : L2.St} {Q : L2.St → Hp → Prop} (h : Q (x0 :: x1 :: x2 :: x3 :: x4 :: x5 :: x6 :: x7 :: x8 :: x9 :: x10 :: x11 :: x12 :: x13 :: x14 :: x15 :: x16 :: x17 :: x18 :: x19 :: x20 :: x21 :: some v :: l) H) : SetN 22 v (x0 :: x1 :: x2 :: x3 :: x4 :: x5 :: x6 :: x7 :: x8 :: x9 :: x10 :: x11 :: x12 :: x13 :: x14 :: x15 :: x16 :: x17 :: x18 :: x19 :: x20 :: x21 :: y :: l) H Q := h
theorem w_v23 {v : V} {H : Hp} {Q : VK} {x0 x1 x2 x3 x4 x5 x6 x7 x8 x9 x10 x11 x12 x13 x14 x15 x16 x17 x18 x19 x20 x21 x22 : Option V} {l : L2.St} (h : Q v H) : GetN 23 (x0 :: x1 :: x2 :: x3 :: x4 :: x5 :: x6 :: x7 :: x8 :: x9 :: x10 :: x11 :: x12 :: x13 :: x14 :: x15 :: x16 :: x17 :: x18 :: x19 :: x20 :: x21 :: x22 :: some v :: l) H Q := ⟨v, rfl, h⟩
theorem w_n23 {v : V} {H : Hp} {x0 x1 x2 x3 x4 x5 x6 x7 x8 x9 x10 x11 x12 x13 x14 x15 x16 x17 x18 x19 x20 x21 x22 : Option V} {y : Option V} {l : L2.St} {Q : L2.St → Hp → Prop} (h : Q (x0 :: x1 :: x2 :: x3 :: x4 :: x5 :: x6 :: x7 :: x8 :: x9 :: x10 :: x11 :: x12 :: x13 :: x14 :: x15 :: x16 :: x17 :: x18 :: x19 :: x20 :: x21 :: x22 :: some v :: l) H) : SetN 23 v (x0 :: x1 :: x2 :: x3 :: x4 :: x5 :: x6 :: x7 :: x8 :: x9 :: x10 :: x11 :: x12 :: x13 :: x14 :: x15 :: x16 :: x17 :: x18 :: x19 :: x20 :: x21 :: x22 :: y :: l) H Q := h
theorem w_v24 {v : V} {H : Hp} {Q : VK} {x0 x1 x2 x3 x4 x5 x6 x7 x8 x9 x10 x11 x12 x13 x14 x15 x16 x17 x18 x19 x20 x21 x22 x23 : Option V} {l : L2.St} (h : Q v H) : GetN 24 (x0 :: x1 :: x2 :: x3 :: x4 :: x5 :: x6 :: x7 :: x8 :: x9 :: x10 :: x11 :: x12 :: x13 :: x14 :: x15 :: x16 :: x17 :: x18 :: x19 :: x20 :: x21 :: x22 :: x23 :: some v :: l) H Q := ⟨v, rfl, h⟩
theorem w_n24 {v : V} {H : Hp} {x0 x1 x2 x3 x4 x5 x6 x7 x8 x9 x10 x11 x12 x13 x14 x15 x16 x17 x18 x19 x20 x21 x22 x23 : Option V} {y : Option V} {l : L2.St} {Q : L2.St → Hp → Prop} (h : Q (x0 :: x1 :: x2 :: x3 :: x4 :: x5 :: x6 :: x7 :: x8 :: x9 :: x10 :: x11 :: x12 :: x13 :: x14 :: x15 :: x16 :: x17 :: x18 :: x19 :: x20 :: x21 :: x22 :: x23 :: some v :: l) H) : SetN 24 v (x0 :: x1 :: x2 :: x3 :: x4 :: x5 :: x6 :: x7 :: x8 :: x9 :: x10 :: x11 :: x12 :: x13 :: x14 :: x15 :: x16 :: x17 :: x18 :: x19 :: x20 :: x21 :: x22 :: x23 :: y :: l) H Q := h
theorem w_v25 {v : V} {H : Hp} {Q : VK} {x0 x1 x2 x3 x4 x5 x6 x7 x8 x9 x10 x11 x12 x13 x14 x15 x16 x17 x18 x19 x20 x21 x22 x23 x24 : Option V} {l : L2.St} (h : Q v H) : GetN 25 (x0 :: x1 :: x2 :: x3 :: x4 :: x5 :: x6 :: x7 :: x8 :: x9 :: x10 :: x11 :: x12 :: x13 :: x14 :: x15 :: x16 :: x17 :: x18 :: x19 :: x20 :: x21 :: x22 :: x23 :: x24 :: some v :: l) H Q := ⟨v, rfl, h⟩
theorem w_n25 {v : V} {H : Hp} {x0 x1 x2 x3 x4 x5 x6 x7 x8 x9 x10 x11 x12 x13 x14 x15 x16 x17 x18 x19 x20 x21 x22 x23 x24 : Option V} {y : Option V} {l : L2.St} {Q : L2.St → Hp → Prop} (h : Q (x0 :: x1 :: x2 :: x3 :: x4 :: x5 :: x6 :: x7 :: x8 :: x9 :: x10 :: x11 :: x12 :: x13 :: x14 :: x15 :: x16 :: x17 :: x18 :: x19 :: x20 :: x21 :: x22 :: x23 :: x24 :: some v :: l) H) : SetN 25 v (x0 :: x1 :: x2 :: x3 :: x4 :: x5 :: x6 :: x7 :: x8 :: x9 :: x10 :: x11 :: x12 :: x13 :: x14 :: x15 :: x16 :: x17 :: x18 :: x19 :: x20 :: x21 :: x22 :: x23 :: x24 :: y :: l) H Q := h
theorem w_v26 {v : V} {H : Hp} {Q : VK} {x0 x1 x2 x3 x4 x5 x6 x7 x8 x9 x10 x11 x12 x13 x14 x15 x16 x17 x18 x19 x20 x21 x22 x23 x24 x25 : Option V} {l : L2.St} (h : Q v H) : GetN 26 (x0 :: x1 :: x2 :: x3 :: x4 :: x5 :: x6 :: x7 :: x8 :: x9 :: x10 :: x11 :: x12 :: x13 :: x14 :: x15 :: x16 :: x17 :: x18 :: x19 :: x20 :: x21 :: x22 :: x23 :: x24 :: x25 :: some v :: l) H Q := ⟨v, rfl, h⟩
theorem w_n26 {v : V} {H : Hp} {x0 x1 x2 x3 x4 x5 x6 x7 x8 x9 x10 x11 x12 x13 x14 x15 x16 x17 x18 x19 x20 x21 x22 x23 x24 x25 : Option V} {y : Option V} {l : L2.St} {Q : L2.St → Hp → Prop} (h : Q (x0 :: x1 :: x2 :: x3 :: x4 :: x5 :: x6 :: x7 :: x8 :: x9 :: x10 :: x11 :: x12 :: x13 :: x14 :: x15 :: x16 :: x17 :: x18 :: x19 :: x20 :: x21 :: x22 :: x23 :: x24 :: x25 :: some v :: l) H) : SetN 26 v (x0 :: x1 :: x2 :: x3 :: x4 :: x5 :: x6 :: x7 :: x8 :: x9 :: x10 :: x11 :: x12 :: x13 :: x14 :: x15 :: x16 :: x17 :: x18 :: x19 :: x20 :: x21 :: x22 :: x23 :: x24 :: x25 :: y :: l) H Q := h
theorem w_v27 {v : V} {H : Hp} {Q : VK} {x0 x1 x2 x3 x4 x5 x6 x7 x8 x9 x10 x11 x12 x13 x14 x15 x16 x17 x18 x19 x20 x21 x22 x23 x24 x25 x26 : Option V} {l : L2.St} (h : Q v H) : GetN 27 (x0 :: x1 :: x2 :: x3 :: x4 :: x5 :: x6 :: x7 :: x8 :: x9 :: x10 :: x11 :: x12 :: x13 :: x14 :: x15 :: x16 :: x17 :: x18 :: x19 :: x20 :: x21 :: x22 :: x23 :: x24 :: x25 :: x26 :: some v :: l) H Q := ⟨v, rfl, h⟩
theorem w_n27 {v : V} {H : Hp} {x0 x1 x2 x3 x4 x5 x6 x7 x8 x9 x10 x11 x12 x13 x14 x15 x16 x17 x18 x19 x20 x21 x22 x23 x24 x25 x26 : Option V} {y : Option V} {l : L2.St} {Q : L2.St → Hp → Prop} (h : Q (x0 :: x1 :: x2 :: x3 :: x4 :: x5 :: x6 :: x7 :: x8 :: x9 :: x10 :: x11 :: x12 :: x13 :: x14 :: x15 :: x16 :: x17 :: x18 :: x19 :: x20 :: x21 :: x22 :: x23 :: x24 :: x25 :: x26 :: some v :: l) H) : SetN 27 v (x0 :: x1 :: x2 :: x3 :: x4 :: x5 :: x6 :: x7 :: x8 :: x9 :: x10 :: x11 :: x12 :: x13 :: x14 :: x15 :: x16 :: x17 :: x18 :: x19 :: x20 :: x21 :: x22 :: x23 :: x24 :: x25 :: x26 :: y :: l) H Q := h
theorem w_v28 {v : V} {H : Hp} {Q : VK} {x0 x1 x2 x3 x4 x5 x6 x7 x8 x9 x10 x11 x12 x13 x14 x15 x16 x17 x18 x19 x20 x21 x22 x23 x24 x25 x26 x27 : Option V} {l : L2.St} (h : Q v H) : GetN 28 (x0 :: x1 :: x2 :: x3 :: x4 :: x5 :: x6 :: x7 :: x8 :: x9 :: x10 :: x11 :: x12 :: x13 :: x14 :: x15 :: x16 :: x17 :: x18 :: x19 :: x20 :: x21 :: x22 :: x23 :: x24 :: x25 :: x26 :: x27 :: some v :: l) H Q := ⟨v, rfl, h⟩
theorem w_n28 {v : V} {H : Hp} {x0 x1 x2 x3 x4 x5 x6 x7 x8 x9 x10 x11 x12 x13 x14 x15 x16 x17 x18 x19 x20 x21 x22 x23 x24 x25 x26 x27 : Option V} {y : Option V} {l : L2.St} {Q : L2.St → Hp → Prop} (h : Q (x0 :: x1 :: x2 :: x3 :: x4 :: x5 :: x6 :: x7 :: x8 :: x9 :: x10 :: x11 :: x12 :: x13 :: x14 :: x15 :: x16 :: x17 :: x18 :: x19 :: x20 :: x21 :: x22 :: x23 :: x24 :: x25 :: x26 :: x27 :: some v :: l) H) : SetN 28 v (x0 :: x1 :: x2 :: x3 :: x4 :: x5 :: x6 :: x7 :: x8 :: x9 :: x10 :: x11 :: x12 :: x13 :: x14 :: x15 :: x16 :: x17 :: x18 :: x19 :: x20 :: x21 :: x22 :: x23 :: x24 :: x25 :: x26 :: x27 :: y :: l) H Q := h
theorem w_v29 {v : V} {H : Hp} {Q : VK} {x0 x1 x2 x3 x4 x5 x6 x7 x8 x9 x10 x11 x12 x13 x14 x15 x16 x17 x18 x19 x20 x21 x22 x23 x24 x25 x26 x27 x28 : Option V} {l : L2.St} (h : Q v H) : GetN 29 (x0 :: x1 :: x2 :: x3 :: x4 :: x5 :: x6 :: x7 :: x8 :: x9 :: x10 :: x11 :: x12 :: x13 :: x14 :: x15 :: x16 :: x17 :: x18 :: x19 :: x20 :: x21 :: x22 :: x23 :: x24 :: x25 :: x26 :: x27 :: x28 :: some v :: l) H Q := ⟨v, rfl, h⟩
theorem w_n29 {v : V} {H : Hp} {x0 x1 x2 x3 x4 x5 x6 x7 x8 x9 x10 x11 x12 x13 x14 x15 x16 x17 x18 x19 x20 x21 x22 x23 x24 x25 x26 x27 x28 : Option V} {y : Option V} {l : L2.St} {Q : L2.St → Hp → Prop} (h : Q (x0 :: x1 :: x2 :: x3 :: x4 :: x5 :: x6 :: x7 :: x8 :: x9 :: x10 :: x11 :: x12 :: x13 :: x14 :: x15 :: x16 :: x17 :: x18 :: x19 :: x20 :: x21 :: x22 :: x23 :: x24 :: x25 :: x26 :: x27 :: x28 :: some v :: l) H) : SetN 29 v (x0 :: x1 :: x2 :: x3 :: x4 :: x5 :: x6 :: x7 :: x8 :: x9 :: x10 :: x11 :: x12 :: x13 :: x14 :: x15 :: x16 :: x17 :: x18 :: x19 :: x20 :: x21 :: x22 :: x23 :: x24 :: x25 :: x26 :: x27 :: x28 :: y :: l) H Q := h
theorem w_v30 {v : V} {H : Hp} {Q : VK} {x0 x1 x2 x3 x4 x5 x6 x7 x8 x9 x10 x11 x12 x13 x14 x15 x16 x17 x18 x19 x20 x21 x22 x23 x24 x25 x26 x27 x28 x29 : Option V} {l : L2.St} (h : Q v H) : GetN 30 (x0 :: x1 :: x2 :: x3 :: x4 :: x5 :: x6 :: x7 :: x8 :: x9 :: x10 :: x11 :: x12 :: x13 :: x14 :: x15 :: x16 :: x17 :: x18 :: x19 :: x20 :: x21 :: x22 :: x23 :: x24 :: x25 :: x26 :: x27 :: x28 :: x29 :: some v :: l) H Q := ⟨v, rfl, h⟩
theorem w_n30 {v : V} {H : Hp} {x0 x1 x2 x3 x4 x5 x6 x7 x8 x9 x10 x11 x12 x13 x14 x15 x16 x17 x18 x19 x20 x21 x22 x23 x24 x25 x26 x27 x28 x29 : Option V} {y : Option V} {l : L2.St} {Q : L2.St → Hp → Prop} (h : Q (x0 :: x1 :: x2 :: x3 :: x4 :: x5 :: x6 :: x7 :: x8 :: x9 :: x10 :: x11 :: x12 :: x13 :: x14 :: x15 :: x16 :: x17 :: x18 :: x19 :: x20 :: x21 :: x22 :: x23 :: x24 :: x25 :: x26 :: x27 :: x28 :: x29 :: some v :: l) H) : SetN 30 v (x0 :: x1 :: x2 :: x3 :: x4 :: x5 :: x6 :: x7 :: x8 :: x9 :: x10 :: x11 :: x12 :: x13 :: x14 :: x15 :: x16 :: x17 :: x18 :: x19 :: x20 :: x21 :: x22 :: x23 :: x24 :: x25 :: x26 :: x27 :: x28 :: x29 :: y :: l) H Q := h
theorem w_v31 {v : V} {H : Hp} {Q : VK} {x0 x1 x2 x3 x4 x5 x6 x7 x8 x9 x10 x11 x12 x13 x14 x15 x16 x17 x18 x19 x20 x21 x22 x23 x24 x25 x26 x27 x28 x29 x30 : Option V} {l : L2.St} (h : Q v H) : GetN 31 (x0 :: x1 :: x2 :: x3 :: x4 :: x5 :: x6 :: x7 :: x8 :: x9 :: x10 :: x11 :: x12 :: x13 :: x14 :: x15 :: x16 :: x17 :: x18 :: x19 :: x20 :: x21 :: x22 :: x23 :: x24 :: x25 :: x26 :: x27 :: x28 :: x29 :: x30 :: some v :: l) H Q := ⟨v, rfl, h⟩
theorem w_n31 {v : V} {H : Hp} {x0 x1 x2 x3 x4 x5 x6 x7 x8 x9 x10 x11 x12 x13 x14 x15 x16 x17 x18 x19 x20 x21 x22 x23 x24 x25 x26 x27 x28 x29 x30 : Option V} {y : Option V} {l : L2.St} {Q : L2.St → Hp → Prop} (h : Q (x0 :: x1 :: x2 :: x3 :: x4 :: x5 :: x6 :: x7 :: x8 :: x9 :: x10 :: x11 :: x12 :: x13 :: x14 :: x15 :: x16 :: x17 :: x18 :: x19 :: x20 :: x21 :: x22 :: x23 :: x24 :: x25 :: x26 :: x27 :: x28 :: x29 :: x30 :: some v :: l) H) : SetN 31 v (x0 :: x1 :: x2 :: x3 :: x4 :: x5 :: x6 :: x7 :: x8 :: x9 :: x10 :: x11 :: x12 :: x13 :: x14 :: x15 :: x16 :: x17 :: x18 :: x19 :: x20 :: x21 :: x22 :: x23 :: x24 :: x25 :: x26 :: x27 :: x28 :: x29 :: x30 :: y :: l) H Q := h

end
section
theorem leO_some {x y : Int} : leO (some x) (some y) = true ↔ x ≤ y := by unfold leO; exact decide_eq_true_iff
def slp (l : List Int) (r : Int) (m : Nat) : Int := r * ((m : Int) / l.length)
theorem slp_le {l : List Int} {r : Int} {m : Nat} (r0 : 0 ≤ r) (r1 : r ≤ 1000000000000) (hm : m ≤ 50000) : 0 ≤ slp l r m ∧ slp l r m ≤ 50000000000000000 := by
  unfold slp
  have a : 0 ≤ (m : Int) / l.length := Int.ediv_nonneg (by omega) (by omega)
  have b : (m : Int) / l.length ≤ m := Int.ediv_le_self _ (by omega)
  refine ⟨Int.mul_nonneg r0 a, ?_⟩
  have := Int.mul_le_mul r1 (show (m : Int) / l.length ≤ 50000 by omega) a (by omega)
  omega
theorem slp_mul {l : List Int} {r : Int} {m q : Nat} (hl : l ≠ []) (d : l.length ∣ m) : slp l r (m * q) = slp l r m * q := by
  have l0 : 0 < l.length := List.length_pos_iff.mpr hl
  obtain ⟨p, rfl⟩ := d
  unfold slp
  have e1 : ((l.length * p * q : Nat) : Int) / l.length = ((p * q : Nat) : Int) := by rw [Nat.mul_assoc, Int.natCast_mul, Int.mul_ediv_cancel_left _ (by omega)]
  have e2 : ((l.length * p : Nat) : Int) / l.length = (p : Int) := by rw [Int.natCast_mul, Int.mul_ediv_cancel_left _ (by omega)]
  rw [e1, e2, Int.natCast_mul, Int.mul_assoc]
theorem fV_per {h l : List Int} {r : Int} {m : Nat} (hl : l ≠ []) (d : l.length ∣ m) {j : Nat} (hj : h.length ≤ j) : fV h l r (j + m) = fV h l r j + slp l r m := by
  have l0 : 0 < l.length := List.length_pos_iff.mpr hl
  obtain ⟨p, rfl⟩ := d
  have P := (extL_per (r := r) hl).mulN p ((j : Int) - h.length)
  rw [fV_loop (by omega), fV_loop hj]
  unfold slp
  rw [Int.natCast_mul, Int.mul_ediv_cancel_left _ (by omega), ← P]
  congr 1
  rw [Int.natCast_add, Int.natCast_mul]
  omega
theorem fV_perN {h l : List Int} {r : Int} {m : Nat} (hl : l ≠ []) (d : l.length ∣ m) {j : Nat} (hj : h.length ≤ j) : ∀ t : Nat, fV h l r (j + m * t) = fV h l r j + slp l r m * t
  | 0 => by simp
  | t + 1 => by
    rw [Nat.mul_succ, show j + (m * t + m) = (j + m * t) + m by omega, fV_per hl d (by omega), fV_perN hl d hj t, Int.natCast_add, Int.mul_add]
    omega
theorem tv_nil {h l : List Int} {r : Int} {j : Nat} (c : l = []) (hj : h.length ≤ j) : TV h l r j = none := by
  unfold TV
  rw [if_pos c, List.getElem?_eq_none hj]
theorem tv_some {h l : List Int} {r : Int} {j : Nat} (c : l ≠ []) : TV h l r j = some (fV h l r j) := by
  unfold TV
  rw [if_neg c]

end
section
/-- the least place at which the first one is greater -/
def Lst (f g : Nat → Option Int) (o : Option Int) : Prop := (o = none ∧ ∀ j, leO (f j) (g j) = true) ∨ ∃ n : Nat, o = some ((n : Int) + 1) ∧ leO (f n) (g n) = false ∧ ∀ j, j < n → leO (f j) (g j) = true
theorem Lst.uniq {f g : Nat → Option Int} {o o' : Option Int} (a : Lst f g o) (b : Lst f g o') : o = o' := by
  rcases a with ⟨rfl, a⟩ | ⟨n, rfl, a1, a2⟩
  · rcases b with ⟨rfl, _⟩ | ⟨n, rfl, b1, _⟩
    · rfl
    · rw [a n] at b1; cases b1
  · rcases b with ⟨rfl, b⟩ | ⟨m, rfl, b1, b2⟩
    · rw [b n] at a1; cases a1
    · rcases Nat.lt_trichotomy n m with h | h | h
      · rw [b2 n h] at a1; cases a1
      · rw [h]
      · rw [a2 m h] at b1; cases b1
theorem Lst.nn {f g : Nat → Option Int} {o : Option Int} (a : Lst f g o) : ∀ i, o = some i → 0 ≤ i := fun i e => by
  rcases a with ⟨rfl, _⟩ | ⟨n, rfl, _⟩
  · cases e
  · cases e; omega
/-- small tables -/
structure Sm (h l : List Int) (r : Int) : Prop where
  val : Val h l r
  zh : h.length ≤ 100
  zl : l.length ≤ 4
  br : r ≤ 1000000
theorem Sm.plain {h l : List Int} {r : Int} (s : Sm h l r) : Sm (plainF h l r).1 (plainF h l r).2.1 (plainF h l r).2.2 := by
  obtain ⟨a, _, _, b, _⟩ := plainF_val s.val
  obtain ⟨_, _, _, c, _, d⟩ := plainF_ok s.val
  have := s.zh
  have := s.zl
  have := s.br
  exact ⟨a, by omega, by omega, by omega⟩
theorem above_ended {h1 l1 h2 l2 : List Int} {r1 r2 : Int} {S m : Nat} (z1 : h1.length ≤ S) (z2 : h2.length ≤ S) (m0 : 1 ≤ m) (c : l1 = [] ∨ l2 = []) (hw : ∀ j, j < S + m → leO (TV h1 l1 r1 j) (TV h2 l2 r2 j) = true) : ∀ j, leO (TV h1 l1 r1 j) (TV h2 l2 r2 j) = true := by
  intro j
  by_cases hj : j < S
  · exact hw j (by omega)
  · by_cases c2 : l2 = []
    · rw [tv_nil c2 (by omega)]
      cases TV h1 l1 r1 j <;> rfl
    · have c1 : l1 = [] := c.resolve_right c2
      have := hw S (by omega)
      rw [tv_nil c1 z1, tv_some c2] at this
      cases this
theorem above_le {h1 l1 h2 l2 : List Int} {r1 r2 : Int} {S m : Nat} (c1 : l1 ≠ []) (c2 : l2 ≠ []) (z1 : h1.length ≤ S) (z2 : h2.length ≤ S) (m0 : 1 ≤ m) (d1 : l1.length ∣ m) (d2 : l2.length ∣ m) (hw : ∀ j, j < S + m → leO (TV h1 l1 r1 j) (TV h2 l2 r2 j) = true)
    (hc : slp l1 r1 m - slp l2 r2 m ≤ 0) : ∀ j, leO (TV h1 l1 r1 j) (TV h2 l2 r2 j) = true := by
  intro j
  by_cases hj : j < S
  · exact hw j (by omega)
  · obtain ⟨t, q, ht, hq⟩ : ∃ t q, t < m ∧ j = (S + t) + m * q := ⟨(j - S) % m, (j - S) / m, Nat.mod_lt _ m0, by have := Nat.mod_add_div (j - S) m; omega⟩
    have := hw (S + t) (by omega)
    rw [tv_some c1, tv_some c2, leO_some] at this ⊢
    rw [hq, fV_perN c1 d1 (by omega), fV_perN c2 d2 (by omega)]
    have := Int.mul_le_mul_of_nonneg_right (show slp l1 r1 m ≤ slp l2 r2 m by omega) (show (0 : Int) ≤ (q : Int) by omega)
    omega
/-- where round k first goes above -/
def seenV (h1 l1 : List Int) (r1 : Int) (h2 l2 : List Int) (r2 : Int) (S m : Nat) (k : Nat) : Int := (S : Int) + 1 + k + ((fV h2 l2 r2 (S + k) - fV h1 l1 r1 (S + k)) / (slp l1 r1 m - slp l2 r2 m) + 1) * m
theorem above_gt {h1 l1 h2 l2 : List Int} {r1 r2 : Int} {S m : Nat} {v : Int} (c1 : l1 ≠ []) (c2 : l2 ≠ []) (z1 : h1.length ≤ S) (z2 : h2.length ≤ S) (m0 : 1 ≤ m) (d1 : l1.length ∣ m) (d2 : l2.length ∣ m) (hw : ∀ j, j < S + m → leO (TV h1 l1 r1 j) (TV h2 l2 r2 j) = true)
    (hc : 0 < slp l1 r1 m - slp l2 r2 m) (lo : ∀ k, k < m → v ≤ seenV h1 l1 r1 h2 l2 r2 S m k) (ex : ∃ k, k < m ∧ v = seenV h1 l1 r1 h2 l2 r2 S m k) : Lst (TV h1 l1 r1) (TV h2 l2 r2) (some v) := by
  have dif : ∀ t q : Nat, fV h1 l1 r1 ((S + t) + m * q) - fV h2 l2 r2 ((S + t) + m * q) = (slp l1 r1 m - slp l2 r2 m) * q - (fV h2 l2 r2 (S + t) - fV h1 l1 r1 (S + t)) := fun t q => by
    rw [fV_perN c1 d1 (by omega), fV_perN c2 d2 (by omega), Int.sub_mul]
    omega
  have nn : ∀ t, t < m → 0 ≤ fV h2 l2 r2 (S + t) - fV h1 l1 r1 (S + t) := fun t ht => by
    have := hw (S + t) (by omega)
    rw [tv_some c1, tv_some c2, leO_some] at this
    omega
  unfold seenV at lo ex
  generalize slp l1 r1 m - slp l2 r2 m = cl at *
  obtain ⟨k, hk, rfl⟩ := ex
  have hd := nn k hk
  have e := Int.emod_add_mul_ediv (fV h2 l2 r2 (S + k) - fV h1 l1 r1 (S + k)) cl
  have e0 := Int.emod_nonneg (fV h2 l2 r2 (S + k) - fV h1 l1 r1 (S + k)) (show cl ≠ 0 by omega)
  have e1 := Int.emod_lt_of_pos (fV h2 l2 r2 (S + k) - fV h1 l1 r1 (S + k)) hc
  have q0 := Int.ediv_nonneg hd (show 0 ≤ cl by omega)
  obtain ⟨q, hq⟩ := Int.eq_ofNat_of_zero_le q0
  rw [hq] at e lo
  have hp : ((S : Int) + 1 + k + ((fV h2 l2 r2 (S + k) - fV h1 l1 r1 (S + k)) / cl + 1) * m) = ((((S + k) + m * (q + 1) : Nat) : Int)) + 1 := by
    rw [hq, Int.natCast_add, Int.natCast_add, Int.natCast_mul, Int.mul_comm, show ((q + 1 : Nat) : Int) = (q : Int) + 1 from rfl]
    omega
  rw [hp]
  refine .inr ⟨_, rfl, ?_, fun j hj => ?_⟩
  · have := dif k (q + 1)
    rw [tv_some c1, tv_some c2, Bool.eq_false_iff]
    intro h
    rw [leO_some] at h
    rw [Int.natCast_add, Int.mul_add] at this
    omega
  · by_cases hj2 : j < S + m
    · exact hw j hj2
    · obtain ⟨t, p, ht, hp2⟩ : ∃ t q, t < m ∧ j = (S + t) + m * q := ⟨(j - S) % m, (j - S) / m, Nat.mod_lt _ m0, by have := Nat.mod_add_div (j - S) m; omega⟩
      rw [tv_some c1, tv_some c2, leO_some]
      have w1 := lo t ht
      have w2 := dif t p
      rw [← hp2] at w2
      have f := Int.emod_add_mul_ediv (fV h2 l2 r2 (S + t) - fV h1 l1 r1 (S + t)) cl
      have f0 := Int.emod_nonneg (fV h2 l2 r2 (S + t) - fV h1 l1 r1 (S + t)) (show cl ≠ 0 by omega)
      rcases Int.lt_or_le ((fV h2 l2 r2 (S + t) - fV h1 l1 r1 (S + t)) / cl) (p : Int) with g | g
      · exfalso
        have g2 := Int.mul_le_mul_of_nonneg_right (show (fV h2 l2 r2 (S + t) - fV h1 l1 r1 (S + t)) / cl + 1 ≤ (p : Int) by omega) (show (0 : Int) ≤ (m : Int) by omega)
        have hj3 : (j : Int) < ((S + k + m * (q + 1) : Nat) : Int) := by omega
        have hj4 : (j : Int) = (S : Int) + t + (p : Int) * m := by
          rw [hp2, Int.natCast_add, Int.natCast_add, Int.natCast_mul, Int.mul_comm]
        have hj5 : ((S + k + m * (q + 1) : Nat) : Int) = (S : Int) + k + ((q : Int) + 1) * m := by
          rw [Int.natCast_add, Int.natCast_add, Int.natCast_mul, Int.mul_comm]
          rfl
        omega
      · have g2 := Int.mul_le_mul_of_nonneg_left g (show 0 ≤ cl by omega)
        omega

end
section
structure SmK (h l : List Int) (r : Int) : Prop where
  val : Val h l r
  zh : h.length ≤ 20000
  zl : l.length ≤ 2000
  br : r ≤ 1000000
abbrev spAboveK (K : PySem.W.Frag) : Sp := sp2 fun a b H Q _ => ∃ (h1 l1 h2 l2 : List Int) (r1 r2 : Int), Dp K H a (dRaw h1 l1 r1) ∧ Dp K H b (dRaw h2 l2 r2) ∧ SmK h1 l1 r1 ∧ SmK h2 l2 r2 ∧ Nat.lcm l1.length l2.length ≤ 20000 ∧ ∀ o H', Ex H H' → Lst (TV h1 l1 r1) (TV h2 l2 r2) o → Q (optV o) H'
theorem vat1 {h l : List Int} {r : Int} (i : Nat) : valueAt h l r (some (1 + (i : Int))) = TV h l r i := by
  rw [show (1 : Int) + i = i + 1 by omega]
  exact vat_TV i
theorem vatS {h l : List Int} {r : Int} (S i : Nat) (c : l ≠ []) : valueAt h l r (some ((S : Int) + 1 + i)) = some (fV h l r (S + i)) := by
  rw [show (S : Int) + 1 + i = ((S + i : Nat) : Int) + 1 by omega]
  exact vat_fV c _
abbrev N__law_above : List Str := ["first", "second", "start", "many", "n", "climb", "found"]
theorem sc__law_above : FnScope N__law_above ["first", "second"] (defScope s__law_above) := ⟨rfl, rfl, rfl, by decide +kernel, rfl, by decide +kernel, by decide +kernel⟩
theorem ok__law_above {P : Program} {w : World} {K : PySem.W.Frag} {mg : Str → Option Value} {base : Heap} (E : Env P K mg) : Fn P w K mg base CX0 3 "_law_above" (spAboveK K) := by
  obtain ⟨fd, F⟩ := E.dd__law_above
  refine Fn.mk0 F E.g__law_above sc__law_above sp2_len (fun _ _ _ _ _ _ us hl => match us, hl with | [_, _], _ => rfl) (fun cdv A outer s H vs Q X hr h => ?_)
  have nd := sc__law_above.nd
  obtain ⟨v0, v1, rfl, h⟩ := h
  refine ⟨_, (pss_cons (ps_set (i := 2) nd rfl (.inl rfl) (pe_callB (xMax2 rfl) (by rfl) E.f_max (by decide +kernel) (pa_cons (pe_callB (kLen K) (by rfl) E.f_len (by decide +kernel) (pa_cons (pe_ix (kIx K) (pv 0) (pe_int) (fun _ _ => rfl)) pa_nil)) (pa_cons (pe_callB (kLen K) (by rfl) E.f_len (by decide +kernel) (pa_cons (pe_ix (kIx K) (pv 1) (pe_int) (fun _ _ => rfl)) pa_nil)) pa_nil))))
  (pss_cons (ps_set (i := 3) nd rfl (.inl rfl) (pe_callB (xMax3 rfl) (by rfl) E.f_max (by decide +kernel) (pa_cons (pe_int) (pa_cons (pe_callB (kLen K) (by rfl) E.f_len (by decide +kernel) (pa_cons (pe_ix (kIx K) (pv 0) (pe_int) (fun _ _ => rfl)) pa_nil)) (pa_cons (pe_callB (kLen K) (by rfl) E.f_len (by decide +kernel) (pa_cons (pe_ix (kIx K) (pv 1) (pe_int) (fun _ _ => rfl)) pa_nil)) pa_nil)))))
  (pss_cut (ps_if (PW.pt (pw_and (pt_cmpR op_gt (pe_callB (kLen K) (by rfl) E.f_len (by decide +kernel) (pa_cons (pe_ix (kIx K) (pv 0) (pe_int) (fun _ _ => rfl)) pa_nil)) (pe_int) (nomark _)) (pw_and1 (pt_cmpR op_gt (pe_callB (kLen K) (by rfl) E.f_len (by decide +kernel) (pa_cons (pe_ix (kIx K) (pv 1) (pe_int) (fun _ _ => rfl)) pa_nil)) (pe_int) (nomark _)))))
   (pss_one (ps_set (i := 3) nd rfl (.inl rfl) (pe_op (kMul K) (pe_op xDiv (pe_callB (kLen K) (by rfl) E.f_len (by decide +kernel) (pa_cons (pe_ix (kIx K) (pv 0) (pe_int) (fun _ _ => rfl)) pa_nil)) (pc (ok__law_gcd E) hr (by decide) pass0 rfl (pa_cons (pe_callB (kLen K) (by rfl) E.f_len (by decide +kernel) (pa_cons (pe_ix (kIx K) (pv 0) (pe_int) (fun _ _ => rfl)) pa_nil)) (pa_cons (pe_callB (kLen K) (by rfl) E.f_len (by decide +kernel) (pa_cons (pe_ix (kIx K) (pv 1) (pe_int) (fun _ _ => rfl)) pa_nil)) pa_nil)))) (pe_callB (kLen K) (by rfl) E.f_len (by decide +kernel) (pa_cons (pe_ix (kIx K) (pv 1) (pe_int) (fun _ _ => rfl)) pa_nil)))))
   pss_nil)
  (pss_cons (ps_for PassesOwn.never rfl (pi_range2 (by rfl) E.f_range (pa_cons (pe_int) (pa_cons (pe_op (kAdd K) (pe_op (kAdd K) (pv 2) (pv 3)) (pe_int)) pa_nil))) (pg_name (i := 4) nd rfl (.inl rfl))
   (pss_one (ps_if (pt_not (kTru K (pc (ok__law_le E) hr (by decide) pass0 rfl (pa_cons (pc (ok__law_at E) hr (by decide) pass0 rfl (pa_cons (pv 0) (pa_cons (pv 4) pa_nil))) (pa_cons (pc (ok__law_at E) hr (by decide) pass0 rfl (pa_cons (pv 1) (pa_cons (pv 4) pa_nil))) pa_nil))) (by intro _; rfl)))
   (pss_one (ps_ret (pv 4)))
   pss_nil)))
  (pss_cons (ps_if (PW.pt (pw_or (pt_cmpR (kEq K hr) (pe_callB (kLen K) (by rfl) E.f_len (by decide +kernel) (pa_cons (pe_ix (kIx K) (pv 0) (pe_int) (fun _ _ => rfl)) pa_nil)) (pe_int) (nomark _)) (pw_or1 (pt_cmpR (kEq K hr) (pe_callB (kLen K) (by rfl) E.f_len (by decide +kernel) (pa_cons (pe_ix (kIx K) (pv 1) (pe_int) (fun _ _ => rfl)) pa_nil)) (pe_int) (nomark _)))))
   (pss_one (ps_ret (pe_non)))
   pss_nil)
  (pss_cons (ps_set (i := 5) nd rfl (.inl rfl) (pe_op xSub (pe_op (kMul K) (pe_ix (kIx K) (pv 0) (pe_int) (fun _ _ => rfl)) (pe_op xDiv (pv 3) (pe_callB (kLen K) (by rfl) E.f_len (by decide +kernel) (pa_cons (pe_ix (kIx K) (pv 0) (pe_int) (fun _ _ => rfl)) pa_nil)))) (pe_op (kMul K) (pe_ix (kIx K) (pv 1) (pe_int) (fun _ _ => rfl)) (pe_op xDiv (pv 3) (pe_callB (kLen K) (by rfl) E.f_len (by decide +kernel) (pa_cons (pe_ix (kIx K) (pv 1) (pe_int) (fun _ _ => rfl)) pa_nil))))))
  (pss_cons (ps_if (pt_cmpR op_le (pv 5) (pe_int) (nomark _))
   (pss_one (ps_ret (pe_non)))
   pss_nil)
  (pss_cons (ps_set (i := 6) nd rfl (.inl rfl) (pe_lst (pa_nil)))
  (pss_cons (ps_for PassesOwn.never rfl (pi_range2 (by rfl) E.f_range (pa_cons (pe_op (kAdd K) (pv 2) (pe_int)) (pa_cons (pe_op (kAdd K) (pe_op (kAdd K) (pv 2) (pv 3)) (pe_int)) pa_nil))) (pg_name (i := 4) nd rfl (.inl rfl))
   (pss_one (ps_expr (kBM K (pe_bm PySem.F.plainAttrs_list PySem.F.slot_list_append PySem.F.type_list_append mt_append (pv 6) (pa_cons (pe_op (kAdd K) (pv 4) (pe_op (kMul K) (pe_op (kAdd K) (pe_op xDiv (pe_op xSub (pc (ok__law_at E) hr (by decide) pass0 rfl (pa_cons (pv 1) (pa_cons (pv 4) pa_nil))) (pc (ok__law_at E) hr (by decide) pass0 rfl (pa_cons (pv 0) (pa_cons (pv 4) pa_nil)))) (pv 5)) (pe_int)) (pv 3))) pa_nil))))))
  (pss_one (ps_ret (pe_callB (kMinL K rfl) (by rfl) E.f_min (by decide +kernel) (pa_cons (pv 6) pa_nil))))))))))))), ?_⟩
  change (_ : TS) _ [some v0, some v1, none, none, none, none, none] H
  try dsimp only [cxOf, Cx.nox, Cx.blk]
  obtain ⟨h1, l1, h2, l2, r1, r2, d1, d2, A1, A2, AZ, k⟩ := h
  obtain ⟨a1, th1, tl1, rfl, s1, s2, s3⟩ := dp_raw d1
  obtain ⟨a2, th2, tl2, rfl, t1, t2, t3⟩ := dp_raw d2
  have zh1 := A1.zh
  have zh2 := A2.zh
  have zl1 := A1.zl
  have zl2 := A2.zl
  have r10 := A1.val.r0
  have r20 := A2.val.r0
  have rr1 := A1.br
  have rr2 := A2.br
  walk_at "w"
  obtain ⟨S, hS⟩ : ∃ S : Nat, (S : Int) = max (h1.length : Int) h2.length := ⟨max h1.length h2.length, by omega⟩
  rw [← hS]
  have S1 : h1.length ≤ S := by omega
  have S2 : h2.length ≤ S := by omega
  have S3 : S ≤ 20000 := by omega
  walk_at "w"
  refine r_max3 ?_
  obtain ⟨mm, hm⟩ : ∃ m : Nat, (m : Int) = max (max (1 : Int) l1.length) l2.length := ⟨max (max 1 l1.length) l2.length, by omega⟩
  rw [← hm]
  walk_at "w"
  refine w_cut (M := fun σ' H' => ∃ m : Nat, σ' = [some (.ref a1), some (.ref a2), some (.int S), some (.int m), none, none, none] ∧ H' = H ∧ 1 ≤ m ∧ m ≤ 20000 ∧ (l1 ≠ [] → l2 ≠ [] → l1.length ∣ m ∧ l2.length ∣ m)) ?_ ?_
  · walk_at "w"
    by_cases c1 : l1 = []
    · subst c1
      walk_at "w"
      exact ⟨mm, rfl, rfl, by omega, by omega, fun e => absurd rfl e⟩
    · have l10 : 0 < l1.length := List.length_pos_iff.mpr c1
      walk_at "w"
      by_cases c2 : l2 = []
      · subst c2
        walk_at "w"
        exact ⟨mm, rfl, rfl, by omega, by omega, fun _ e => absurd rfl e⟩
      · have l20 : 0 < l2.length := List.length_pos_iff.mpr c2
        have g0 : (0 : Int) < Int.gcd l1.length l2.length := by
          have := Int.gcd_pos_of_ne_zero_left (l2.length : Int) (show (l1.length : Int) ≠ 0 by omega)
          omega
        have gg : (Int.gcd l1.length l2.length : Int) ≤ l1.length := Int.le_of_dvd (by omega) (Int.gcd_dvd_left ..)
        have q1 : (l1.length : Int) / (Int.gcd l1.length l2.length : Int) ≤ l1.length := Int.ediv_le_self _ (by omega)
        have q2 : 0 ≤ (l1.length : Int) / (Int.gcd l1.length l2.length : Int) := Int.ediv_nonneg (by omega) (by omega)
        walk_at "w"
        refine ⟨_, _, rfl, rfl, by omega, by omega, ?_⟩
        walk_at "w"
        rw [lcm_div]
        have m0 : 0 < Nat.lcm l1.length l2.length := Nat.lcm_pos l10 l20
        exact ⟨_, rfl, rfl, m0, by omega, fun _ _ => ⟨Nat.dvd_lcm_left .., Nat.dvd_lcm_right ..⟩⟩
  rintro σ' H' ⟨m, rfl, rfl, m0, m16, dv⟩
  walk_at "w"
  refine for_range (lo := 1) (Pv := fun i σ' H2 => ∃ x, σ' = [some (.ref a1), some (.ref a2), some (.int S), some (.int m), x, none, none] ∧ Ex H' H2 ∧ ∀ j, j < i → leO (TV h1 l1 r1 j) (TV h2 l2 r2 j) = true) ⟨_, rfl, Ex.refl _, fun j hj => by omega⟩ ?_ ?_
  · rintro i σ' H2 hi ⟨x, rfl, e, hw⟩
    walk_at "w"
    refine ⟨h1, l1, r1, some (1 + (i : Int)), dp_of_raw (ex_t e s1) (ex_t e s2) (ex_t e s3), dp_of_opt (p := some (1 + (i : Int))), fun m hm => by cases hm; omega, A1.val.sm, fun v H3 e3 q3 => ?_⟩
    rw [vat1] at q3
    obtain rfl := dp_toOpt q3
    walk_at "w"
    have e' := e.trans e3
    refine ⟨h2, l2, r2, some (1 + (i : Int)), dp_of_raw (ex_t e' t1) (ex_t e' t2) (ex_t e' t3), dp_of_opt (p := some (1 + (i : Int))), fun m hm => by cases hm; omega, A2.val.sm, fun v H4 e4 q4 => ?_⟩
    rw [vat1] at q4
    obtain rfl := dp_toOpt q4
    walk_at "w"
    refine ⟨_, _, rfl, rfl, ?_⟩
    walk_at "w"
    cases hb : leO (TV h1 l1 r1 i) (TV h2 l2 r2 i) with
    | true =>
      walk_at "w"
      refine ⟨_, rfl, e'.trans e4, fun j hj => ?_⟩
      by_cases c : j = i
      · rw [c]; exact hb
      · exact hw j (by omega)
    | false =>
      walk_at "w"
      refine k (some (1 + (i : Int))) _ (e'.trans e4) (.inr ⟨i, by rw [show (1 : Int) + i = i + 1 by omega], hb, hw⟩)
  rintro σ' H2 ⟨x, rfl, e, hw⟩
  have hw2 : ∀ j, j < S + m → leO (TV h1 l1 r1 j) (TV h2 l2 r2 j) = true := fun j hj => hw j (by omega)
  clear hw
  have U1 := ex_t e s1
  have U2 := ex_t e s2
  have U3 := ex_t e s3
  have V1 := ex_t e t1
  have V2 := ex_t e t2
  have V3 := ex_t e t3
  walk_at "w"
  by_cases c1 : l1 = []
  · have hall := above_ended S1 S2 m0 (.inl c1) hw2
    subst c1
    walk_at "w"
    exact k none _ e (.inl ⟨rfl, hall⟩)
  · have l10 : 0 < l1.length := List.length_pos_iff.mpr c1
    walk_at "w"
    by_cases c2 : l2 = []
    · have hall := above_ended S1 S2 m0 (.inr c2) hw2
      subst c2
      walk_at "w"
      exact k none _ e (.inl ⟨rfl, hall⟩)
    · have l20 : 0 < l2.length := List.length_pos_iff.mpr c2
      obtain ⟨v1, v2⟩ := dv c1 c2
      have q1 := slp_le (l := l1) r10 (show r1 ≤ 1000000000000 by omega) (show m ≤ 50000 by omega)
      have q2 := slp_le (l := l2) r20 (show r2 ≤ 1000000000000 by omega) (show m ≤ 50000 by omega)
      walk_at "w"
      rw [show r1 * ((m : Int) / l1.length) = slp l1 r1 m from rfl, show r2 * ((m : Int) / l2.length) = slp l2 r2 m from rfl]
      by_cases hc : slp l1 r1 m - slp l2 r2 m ≤ 0
      · walk_at "w"
        exact k none _ e (.inl ⟨rfl, above_le c1 c2 S1 S2 m0 v1 v2 hw2 hc⟩)
      · walk_at "w"
        intro p5 H5 n5 e5 g5
        walk_at "w"
        refine for_range (lo := (S : Int) + 1) (Pv := fun i σ' H3 => ∃ (x : Option V), σ' = [some (.ref a1), some (.ref a2), some (.int S), some (.int m), x, some (.int (slp l1 r1 m - slp l2 r2 m)), some (.ref p5)] ∧ Ex H2 H3 ∧ H3 p5 = some (.lst (vI ((List.range i).map (seenV h1 l1 r1 h2 l2 r2 S m)))))
          ⟨_, rfl, e5, g5⟩ ?_ ?_
        · rintro i σ' H3 hi ⟨x, rfl, e3, gp⟩
          walk_at "w"
          have hsp : SqL K H3 p5 _ := sq_of gp
          walk_at "w"
          refine ⟨h2, l2, r2, some ((S : Int) + 1 + (i : Int)), dp_of_raw (ex_t e3 V1) (ex_t e3 V2) (ex_t e3 V3), dp_of_opt (p := some _), fun n hn => by cases hn; omega, A2.val.sm, fun v H4 e4 q4 => ?_⟩
          rw [vatS S i c2] at q4
          obtain rfl := dp_toOpt q4
          walk_at "w"
          have e' := e3.trans e4
          refine ⟨h1, l1, r1, some ((S : Int) + 1 + (i : Int)), dp_of_raw (ex_t e' U1) (ex_t e' U2) (ex_t e' U3), dp_of_opt (p := some _), fun n hn => by cases hn; omega, A1.val.sm, fun v H6 e6 q6 => ?_⟩
          rw [vatS S i c1] at q6
          obtain rfl := dp_toOpt q6
          simp only [optV]
          walk_at "w"
          rw [show ((S : Int) + 1 + i + ((fV h2 l2 r2 (S + i) - fV h1 l1 r1 (S + i)) / (slp l1 r1 m - slp l2 r2 m) + 1) * m) = seenV h1 l1 r1 h2 l2 r2 S m i from rfl]
          have gp6 := e6 _ _ (e4 _ _ gp)
          refine r_app (K := K) gp6 (sz_lt (by rw [List.length_map, List.length_map, List.length_range]; omega)) ?_
          walk_at "w"
          refine ⟨_, rfl, Ex.mut (e'.trans e6) n5, ?_⟩
          rw [List.range_succ, List.map_append]
          show _ = some (HO.lst (List.map V.int _))
          rw [List.map_append]
          exact upd_same
        · rintro σ' H3 ⟨x, rfl, e3, gp⟩
          rw [show ((S : Int) + m + 1 - ((S : Int) + 1)).toNat = m by omega] at gp
          walk_at "w"
          refine r_minL (sq_of gp) (by rw [List.length_map, List.length_range]; omega) fun v hv hmin => ?_
          obtain ⟨k0, hk0, rfl⟩ := List.mem_map.mp hv
          rw [List.mem_range] at hk0
          exact k (some _) _ (e.trans e3) (above_gt c1 c2 S1 S2 m0 v1 v2 hw2 (by omega) (fun k hk => hmin _ (List.mem_map.mpr ⟨k, List.mem_range.mpr hk, rfl⟩)) ⟨k0, hk0, rfl⟩)

end
section
local macro_rules | `(tactic| walk_at "vv") => `(tactic| first | refine w_v0 ?_ | refine w_v1 ?_ | refine w_v2 ?_ | refine w_v3 ?_ | refine w_v4 ?_ | refine w_v5 ?_ | refine w_v6 ?_ | refine w_v7 ?_ | refine w_v8 ?_ | refine w_v9 ?_ | refine w_v10 ?_ | refine w_v11 ?_ | refine w_v12 ?_ | refine w_v13 ?_ | refine w_v14 ?_ | refine w_v15 ?_ | refine w_v16 ?_ | refine w_v17 ?_ | refine w_v18 ?_)
local macro_rules | `(tactic| walk_at "nn") => `(tactic| first | refine w_n0 ?_ | refine w_n1 ?_ | refine w_n2 ?_ | refine w_n3 ?_ | refine w_n4 ?_ | refine w_n5 ?_ | refine w_n6 ?_ | refine w_n7 ?_ | refine w_n8 ?_ | refine w_n9 ?_ | refine w_n10 ?_ | refine w_n11 ?_ | refine w_n12 ?_ | refine w_n13 ?_ | refine w_n14 ?_ | refine w_n15 ?_ | refine w_n16 ?_ | refine w_n17 ?_ | refine w_n18 ?_)
/-! the law's own going through numbers of gives -/
def AtL {α : Type} (P : V → α → Prop) (vs : List V) (ws : List α) : Prop := vs.length = ws.length ∧ ∀ (k : Nat) (v : V) (q : α), vs[k]? = some v → ws[k]? = some q → P v q
theorem AtL.map {α : Type} {P P' : V → α → Prop} {vs : List V} {ws : List α} (f : ∀ v w, P v w → P' v w) (h : AtL P vs ws) : AtL P' vs ws := ⟨h.1, fun k v q a b => f _ _ (h.2 k v q a b)⟩
theorem AtL.nil {α : Type} {P : V → α → Prop} : AtL P [] [] := ⟨rfl, fun k v q a => by cases a⟩
theorem AtL.snoc {α : Type} {P : V → α → Prop} {vs : List V} {ws : List α} {v : V} {w : α} (h : AtL P vs ws) (a : P v w) : AtL P (vs ++ [v]) (ws ++ [w]) := by
  refine ⟨by rw [List.length_append, List.length_append, h.1]; rfl, fun k u q hu hq => ?_⟩
  rcases Nat.lt_or_ge k vs.length with c | c
  · rw [List.getElem?_append_left c] at hu
    rw [List.getElem?_append_left (by rw [← h.1]; exact c)] at hq
    exact h.2 k u q hu hq
  · rw [List.getElem?_append_right c] at hu
    rw [List.getElem?_append_right (by rw [← h.1]; exact c), ← h.1] at hq
    cases hk : k - vs.length with
    | zero => rw [hk] at hu hq; cases hu; cases hq; exact a
    | succ d => rw [hk] at hu; cases hu
theorem AtL.get {α : Type} {P : V → α → Prop} {vs : List V} {ws : List α} {k : Nat} {v : V} (h : AtL P vs ws) (e : vs[k]? = some v) : ∃ q, ws[k]? = some q ∧ P v q := by
  have l := (List.getElem?_eq_some_iff.mp e).1
  have l2 : k < ws.length := by rw [← h.1]; exact l
  exact ⟨ws[k], List.getElem?_eq_getElem l2, h.2 k v _ e (List.getElem?_eq_getElem l2)⟩
theorem lcG_tup {K : PySem.W.Frag} {H : Hp} {Q : VK} {a : Addr} {xs : List V} {j : Nat} {te : TE} {vs : List Nat} {σ : L2.St} (R : Addr → Nat → List V → Hp → Prop) (hn : xs.length ≤ 90000) (σ' : V → L2.St) (hσ : ∀ x, (wipe σ vs).set j (some x) = σ' x) (hw : ∀ x, wipe ((wipe σ vs).set j (some x)) vs = wipe σ vs)
    (h0 : ∀ D, H D = none → R D 0 [] (upd H D (.lst []))) (hl : ∀ D i acc H', R D i acc H' → SqT K H' a xs)
    (he : ∀ D i x acc H' Q', H D = none → H' D = some (.lst acc) → acc.length = i → xs[i]? = some x → R D i acc H' → (∀ y H2, H2 D = some (.lst acc) → R D (i + 1) (acc ++ [y]) (upd H2 D (.lst (acc ++ [y]))) → Q' y H2) → te (σ' x) H' Q')
    (hq : ∀ D acc H', H D = none → R D xs.length acc H' → H' D = some (.lst acc) → acc.length = xs.length → Q (.ref D) H') : LcJ (Itt K a) (gName j) tYes te vs σ H Q := fun D hD =>
  lc_tup (xs := xs) (Pv := fun i H' => ∃ acc, H' D = some (.lst acc) ∧ acc.length = i ∧ R D i acc H') ⟨[], upd_same, rfl, h0 D hD⟩ (fun i H' _ p => by obtain ⟨acc, _, _, r⟩ := p; exact hl D i acc H' r) (fun i x H' hi p => ⟨hw _, by
    obtain ⟨acc, g, hz, r⟩ := p
    show te ((wipe σ vs).set j _) H' _
    rw [hσ]
    have hlt := (List.getElem?_eq_some_iff.mp hi).1
    exact he D i x acc H' _ hD g hz hi r fun y H2 g2 r2 => ⟨acc, g2, sz_lt (by omega), acc ++ [y], upd_same, by rw [List.length_append, hz]; rfl, r2⟩⟩) fun H' p => by
    obtain ⟨acc, g, hz, r⟩ := p
    exact hq D acc H' hD r g hz
/-- a round as the law has it -/
def RdAt (K : PySem.W.Frag) (H : Hp) (D : Addr) (v : V) (w : Rd) : Prop := ∃ q a, v = .ref q ∧ a ≠ D ∧ SqT K H q [.ref a, .int w.2] ∧ H a = some (.lst (vI w.1))
theorem RdAt.ex {K : PySem.W.Frag} {H H' : Hp} {D : Addr} {v : V} {w : Rd} (e : Ex H H') (h : RdAt K H D v w) : RdAt K H' D v w := by
  obtain ⟨q, a, rfl, n, s, g⟩ := h
  exact ⟨q, a, rfl, n, ex_t e s, e _ _ g⟩
theorem RdAt.upd {K : PySem.W.Frag} {H : Hp} {D : Addr} {v : V} {w : Rd} {xs : List V} {o : HO} (hD : H D = some (.lst xs)) (h : RdAt K H D v w) : RdAt K (upd H D o) D v w := by
  obtain ⟨q, a, rfl, n, s, g⟩ := h
  exact ⟨q, a, rfl, n, tex_t (TEx.upd hD) s, by rw [upd_ne n]; exact g⟩
theorem stops_lt {i : Int} {ws : List (List Dd)} : (gvs i ws).length < ws.length ↔ stopsP i ws := by
  constructor
  · intro h
    refine Classical.byContradiction fun c => ?_
    have : gvs i ws = ws.map (tkn i) := List.filter_eq_self.mpr fun w hw => by
      obtain ⟨x, hx, rfl⟩ := List.mem_map.mp hw
      exact gives_iff.mpr fun e => c ⟨x, hx, e⟩
    rw [this, List.length_map] at h
    omega
  · rintro ⟨x, hx, e⟩
    have := List.length_filter_lt_length_iff_exists (p := gives) (l := ws.map (tkn i))
    rw [List.length_map] at this
    exact this.mpr ⟨tkn i x, List.mem_map.mpr ⟨x, hx, rfl⟩, by intro h; exact gives_iff.mp h e⟩
theorem candV_ex {m : Bool} {gv : List Rd} {tk : Int} {n : Nat} {T : Nat → Option Int} (P : Pos1 gv) (hg : gv ≠ []) (hn : 1 ≤ n) (hT : ∀ j, j < n → IsT m gv j (T j)) : ∃ v, CandV T gv tk n v := by
  obtain ⟨v0, hv0⟩ := exV (m := m) (tk := tk) P hg hn
  obtain ⟨⟨c, w, k, h1, h2, h3, h4, _⟩, _⟩ := hv0
  have ht := hT (gsum c) (by omega)
  cases e : T (gsum c) with
  | none => rw [e] at ht; exact absurd rfl (ht c h1)
  | some u => exact ⟨_, w, h2, k, u, h3, by omega, by rw [show n - k - 1 = gsum c by omega]; exact e, rfl⟩
/-- the best of a list by max or min -/
theorem fnd_T {m : Bool} {gv : List Rd} {n : Nat} {T : Nat → Option Int} {fl : List Int} (P : Pos1 gv) (hn : 0 < n) (hT : ∀ j, j < n → IsT m gv j (T j)) (hf : ∀ v, v ∈ fl ↔ CandT T gv n v) : (fl = [] → IsT m gv n none) ∧ ∀ v ∈ fl, (∀ u ∈ fl, bt m v u) → IsT m gv n (some v) :=
  ⟨fun e => .none_ P hn hT fun v hv => by have := (hf v).mpr hv; rw [e] at this; exact absurd this List.not_mem_nil, fun v hv hb => .some_ P hn hT ((hf v).mp hv) fun u hu => hb u ((hf u).mpr hu)⟩
/-- what is found for the n-th give -/
def FV (T : Nat → Option Int) (gv : List Rd) (tk : Int) (n j kk : Nat) (fl : List Int) : Prop := ∀ v, v ∈ fl ↔ ∃ (ix : Nat) (w : Rd) (k : Nat) (u : Int), gv[ix]? = some w ∧ (ix < j ∧ k < w.1.length ∨ ix = j ∧ k < kk) ∧ k < n ∧ T (n - k - 1) = some u ∧ v = tk + u + gI w.1 k
section
variable {T : Nat → Option Int} {gv : List Rd} {tk : Int} {n j kk : Nat} {fl : List Int} {q : Rd} {u : Int}
theorem FV.zero : FV T gv tk n 0 0 [] := fun v => ⟨fun h => absurd h List.not_mem_nil, fun ⟨_, _, _, _, _, h, _⟩ => by omega⟩
theorem FV.next (h : FV T gv tk n j (min n q.1.length) fl) (e : gv[j]? = some q) : FV T gv tk n (j + 1) 0 fl := fun v => by
  rw [h v]
  constructor
  · rintro ⟨ix, w, k, u, a, b, c, d⟩
    refine ⟨ix, w, k, u, a, .inl ?_, c, d⟩
    rcases b with ⟨b1, b2⟩ | ⟨rfl, b2⟩
    · exact ⟨by omega, b2⟩
    · rw [e] at a
      cases a
      omega
  · rintro ⟨ix, w, k, u, a, b, c, d⟩
    refine ⟨ix, w, k, u, a, ?_, c, d⟩
    rcases b with ⟨b1, b2⟩ | ⟨_, b2⟩
    · by_cases x : ix = j
      · subst x
        rw [e] at a
        cases a
        exact .inr ⟨rfl, by omega⟩
      · exact .inl ⟨by omega, b2⟩
    · omega
theorem FV.skip (h : FV T gv tk n j kk fl) (hT : T (n - kk - 1) = none) : FV T gv tk n j (kk + 1) fl := fun v => by
  rw [h v]
  constructor
  · rintro ⟨ix, w, k, u, a, b, c, d⟩
    exact ⟨ix, w, k, u, a, by omega, c, d⟩
  · rintro ⟨ix, w, k, u, a, b, c, d, d2⟩
    refine ⟨ix, w, k, u, a, ?_, c, d, d2⟩
    rcases b with b | ⟨rfl, b2⟩
    · exact .inl b
    · by_cases x : k = kk
      · subst x
        rw [hT] at d
        cases d
      · exact .inr ⟨rfl, by omega⟩
theorem FV.take (h : FV T gv tk n j kk fl) (e : gv[j]? = some q) (hk : kk < n) (hT : T (n - kk - 1) = some u) : FV T gv tk n j (kk + 1) (fl ++ [tk + u + gI q.1 kk]) := fun v => by
  rw [List.mem_append, h v, List.mem_singleton]
  constructor
  · rintro (⟨ix, w, k, u, a, b, c, d⟩ | rfl)
    · exact ⟨ix, w, k, u, a, by omega, c, d⟩
    · exact ⟨j, q, kk, u, e, .inr ⟨rfl, Nat.lt_succ_self _⟩, hk, hT, rfl⟩
  · rintro ⟨ix, w, k, u', a, b, c, d, d2⟩
    rcases b with b | ⟨rfl, b2⟩
    · exact .inl ⟨ix, w, k, u', a, .inl b, c, d, d2⟩
    · by_cases x : k = kk
      · subst x
        rw [hT] at d
        cases d
        rw [e] at a
        cases a
        exact .inr d2
      · exact .inl ⟨ix, w, k, u', a, .inr ⟨rfl, by omega⟩, c, d, d2⟩
theorem FV.cand (h : FV T gv tk n gv.length 0 fl) : ∀ v, v ∈ fl ↔ CandV T gv tk n v := fun v => by
  rw [h v]
  constructor
  · rintro ⟨ix, w, k, u, a, b, c, d, d2⟩
    exact ⟨w, List.mem_of_getElem? a, k, u, by omega, c, d, d2⟩
  · rintro ⟨w, hw, k, u, b, c, d, d2⟩
    obtain ⟨ix, h1, h2⟩ := List.getElem_of_mem hw
    exact ⟨ix, w, k, u, by rw [List.getElem?_eq_getElem h1, h2], .inl ⟨h1, b⟩, c, d, d2⟩
end
/-- the tables that the law keeps are small -/
def SzX (ws : List (List Dd)) (h l : List Int) (r : Int) : Prop := h.length ≤ 2000 ∧ (l.length ≤ if ws.length = 1 then 600 else 24) ∧ r ≤ 600
theorem szx_one {i : Int} {k : Int} {bs : List Dd} {ws : List (List Dd)} (ok : MkOk k bs ws) (one : ws.length = 1) : SzX ws (ndP i bs ws [] [0]).1 (ndP i bs ws [] [0]).2.1 (ndP i bs ws [] [0]).2.2 := by
  have z6 := ok.z6
  have zb := ok.zb
  have zf : (fl ws [0]).length ≤ 600 := by
    unfold fl
    simp only [List.map_cons, List.map_nil, List.flatten_cons, List.flatten_nil, List.append_nil]
    rw [List.getD_eq_getElem?_getD]
    cases e : ws[(0 : Int).toNat]? with
    | none => exact Nat.zero_le _
    | some w => exact z6 w (List.mem_of_getElem? e)
  have e0 : fl ws [] = [] := rfl
  have A := tkn_ok i (bs ++ fl ws [])
  have B := tkn_ok i (fl ws [0])
  rw [e0, List.append_nil] at A
  have W := tb_val A B (by omega) (by omega)
  obtain ⟨_, _, _, a, b, c⟩ := plainF_ok W
  unfold ndP SzX
  rw [e0, List.append_nil, if_pos one]
  have a1 := A.ll
  have b1 := B.ll
  have b2 := B.cl
  have b3 : (tbL (tkn i bs) (tkn i (fl ws [0]))).length = (tkn i (fl ws [0])).1.length := List.length_map ..
  have b4 : tbR (tkn i (fl ws [0])) ≤ (tkn i (fl ws [0])).2 := by
    unfold tbR
    split
    · exact B.c0
    · exact Int.le_refl _
  exact ⟨by omega, by omega, by omega⟩
abbrev N__law_fit : List Str := ["values", "many", "rise"]
theorem sc__law_fit : FnScope N__law_fit ["values", "many", "rise"] (defScope s__law_fit) := ⟨rfl, rfl, rfl, by decide +kernel, rfl, by decide +kernel, by decide +kernel⟩
theorem ok__law_fit {P : Program} {w : World} {K : PySem.W.Frag} {mg : Str → Option Value} {base : Heap} (E : Env P K mg) : Fn P w K mg base CX0 2 "_law_fit" (sp3 fun v m r H Q _ => ∃ (a : Addr) (xs : List Int) (c s : Nat) (d : Int), v = .ref a ∧ m = .int s ∧ r = .int d ∧ SqL K H a (vI xs) ∧ xs.length = c + s ∧ 0 ≤ d ∧ RSm (xs.take c) (xs.drop c) d ∧ RetD K (dRaw (plainF (xs.take c) (xs.drop c) d).1 (plainF (xs.take c) (xs.drop c) d).2.1 (plainF (xs.take c) (xs.drop c) d).2.2) H Q) := by
  obtain ⟨fd, F⟩ := E.dd__law_fit
  refine Fn.mk0 F E.g__law_fit sc__law_fit sp3_len (fun _ _ _ _ _ _ us hl => match us, hl with | [_, _, _], _ => rfl) (fun cdv A outer s H vs Q X hr h => ?_)
  have nd := sc__law_fit.nd
  obtain ⟨v0, v1, v2, rfl, h⟩ := h
  refine ⟨_, (pss_one (ps_ret (pc (ok__law_plain E) hr (by decide) pass0 rfl (pa_cons (pe_slice (kSl K) (pv 0) po_none (po_some (pe_op xSub (pe_callB (kLen K) (by rfl) E.f_len (by decide +kernel) (pa_cons (pv 0) pa_nil)) (pv 1)))) (pa_cons (pe_slice (kSl K) (pv 0) (po_some (pe_op xSub (pe_callB (kLen K) (by rfl) E.f_len (by decide +kernel) (pa_cons (pv 0) pa_nil)) (pv 1))) po_none) (pa_cons (pv 2) pa_nil)))))), ?_⟩
  change (_ : TS) _ [some v0, some v1, some v2] H
  try dsimp only [cxOf, Cx.nox, Cx.blk]
  obtain ⟨a, xs, c, s, d, rfl, rfl, rfl, hx, hl, hd, hR, k⟩ := h
  obtain ⟨z1, z2, z3, z4⟩ := id hR
  rw [List.length_take] at z3
  rw [List.length_drop] at z4
  have ec : (xs.length : Int) - s = c := by omega
  walk_at "w"
  rw [ec]
  walk_at "w"
  intro p1 H1 n1 e1 h1
  walk_at "w"
  rw [ec]
  walk_at "w"
  intro p2 H2 n2 e2 h2
  rw [Int.toNat_natCast] at h1 h2
  walk_at "w"
  refine ⟨false, false, _, _, d, dp_of_intL (sq_of (e2 _ _ h1)), dp_of_intL (sq_of h2), .int d, hd, hR, fun v H5 e5 d5 => ?_⟩
  rw [lawF_eq] at d5
  exact k v H5 (by walk_at "ex") d5
abbrev spLExt (K : PySem.W.Frag) : Sp := sp3 fun a b c H Q _ => ∃ (k i : Int) (m : Bool) (bs : List Dd) (ws : List (List Dd)), Dp K H a (dMk k bs ws) ∧ b = .int i ∧ c = .bl m ∧ MkOk k bs ws ∧ ∀ v H' h l r, Ex H H' → Dp K H' v (dRaw h l r) → Pl (xtV m i bs ws) h l r → SzX ws h l r → Q v H'
abbrev N__law_extreme : List Str := ["maker", "inlet", "most", "begun", "taken", "rounds", "giving", "best", "one", "gain", "longest", "upto", "totals", "n", "found", "values", "k", "way"]
theorem sc__law_extreme : FnScope N__law_extreme ["maker", "inlet", "most"] (defScope s__law_extreme) := ⟨rfl, rfl, rfl, by decide +kernel, rfl, by decide +kernel, by decide +kernel⟩
theorem ok__law_extreme {P : Program} {w : World} {K : PySem.W.Frag} {mg : Str → Option Value} {base : Heap} (E : Env P K mg) : Fn P w K mg base CX0 3 "_law_extreme" (spLExt K) := by
  obtain ⟨fd, F⟩ := E.dd__law_extreme
  refine Fn.mk0 F E.g__law_extreme sc__law_extreme sp3_len (fun _ _ _ _ _ _ us hl => match us, hl with | [_, _, _], _ => rfl) (fun cdv A outer s H vs Q X hr h => ?_)
  have nd := sc__law_extreme.nd
  obtain ⟨v0, v1, v2, rfl, h⟩ := h
  refine ⟨_, (pss_cons (ps_if (pt_cmpR (kEq K hr) (pe_callB (kLen K) (by rfl) E.f_len (by decide +kernel) (pa_cons (pe_ix (kIx K) (pv 0) (pe_int) (fun _ _ => rfl)) pa_nil)) (pe_int) (nomark _))
   (pss_one (ps_ret (pc (ok__law_on E) hr (by decide) pass0 rfl (pa_cons (pv 0) (pa_cons (pv 1) (pa_cons (pe_tup (pa_cons (pe_tup pa_nil) (pa_cons (pe_tup (pa_cons (pe_int) pa_nil)) pa_nil))) pa_nil))))))
   pss_nil)
  (pss_cons (ps_asg (pc (ok__law_ahead E) hr (by decide) pass0 rfl (pa_cons (pe_ix (kIx K) (pv 0) (pe_int) (fun _ _ => rfl)) (pa_cons (pv 1) pa_nil))) (kGtup K rfl (pgs_cons (pg_name (i := 3) nd rfl (.inl rfl)) (pgs_cons (pg_name (i := 4) nd rfl (.inl rfl)) (pgs_nil)))))
  (pss_cons (ps_setLc (i := 5) (own := [("way", 17)]) (g := gName 17) (tt := tYes) rfl nd rfl rfl (sw_true rfl rfl rfl (by decide +kernel)) (kSeq K (pe_ix (kIx K) (pv 0) (pe_int) (fun _ _ => rfl))) (blkOk_by (N := N__law_extreme) (sc := defScope s__law_extreme) (by decide +kernel)) (fun _ _ _ _ _ => pg_name (i := 17) nd rfl (Or.inl rfl)) (fun _ _ _ _ _ => pts_nil) (fun _ _ _ _ _ => pc (ok__law_ahead E) hr (by decide) pass0 rfl (pa_cons (pv 17) (pa_cons (pv 1) pa_nil))))
  (pss_cons (ps_setLc (i := 6) (own := [("one", 8)]) (g := gName 8) rfl nd rfl rfl (sw_true rfl rfl rfl (by decide +kernel)) (kSeq K (pv 5)) (blkOk_by (N := N__law_extreme) (sc := defScope s__law_extreme) (by decide +kernel)) (fun _ _ _ _ _ => pg_name (i := 8) nd rfl (Or.inl rfl)) (fun _ _ _ _ _ => pts_one (pt_cmpR op_gt (pe_callB (kLen K) (by rfl) E.f_len (by decide +kernel) (pa_cons (pe_ix (kIx K) (pv 8) (pe_int) (fun _ _ => rfl)) pa_nil)) (pe_int) (nomark _))) (fun _ _ _ _ _ => pv 8))
  (pss_cut (ps_if (PW.pt (pw_or (pt_cmpR (kEq K hr) (pe_callB (kLen K) (by rfl) E.f_len (by decide +kernel) (pa_cons (pv 6) pa_nil)) (pe_int) (nomark _)) (pw_or1 (PW.pt (pw_and (kTru K (pv 2) (by intro _; rfl)) (pw_and1 (pt_cmpR op_lt (pe_callB (kLen K) (by rfl) E.f_len (by decide +kernel) (pa_cons (pv 6) pa_nil)) (pe_callB (kLen K) (by rfl) E.f_len (by decide +kernel) (pa_cons (pv 5) pa_nil)) (nomark _))))))))
   (pss_one (ps_ret (pe_tup (pa_cons (pe_callTy (kTup K) (by rfl) E.f_tuple (by decide +kernel) (pa_cons (pv 3) pa_nil)) (pa_cons (pe_tup pa_nil) (pa_cons (pe_int) pa_nil))))))
   pss_nil)
  (pss_cons (ps_set (i := 7) nd rfl (.inl rfl) (pe_ix (kIx K) (pv 6) (pe_int) (fun _ _ => rfl)))
  (pss_cut (ps_for PassesOwn.never rfl (kSeq K (pv 6)) (pg_name (i := 8) nd rfl (.inl rfl))
   (pss_cons (ps_set (i := 9) nd rfl (.inl rfl) (pe_op xSub (pe_op (kMul K) (pe_ix (kIx K) (pv 8) (pe_int) (fun _ _ => rfl)) (pe_callB (kLen K) (by rfl) E.f_len (by decide +kernel) (pa_cons (pe_ix (kIx K) (pv 7) (pe_int) (fun _ _ => rfl)) pa_nil))) (pe_op (kMul K) (pe_ix (kIx K) (pv 7) (pe_int) (fun _ _ => rfl)) (pe_callB (kLen K) (by rfl) E.f_len (by decide +kernel) (pa_cons (pe_ix (kIx K) (pv 8) (pe_int) (fun _ _ => rfl)) pa_nil)))))
  (pss_one (ps_if (PW.pt (pw_or (PW.pt (pw_and (pt_cmpR op_gt (pv 9) (pe_int) (nomark _)) (pw_and1 (kTru K (pv 2) (by intro _; rfl))))) (pw_or1 (PW.pt (pw_and (pt_cmpR op_lt (pv 9) (pe_int) (nomark _)) (pw_and1 (pt_not (kTru K (pv 2) (by intro _; rfl)))))))))
   (pss_one (ps_set (i := 7) nd rfl (.inl rfl) (pv 8)))
   pss_nil))))
  (pss_cut (ps_set (i := 10) nd rfl (.inl rfl) (pe_callB (kMaxL K rfl) (by rfl) E.f_max (by decide +kernel) (pa_cons (pe_lc (own := [("one", 8)]) (g := gName 8) (tt := tYes) rfl nd (kSeq K (pv 6)) (blkOk_by (N := N__law_extreme) (sc := defScope s__law_extreme) (by decide +kernel)) (fun _ _ _ _ _ => pg_name (i := 8) nd rfl (Or.inl rfl)) (fun _ _ _ _ _ => pts_nil) (fun _ _ _ _ _ => pe_callB (kLen K) (by rfl) E.f_len (by decide +kernel) (pa_cons (pe_ix (kIx K) (pv 8) (pe_int) (fun _ _ => rfl)) pa_nil))) pa_nil)))
  (pss_cons (ps_set (i := 11) nd rfl (.inl rfl) (pe_op (kAdd K) (pe_op (kMul K) (pe_op (kAdd K) (pe_callB (kLen K) (by rfl) E.f_len (by decide +kernel) (pa_cons (pe_ix (kIx K) (pv 7) (pe_int) (fun _ _ => rfl)) pa_nil)) (pe_int)) (pv 10)) (pe_callB (kLen K) (by rfl) E.f_len (by decide +kernel) (pa_cons (pe_ix (kIx K) (pv 7) (pe_int) (fun _ _ => rfl)) pa_nil))))
  (pss_cons (ps_set (i := 12) nd rfl (.inr rfl) (pe_lst (pa_cons (pe_int) pa_nil)))
  (pss_cut (ps_for PassesOwn.never rfl (pi_range2 (by rfl) E.f_range (pa_cons (pe_int) (pa_cons (pe_op (kAdd K) (pv 11) (pe_int)) pa_nil))) (pg_name (i := 13) nd rfl (.inr rfl))
   (pss_cons (ps_setLc (i := 14) (own := [("one", 8)]) (g := gName 8) rfl nd rfl rfl (sw_true rfl rfl rfl (by decide +kernel)) (kSeq K (pv 6)) (blkOk_by (N := N__law_extreme) (sc := defScope s__law_extreme) (by decide +kernel)) (fun _ _ _ _ _ => pg_name (i := 8) nd rfl (Or.inl rfl)) (fun _ _ _ _ _ => pts_one (PW.pt (pw_and (pt_cmpR op_ge (pv 13) (pe_callB (kLen K) (by rfl) E.f_len (by decide +kernel) (pa_cons (pe_ix (kIx K) (pv 8) (pe_int) (fun _ _ => rfl)) pa_nil)) (nomark _)) (pw_and1 (pt_cmpR xIsNot (pe_ix (kIx K) (pv 12) (pe_op xSub (pv 13) (pe_callB (kLen K) (by rfl) E.f_len (by decide +kernel) (pa_cons (pe_ix (kIx K) (pv 8) (pe_int) (fun _ _ => rfl)) pa_nil))) (fun _ _ => rfl)) (pe_non) (nomark _)))))) (fun _ _ _ _ _ => pe_op (kAdd K) (pe_ix (kIx K) (pv 12) (pe_op xSub (pv 13) (pe_callB (kLen K) (by rfl) E.f_len (by decide +kernel) (pa_cons (pe_ix (kIx K) (pv 8) (pe_int) (fun _ _ => rfl)) pa_nil))) (fun _ _ => rfl)) (pe_ix (kIx K) (pv 8) (pe_int) (fun _ _ => rfl))))
  (pss_one (ps_expr (kBM K (pe_bm PySem.F.plainAttrs_list PySem.F.slot_list_append PySem.F.type_list_append mt_append (pv 12) (pa_cons (pe_ifExp (pt_cmpR (kEq K hr) (pe_callB (kLen K) (by rfl) E.f_len (by decide +kernel) (pa_cons (pv 14) pa_nil)) (pe_int) (nomark _)) (pe_non) (pe_ifExp (kTru K (pv 2) (by intro _; rfl)) (pe_callB (kMaxL K rfl) (by rfl) E.f_max (by decide +kernel) (pa_cons (pv 14) pa_nil)) (pe_callB (kMinL K rfl) (by rfl) E.f_min (by decide +kernel) (pa_cons (pv 14) pa_nil)))) pa_nil)))))))
  (pss_cons (ps_set (i := 15) nd rfl (.inl rfl) (pe_callTy (kLst K) (by rfl) E.f_list (by decide +kernel) (pa_cons (pv 3) pa_nil)))
  (pss_cut (ps_for PassesOwn.never rfl (pi_range2 (by rfl) E.f_range (pa_cons (pe_int) (pa_cons (pe_op (kAdd K) (pv 11) (pe_int)) pa_nil))) (pg_name (i := 13) nd rfl (.inr rfl))
   (pss_cons (ps_set (i := 14) nd rfl (.inl rfl) (pe_lst (pa_nil)))
  (pss_cons (ps_for PassesOwn.never rfl (kSeq K (pv 6)) (pg_name (i := 8) nd rfl (.inl rfl))
   (pss_one (ps_for PassesOwn.never rfl (pi_range1 (by rfl) E.f_range (pa_cons (pe_callB (xMin2 rfl) (by rfl) E.f_min (by decide +kernel) (pa_cons (pv 13) (pa_cons (pe_callB (kLen K) (by rfl) E.f_len (by decide +kernel) (pa_cons (pe_ix (kIx K) (pv 8) (pe_int) (fun _ _ => rfl)) pa_nil)) pa_nil))) pa_nil)) (pg_name (i := 16) nd rfl (.inl rfl))
   (pss_one (ps_if (pt_cmpR xIsNot (pe_ix (kIx K) (pv 12) (pe_op xSub (pe_op xSub (pv 13) (pv 16)) (pe_int)) (fun _ _ => rfl)) (pe_non) (nomark _))
   (pss_one (ps_expr (kBM K (pe_bm PySem.F.plainAttrs_list PySem.F.slot_list_append PySem.F.type_list_append mt_append (pv 14) (pa_cons (pe_op (kAdd K) (pe_op (kAdd K) (pv 4) (pe_ix (kIx K) (pv 12) (pe_op xSub (pe_op xSub (pv 13) (pv 16)) (pe_int)) (fun _ _ => rfl))) (pe_ix (kIx K) (pe_ix (kIx K) (pv 8) (pe_int) (fun _ _ => rfl)) (pv 16) (fun _ _ => rfl))) pa_nil)))))
   pss_nil)))))
  (pss_one (ps_expr (kBM K (pe_bm PySem.F.plainAttrs_list PySem.F.slot_list_append PySem.F.type_list_append mt_append (pv 15) (pa_cons (pe_ifExp (kTru K (pv 2) (by intro _; rfl)) (pe_callB (kMaxL K rfl) (by rfl) E.f_max (by decide +kernel) (pa_cons (pv 14) pa_nil)) (pe_callB (kMinL K rfl) (by rfl) E.f_min (by decide +kernel) (pa_cons (pv 14) pa_nil))) pa_nil))))))))
  (pss_one (ps_ret (pc (ok__law_fit E) hr (by decide) pass0 rfl (pa_cons (pv 15) (pa_cons (pe_callB (kLen K) (by rfl) E.f_len (by decide +kernel) (pa_cons (pe_ix (kIx K) (pv 7) (pe_int) (fun _ _ => rfl)) pa_nil)) (pa_cons (pe_ix (kIx K) (pv 7) (pe_int) (fun _ _ => rfl)) pa_nil))))))))))))))))))), ?_⟩
  change (_ : TS) _ [some v0, some v1, some v2, none, none, none, none, none, none, none, none, none, none, none, none, none, none, none] H
  try dsimp only [cxOf, Cx.nox, Cx.blk]
  obtain ⟨k0, i, m, bs, ws, hd, rfl, rfl, ok, k⟩ := h
  obtain ⟨am, pb, pw, xs, rfl, sm, sb, sx, dx⟩ := dp_mk hd
  have z6 := ok.z6
  have zb := ok.zb
  have w4 := ok.w4
  have w1 := ok.w1
  have zl := (dpAll_len dx).trans (List.length_map ..)
  have zB := (tkn_ok i bs).ll
  walk_at "w"
  by_cases one : ws.length = 1
  · have one' : (xs.length : Int) = 1 := by omega
    walk_at "w"
    intro pe G1 _ e1 g1
    walk_at "w"
    intro pz G2 _ e2 g2
    walk_at "w"
    intro pc G3 _ e3 g3
    walk_at "w"
    have za : (fl ws [0]).length ≤ 40000 := by
      obtain ⟨w', rfl⟩ : ∃ w', ws = [w'] := by
        match ws, one with
        | [w'], _ => exact ⟨w', rfl⟩
      have z1 := z6 w' List.mem_cons_self
      show (w' ++ []).length ≤ _
      rw [List.append_nil]
      omega
    have zd : (bs ++ fl ws []).length ≤ 40000 := by
      show (bs ++ []).length ≤ _
      rw [List.append_nil]
      omega
    refine ⟨k0, bs, ws, i, [], [0], dp_ex ((e1.trans e2).trans e3) hd, rfl, ⟨pc, pe, pz, rfl, .inr (st_of g3), .inr (st_of (e3 _ _ (e2 _ _ g1))), .inr (st_of (e3 _ _ g2))⟩, okN_nil, okN_zero w1, by decide, by decide, by decide, zd, za, fun v H4 e4 d4 => ?_⟩
    refine k v H4 _ _ _ (((e1.trans e2).trans e3).trans e4) d4 ?_ (szx_one ok one)
    rw [xtV_one one]
    exact crs_pl zd za
  · have one' : ¬ ((xs.length : Int) = 1) := by omega
    have z24 : ∀ w ∈ ws, w.length ≤ 24 := fun w hw => by have := ok.zw w hw; rw [if_neg one] at this; exact this
    walk_at "w"
    refine ⟨pb, bs, i, rfl, rfl, .inr sb, by omega, fun q0 tb G1 e1 sq1 nb gb => ?_⟩
    walk_at "w"
    refine i_seqT ?_
    walk_at "w"
    refine lcG_tup (xs := xs) (fun D j acc W => Ex G1 W ∧ AtL (RdAt K W D) acc ((ws.take j).map (tkn i))) (by omega) (fun v => [_, _, _, _, _, _, _, _, _, _, _, _, _, _, _, _, _, some v]) (fun _ => rfl) (fun _ => rfl) (fun D nD => ⟨Ex.new nD, .nil⟩) (fun _ _ _ W c => ex_t (e1.trans c.1) sx) ?_ ?_
    · rintro D j v acc W Q' nD gD zj hv ⟨e, A⟩ kk
      have hj : j < ws.length := by rw [← zl]; exact (List.getElem?_eq_some_iff.mp hv).1
      obtain ⟨d, d1, d2⟩ := dpAll_get (dpAll_ex (e1.trans e) dx) hv
      rw [List.getElem?_map, List.getElem?_eq_getElem hj] at d1
      have d1 : dW ws[j] = d := Option.some.inj d1
      subst d1
      obtain ⟨qa, rfl, sa⟩ := dp_dW d2
      walk_at "w"
      refine ⟨qa, ws[j], i, rfl, rfl, .inr sa, by have := z24 _ (List.getElem_mem hj); omega, fun pq pa W2 e2 sq na ga => ?_⟩
      have g2 := e2 _ _ gD
      refine kk _ _ g2 ⟨Ex.mut (e.trans e2) nD, ?_⟩
      rw [List.take_add_one, List.getElem?_eq_getElem hj, List.map_append]
      have a1 : AtL (RdAt K W2 D) (acc ++ [.ref pq]) ((ws.take j).map (tkn i) ++ [tkn i ws[j]]) := (A.map fun _ _ => .ex e2).snoc ⟨pq, pa, rfl, (ne_of_none gD na).symm, sq, ga⟩
      exact a1.map fun _ _ => .upd g2
    rintro pr rs G2 nr ⟨e2, A2⟩ gr zr
    rw [zl, List.take_length] at A2
    have gr' := sq_of (K := K) gr
    walk_at "w"
    refine i_seqL ?_
    walk_at "w"
    refine lcGF_lst (xs := rs) (fun _ j acc W => Ex G2 W ∧ AtL (RdAt K G2 pr) acc (((ws.map (tkn i)).take j).filter gives)) (by omega) (fun v => [_, _, _, _, _, _, _, _, some v, _, _, _, _, _, _, _, _, _]) (fun _ => rfl) (fun _ => rfl) (fun D nD => ⟨Ex.new nD, .nil⟩) (fun _ _ _ W c => sq_of (c.1 _ _ gr)) ?_ ?_
    · rintro D j v acc W QT nD gD hv ⟨e, A⟩ kF kT
      obtain ⟨ww, hw, ra⟩ := A2.get hv
      obtain ⟨pt, pa, rfl, nea, sq0, ga0⟩ := id ra
      have sq := ex_t e sq0
      have ga := sq_of (K := K) (e _ _ ga0)
      walk_at "w"
      by_cases c : ww.1 = []
      · rw [decide_eq_false (by rw [c]; decide)]
        refine kF _ gD ⟨e, ?_⟩
        rw [List.take_add_one, hw, List.filter_append]
        have : (some ww).toList.filter gives = [] := by
          have hg : gives ww = false := by
            cases h : gives ww with
            | false => rfl
            | true => exact absurd c (gives_iff.mp h)
          simp [hg]
        rw [this, List.append_nil]
        exact A
      · rw [decide_eq_true (by have := List.length_pos_iff.mpr c; omega)]
        refine kT _ fun Q' kk => ?_
        walk_at "w"
        refine kk _ _ gD ⟨Ex.mut e nD, ?_⟩
        rw [List.take_add_one, hw, List.filter_append]
        have : (some ww).toList.filter gives = [ww] := by
          have hg : gives ww = true := gives_iff.mpr c
          simp [hg]
        rw [this]
        exact A.snoc ra
    rintro pg gs G3 ng ⟨e3, A3⟩ gg
    have A3 : AtL (RdAt K G2 pr) gs (gvs i ws) := by
      have l2 := A2.1
      rw [List.length_map] at l2
      rw [show rs.length = (ws.map (tkn i)).length by rw [List.length_map]; exact l2, List.take_length] at A3
      exact A3
    have A3 := A3.map fun _ _ => RdAt.ex e3
    have zg := A3.1
    have gg' := sq_of (K := K) gg
    have gr3 := sq_of (K := K) (e3 _ _ gr)
    have gb3 := (e2.trans e3) _ _ gb
    have gbS := sq_of (K := K) gb3
    have E3 := (e1.trans e2).trans e3
    have zrs : rs.length = ws.length := by rw [zr]; exact zl
    have vB : Val (tkn i bs).1 [] 0 := stn_val (tkn_ok i bs) (by omega)
    have Pg := gvs_pos i ws
    clear A2 e2 e3 gr gr' sx dx sb sm sq1 nb hd nr
    walk_at "w"
    refine w_cut (M := fun σ' H' => ∃ (u1 u2 : Option V), σ' = [some (.ref am), some (.int i), some (.bl m), some (.ref tb), some (.int (tkn i bs).2), some (.ref pr), some (.ref pg), u1, u2, none, none, none, none, none, none, none, none, none] ∧ G3 = H' ∧ gvs i ws ≠ [] ∧ ¬ (m = true ∧ stopsP i ws)) ?_ ?_
    · have endK : (gvs i ws = [] ∨ (m = true ∧ stopsP i ws)) → ∀ a1 a2 a3 H2, Ex G3 H2 → SqT K H2 a1 [.ref a2, .ref a3, .int 0] → SqT K H2 a2 (vI (tkn i bs).1) → SqT K H2 a3 (vI []) → Q (.ref a1) H2 := fun c a1 a2 a3 H2 e2 t1 t2 t3 => k (.ref a1) H2 (tkn i bs).1 [] 0 (E3.trans e2) (dp_of_raw t1 t2 t3) (by rw [xtV_end one c]; exact ⟨vB, plainF_nil, fun j => by rw [tv_end]⟩) ⟨by omega, Nat.zero_le _, by decide⟩
      by_cases gn : gvs i ws = []
      · have g0 : (gs.length : Int) = 0 := by rw [zg, gn]; rfl
        walk_at "w"
        intro a2 H4 e4 s4
        walk_at "w"
        intro a3 H5 n5 e5 g5
        walk_at "w"
        intro a1 H6 n6 e6 g6
        walk_at "w"
        exact endK (.inl gn) a1 a2 a3 H6 ((e4.trans e5).trans e6) (st_of g6) (ex_t (e5.trans e6) s4) (st_of (e6 _ _ g5))
      · have g0 : ¬ ((gs.length : Int) = 0) := by
          have := List.length_pos_iff.mpr gn
          omega
        walk_at "w"
        cases m with
        | false =>
          walk_at "w"
          exact ⟨_, _, rfl, rfl, gn, fun c => by cases c.1⟩
        | true =>
          walk_at "w"
          by_cases st : stopsP i ws
          · have l1 := stops_lt.mpr st
            have l2 : (gs.length : Int) < rs.length := by omega
            walk_at "w"
            intro a2 H4 e4 s4
            walk_at "w"
            intro a3 H5 n5 e5 g5
            walk_at "w"
            intro a1 H6 n6 e6 g6
            walk_at "w"
            exact endK (.inr ⟨rfl, st⟩) a1 a2 a3 H6 ((e4.trans e5).trans e6) (st_of g6) (ex_t (e5.trans e6) s4) (st_of (e6 _ _ g5))
          · have l1 : ¬ ((gvs i ws).length < ws.length) := fun h => st (stops_lt.mp h)
            have l2 : ¬ ((gs.length : Int) < rs.length) := by omega
            walk_at "w"
            exact ⟨_, _, rfl, rfl, gn, fun c => st c.2⟩
    rintro σ' H' ⟨u1, u2, rfl, rfl, gn, ns⟩
    have lg : 0 < gs.length := by rw [zg]; exact List.length_pos_iff.mpr gn
    have zg4 : gs.length ≤ 4 := by
      have := List.length_filter_le gives (ws.map (tkn i))
      rw [List.length_map] at this
      rw [zg]
      show ((ws.map (tkn i)).filter gives).length ≤ 4
      omega
    obtain ⟨v0, hv0⟩ : ∃ v0, gs[0]? = some v0 := ⟨gs[0], List.getElem?_eq_getElem lg⟩
    obtain ⟨b0, hb0, rb0⟩ := A3.get hv0
    walk_at "w"
    refine r_ixL gg' (v := v0) (atI_pos (Int.le_refl _) hv0) ?_
    walk_at "w"
    refine w_cut (M := fun σ' H' => ∃ (bv : V) (b : Rd) (u1 u2 : Option V), σ' = [some (.ref am), some (.int i), some (.bl m), some (.ref tb), some (.int (tkn i bs).2), some (.ref pr), some (.ref pg), some bv, u1, u2, none, none, none, none, none, none, none, none] ∧ G3 = H' ∧ RdAt K G3 pr bv b ∧ Bst m (gvs i ws) b) ?_ ?_
    · walk_at "w"
      refine i_seqL ?_
      walk_at "w"
      refine for_list (xs := gs) (Pv := fun j σ' H' => ∃ (bv : V) (b : Rd) (u1 u2 : Option V), σ' = [some (.ref am), some (.int i), some (.bl m), some (.ref tb), some (.int (tkn i bs).2), some (.ref pr), some (.ref pg), some bv, u1, u2, none, none, none, none, none, none, none, none] ∧ G3 = H' ∧ RdAt K G3 pr bv b ∧ b ∈ gvs i ws ∧ ∀ (idx : Nat) (q : Rd), idx < j → (gvs i ws)[idx]? = some q → bt m (b.2 * q.1.length) (q.2 * b.1.length)) ⟨v0, b0, _, _, rfl, rfl, rb0, List.mem_of_getElem? hb0, fun _ _ h => absurd h (Nat.not_lt_zero _)⟩ (fun j σ' H' _ h => by obtain ⟨_, _, _, _, _, rfl, _⟩ := h; exact gg') ?_ ?_
      · rintro j v σ' H' hv ⟨bv, b, u1, u2, rfl, rfl, rb, hb, rate⟩
        obtain ⟨q, hq, rq⟩ := A3.get hv
        have hm := List.mem_of_getElem? hq
        obtain ⟨s1, s2, s3, s4⟩ := gvs_sz ok one hm
        obtain ⟨t1, t2, t3, t4⟩ := gvs_sz ok one hb
        obtain ⟨qa, qt, rfl, nq, sq, gq⟩ := id rq
        obtain ⟨ba, bt', rfl, nb', sb', gb'⟩ := id rb
        have gq := sq_of (K := K) gq
        have gb' := sq_of (K := K) gb'
        walk_at "w"
        have take : bt m (q.2 * (b.1.length : Int)) (b.2 * (q.1.length : Int)) → ∀ (idx : Nat) (q' : Rd), idx < j + 1 → (gvs i ws)[idx]? = some q' → bt m (q.2 * q'.1.length) (q'.2 * q.1.length) := fun h idx q' hi hq' => by
          rcases Nat.lt_or_ge idx j with c | c
          · exact rate_trans (show 0 < b.1.length from t1) h (rate idx q' c hq')
          · obtain rfl : idx = j := by omega
            rw [hq] at hq'
            cases hq'
            exact bt_refl _ _
        have keep : bt m (b.2 * (q.1.length : Int)) (q.2 * (b.1.length : Int)) → ∀ (idx : Nat) (q' : Rd), idx < j + 1 → (gvs i ws)[idx]? = some q' → bt m (b.2 * q'.1.length) (q'.2 * b.1.length) := fun h idx q' hi hq' => by
          rcases Nat.lt_or_ge idx j with c | c
          · exact rate idx q' c hq'
          · obtain rfl : idx = j := by omega
            rw [hq] at hq'
            cases hq'
            exact h
        cases m with
        | true =>
          by_cases c : 0 < q.2 * (b.1.length : Int) - b.2 * (q.1.length : Int)
          · walk_at "w"
            exact ⟨_, q, _, _, rfl, rfl, rq, hm, take (show b.2 * (q.1.length : Int) ≤ q.2 * (b.1.length : Int) by omega)⟩
          · by_cases c2 : q.2 * (b.1.length : Int) - b.2 * (q.1.length : Int) < 0
            · walk_at "w"
              exact ⟨_, b, _, _, rfl, rfl, rb, hb, keep (show q.2 * (b.1.length : Int) ≤ b.2 * (q.1.length : Int) by omega)⟩
            · walk_at "w"
              exact ⟨_, b, _, _, rfl, rfl, rb, hb, keep (show q.2 * (b.1.length : Int) ≤ b.2 * (q.1.length : Int) by omega)⟩
        | false =>
          by_cases c : 0 < q.2 * (b.1.length : Int) - b.2 * (q.1.length : Int)
          · have c2 : ¬ (q.2 * (b.1.length : Int) - b.2 * (q.1.length : Int) < 0) := by omega
            walk_at "w"
            exact ⟨_, b, _, _, rfl, rfl, rb, hb, keep (show b.2 * (q.1.length : Int) ≤ q.2 * (b.1.length : Int) by omega)⟩
          · by_cases c2 : q.2 * (b.1.length : Int) - b.2 * (q.1.length : Int) < 0
            · walk_at "w"
              exact ⟨_, q, _, _, rfl, rfl, rq, hm, take (show q.2 * (b.1.length : Int) ≤ b.2 * (q.1.length : Int) by omega)⟩
            · walk_at "w"
              exact ⟨_, b, _, _, rfl, rfl, rb, hb, keep (show b.2 * (q.1.length : Int) ≤ q.2 * (b.1.length : Int) by omega)⟩
      rintro σ' H' ⟨bv, b, u1, u2, rfl, rfl, rb, hb, rate⟩
      refine ⟨bv, b, u1, u2, rfl, rfl, rb, hb, fun w hw => ?_⟩
      obtain ⟨idx, hi, he⟩ := List.getElem_of_mem hw
      exact rate idx w (by rw [zg]; exact hi) (by rw [List.getElem?_eq_getElem hi, he])
    rintro σ' H' ⟨bv, b, u3, u4, rfl, rfl, rb, B⟩
    obtain ⟨b1, b2, b3, b4⟩ := gvs_sz ok one B.mem
    obtain ⟨ba, bt', rfl, nb', sb', gb'⟩ := id rb
    have gb' := sq_of (K := K) gb'
    refine w_cut (M := fun σ' H' => ∃ (Lq : Nat) (u1 u2 : Option V), σ' = [some (.ref am), some (.int i), some (.bl m), some (.ref tb), some (.int (tkn i bs).2), some (.ref pr), some (.ref pg), some (.ref ba), u1, u2, some (.int Lq), none, none, none, none, none, none, none] ∧ Ex G3 H' ∧ (∀ w ∈ gvs i ws, w.1.length ≤ Lq) ∧ 1 ≤ Lq ∧ Lq ≤ 24) ?_ ?_
    · walk_at "w"
      refine i_seqL ?_
      walk_at "w"
      refine lcG_lst (xs := gs) (fun _ j acc W => Ex G3 W ∧ acc = vI (((gvs i ws).take j).map fun q => (q.1.length : Int))) (by omega) (fun v => [some (.ref am), some (.int i), some (.bl m), some (.ref tb), some (.int (tkn i bs).2), some (.ref pr), some (.ref pg), some (.ref ba), some v, u4, none, none, none, none, none, none, none, none]) (fun _ => rfl) (fun _ => rfl) (fun D nD => ⟨Ex.new nD, rfl⟩) (fun _ _ _ W c => ex_l c.1 gg') ?_ ?_
      · rintro D j v acc W Q' nD gD _ hv ⟨e, rfl⟩ kk
        obtain ⟨q, hq, rq⟩ := A3.get hv
        obtain ⟨qa, qt, rfl, nq, sq, gq⟩ := id rq
        have sq := ex_t e sq
        have gq := sq_of (K := K) (e _ _ gq)
        walk_at "w"
        refine kk _ _ gD ⟨Ex.mut e nD, ?_⟩
        rw [List.take_add_one, hq, List.map_append]
        show _ = List.map V.int _
        rw [List.map_append]
        rfl
      rintro D acc H2 nD ⟨e2, rfl⟩ gD _
      rw [zg, List.take_length] at gD
      walk_at "w"
      refine r_maxL (sq_of gD) (by rw [List.length_map]; omega) fun L hm hx => ?_
      obtain ⟨qm, hq, rfl⟩ := List.mem_map.mp hm
      obtain ⟨y1, y2, _, _⟩ := gvs_sz ok one hq
      walk_at "w"
      refine ⟨qm.1.length, _, _, rfl, e2, fun w hw => ?_, y1, y2⟩
      have := hx _ (List.mem_map.mpr ⟨w, hw, rfl⟩)
      omega
    rintro σ' G4 ⟨Lq, u1, u2, rfl, e34, hL, l1, l24⟩
    have A4 := A3.map fun _ _ => RdAt.ex e34
    have gg4 := ex_l e34 gg'
    have sb4 := ex_t e34 sb'
    have gb4 := ex_l e34 gb'
    have gbS4 := ex_l e34 gbS
    have E4 := E3.trans e34
    obtain ⟨U, hU⟩ : ∃ U : Nat, U = (b.1.length + 2) * Lq + b.1.length := ⟨_, rfl⟩
    have eU : ((b.1.length : Int) + 2) * (Lq : Int) + b.1.length = (U : Nat) := by rw [hU, Int.natCast_add, Int.natCast_mul, Int.natCast_add]; rfl
    have zU1 : (b.1.length + 2) * Lq ≤ 26 * 24 := Nat.mul_le_mul (by omega) l24
    have zU : U ≤ 648 := by omega
    clear A3 gg' gg gr3 gb3 gbS E3 e34 rb sb' gb' rb0 hv0 hb0 vB
    walk_at "w"
    rw [eU]
    walk_at "w"
    intro pt G5 n5 e5 g5
    walk_at "w"
    refine w_cut (M := fun σ' H' => ∃ (tot : List (Option Int)) (u1 u2 u3 u4 : Option V), σ' = [some (.ref am), some (.int i), some (.bl m), some (.ref tb), some (.int (tkn i bs).2), some (.ref pr), some (.ref pg), some (.ref ba), u1, u2, some (.int Lq), some (.int U), some (.ref pt), u3, u4, none, none, none] ∧ Ex G4 H' ∧ H' pt = some (.lst (tot.map optV)) ∧ tot.length = U + 1 ∧ ∀ j, j < U + 1 → IsT m (gvs i ws) j (tot.getD j none)) ?_ ?_
    · dsimp only [List.set]
      walk_at "w"
      refine for_range (lo := 1) (Pv := fun t σ' H' => ∃ (tot : List (Option Int)) (u1 u2 u3 u4 : Option V), σ' = [some (.ref am), some (.int i), some (.bl m), some (.ref tb), some (.int (tkn i bs).2), some (.ref pr), some (.ref pg), some (.ref ba), u1, u2, some (.int Lq), some (.int U), some (.ref pt), u3, u4, none, none, none] ∧ Ex G4 H' ∧ H' pt = some (.lst (tot.map optV)) ∧ tot.length = t + 1 ∧ ∀ j, j < t + 1 → IsT m (gvs i ws) j (tot.getD j none)) ⟨[some 0], _, _, _, _, rfl, e5, g5, rfl, fun j hj => by obtain rfl : j = 0 := (by omega); exact .zero Pg⟩ ?_ ?_
      · rintro t σ' H' ht ⟨tot, u1, u2, u3, u4, rfl, e, gt, zt, hT⟩
        have gt' := sq_of (K := K) gt
        have gg6 := ex_l e gg4
        have zt' : (tot.map optV).length = t + 1 := by rw [List.length_map]; exact zt
        walk_at "w"
        refine i_seqL ?_
        walk_at "w"
        refine lcGF_lst (xs := gs) (fun _ j acc W => Ex H' W ∧ ∃ fl, acc = vI fl ∧ ∀ v, v ∈ fl ↔ ∃ w u, (∃ ix, ix < j ∧ (gvs i ws)[ix]? = some w) ∧ w.1.length ≤ t + 1 ∧ tot.getD (t + 1 - w.1.length) none = some u ∧ v = u + w.2) (by omega) (fun v => [some (.ref am), some (.int i), some (.bl m), some (.ref tb), some (.int (tkn i bs).2), some (.ref pr), some (.ref pg), some (.ref ba), some v, u2, some (.int Lq), some (.int U), some (.ref pt), some (.int (1 + (t : Int))), u4, none, none, none]) (fun _ => rfl) (fun _ => rfl) (fun D nD => ⟨Ex.new nD, [], rfl, fun v => ⟨fun h => absurd h List.not_mem_nil, fun ⟨_, _, ⟨_, h, _⟩, _⟩ => absurd h (Nat.not_lt_zero _)⟩⟩) (fun _ _ _ W c => ex_l c.1 gg6) ?_ ?_
        · rintro D j v acc W QT nD gD hv ⟨eW, fl, rfl, hf⟩ kF kT
          obtain ⟨q, hq, rq⟩ := A4.get hv
          have hm := List.mem_of_getElem? hq
          obtain ⟨s1, s2, s3, s4⟩ := gvs_sz ok one hm
          obtain ⟨qa, qt, rfl, nq, sq, gq⟩ := id rq
          have sq := ex_t (e.trans eW) sq
          have gq := sq_of (K := K) ((e.trans eW) _ _ gq)
          have gtW := ex_l eW gt'
          have no : (q.1.length ≤ t + 1 → tot.getD (t + 1 - q.1.length) none = none) → ∀ v, v ∈ fl ↔ ∃ w u, (∃ ix, ix < j + 1 ∧ (gvs i ws)[ix]? = some w) ∧ w.1.length ≤ t + 1 ∧ tot.getD (t + 1 - w.1.length) none = some u ∧ v = u + w.2 := fun hn v => by
            rw [hf]
            constructor
            · rintro ⟨w, u, ⟨ix, h1, h2⟩, h3⟩
              exact ⟨w, u, ⟨ix, by omega, h2⟩, h3⟩
            · rintro ⟨w, u, ⟨ix, h1, h2⟩, h3, h4, h5⟩
              by_cases c : ix = j
              · rw [c, hq] at h2
                cases h2
                rw [hn h3] at h4
                cases h4
              · exact ⟨w, u, ⟨ix, by omega, h2⟩, h3, h4, h5⟩
          walk_at "w"
          by_cases c : q.1.length ≤ t + 1
          · have c' : (q.1.length : Int) ≤ 1 + (t : Int) := by omega
            have ei : 1 + (t : Int) - q.1.length = ((t + 1 - q.1.length : Nat) : Int) := by omega
            have lk : t + 1 - q.1.length < tot.length := by omega
            have ix : atI (tot.map optV) ((t + 1 - q.1.length : Nat) : Int) = some (optV (tot.getD (t + 1 - q.1.length) none)) := atI_pos (Int.natCast_nonneg _) (by rw [Int.toNat_natCast, List.getElem?_map, List.getElem?_eq_getElem lk, List.getD_eq_getElem?_getD, List.getElem?_eq_getElem lk]; rfl)
            walk_at "w"
            rw [ei]
            refine r_ixL gtW ix ?_
            walk_at "w"
            cases hT2 : tot.getD (t + 1 - q.1.length) none with
            | none =>
              walk_at "w"
              exact kF _ gD ⟨eW, fl, rfl, no fun _ => hT2⟩
            | some u =>
              rw [hT2] at ix
              walk_at "w"
              refine kT _ fun Q' kk => ?_
              walk_at "w"
              rw [ei]
              refine r_ixL gtW ix ?_
              walk_at "w"
              change rAdd K (.int u) (.int q.2) W Q'
              walk_at "w"
              refine kk _ _ gD ⟨Ex.mut eW nD, fl ++ [u + q.2], ?_, fun v => ?_⟩
              · show _ = List.map V.int _
                rw [List.map_append]
                rfl
              · rw [List.mem_append, hf, List.mem_singleton]
                constructor
                · rintro (⟨w, u', ⟨ix, h1, h2⟩, h3⟩ | rfl)
                  · exact ⟨w, u', ⟨ix, by omega, h2⟩, h3⟩
                  · exact ⟨q, u, ⟨j, by omega, hq⟩, c, hT2, rfl⟩
                · rintro ⟨w, u', ⟨ix, h1, h2⟩, h3, h4, h5⟩
                  by_cases d : ix = j
                  · rw [d, hq] at h2
                    cases h2
                    rw [hT2] at h4
                    cases h4
                    exact .inr h5
                  · exact .inl ⟨w, u', ⟨ix, by omega, h2⟩, h3, h4, h5⟩
          · have c' : ¬ ((q.1.length : Int) ≤ 1 + (t : Int)) := by omega
            walk_at "w"
            exact kF _ gD ⟨eW, fl, rfl, no fun h => absurd h c⟩
        rintro pf acc H6 n6 ⟨e6, fl, rfl, hf⟩ g6
        have hf : ∀ v, v ∈ fl ↔ CandT (fun j => tot.getD j none) (gvs i ws) (t + 1) v := fun v => by
          rw [hf]
          constructor
          · rintro ⟨w, u, ⟨ix, _, h2⟩, h3, h4, h5⟩
            exact ⟨w, List.mem_of_getElem? h2, u, h3, h4, h5⟩
          · rintro ⟨w, hw, u, h3, h4, h5⟩
            obtain ⟨ix, h1, h2⟩ := List.getElem_of_mem hw
            exact ⟨w, u, ⟨ix, by rw [zg]; exact h1, by rw [List.getElem?_eq_getElem h1, h2]⟩, h3, h4, h5⟩
        obtain ⟨k1, k2⟩ := fnd_T (m := m) Pg (Nat.succ_pos t) (fun j hj => hT j hj) hf
        have g6' := sq_of (K := K) g6
        have gt6 := e6 _ _ gt
        have fin : ∀ (o : Option Int) (u1 u2 u3 u4 : Option V), IsT m (gvs i ws) (t + 1) o → ∃ (tot' : List (Option Int)) (w1 w2 w3 w4 : Option V), [some (.ref am), some (.int i), some (.bl m), some (.ref tb), some (.int (tkn i bs).2), some (.ref pr), some (.ref pg), some (.ref ba), u1, u2, some (.int Lq), some (.int U), some (.ref pt), u3, u4, none, none, none] = [some (.ref am), some (.int i), some (.bl m), some (.ref tb), some (.int (tkn i bs).2), some (.ref pr), some (.ref pg), some (.ref ba), w1, w2, some (.int Lq), some (.int U), some (.ref pt), w3, w4, none, none, none] ∧ Ex G4 (upd H6 pt (.lst (tot.map optV ++ [optV o]))) ∧ upd H6 pt (.lst (tot.map optV ++ [optV o])) pt = some (.lst (tot'.map optV)) ∧ tot'.length = t + 1 + 1 ∧ ∀ j, j < t + 1 + 1 → IsT m (gvs i ws) j (tot'.getD j none) := fun o u1 u2 u3 u4 io => by
          refine ⟨tot ++ [o], u1, u2, u3, u4, rfl, Ex.mut (e.trans e6) n5, ?_, by rw [List.length_append, zt]; rfl, fun j hj => ?_⟩
          · rw [upd_same, List.map_append]
            rfl
          · rw [List.getD_eq_getElem?_getD]
            rcases Nat.lt_or_ge j tot.length with c | c
            · rw [List.getElem?_append_left c, ← List.getD_eq_getElem?_getD]
              exact hT j (by omega)
            · obtain rfl : j = t + 1 := by omega
              rw [List.getElem?_append_right c, zt, Nat.sub_self]
              exact io
        walk_at "w"
        by_cases c : fl = []
        · have c0 : (fl.length : Int) = 0 := by rw [c]; rfl
          walk_at "w"
          refine r_app (K := K) gt6 (sz_lt (by omega)) ?_
          walk_at "w"
          exact fin none _ _ _ _ (k1 c)
        · have l0 := List.length_pos_iff.mpr c
          have c0 : ¬ ((fl.length : Int) = 0) := by omega
          walk_at "w"
          cases m with
          | true =>
            walk_at "w"
            refine r_maxL g6' l0 fun v hv hx => ?_
            walk_at "w"
            refine r_app (K := K) gt6 (sz_lt (by omega)) ?_
            walk_at "w"
            exact fin (some v) _ _ _ _ (k2 v hv fun u hu => hx u hu)
          | false =>
            walk_at "w"
            refine r_minL g6' l0 fun v hv hx => ?_
            walk_at "w"
            refine r_app (K := K) gt6 (sz_lt (by omega)) ?_
            walk_at "w"
            exact fin (some v) _ _ _ _ (k2 v hv fun u hu => hx u hu)
      rintro σ' H' ⟨tot, u1, u2, u3, u4, rfl, e, gt, zt, hT⟩
      rw [show ((U : Int) + 1 - 1).toNat = U by omega] at zt hT
      exact ⟨tot, u1, u2, u3, u4, rfl, e, gt, zt, hT⟩
    rintro σ' G6 ⟨tot, u3, u4, u5, u6, rfl, e46, gt6, zt, hT⟩
    have A6 := A4.map fun _ _ => RdAt.ex e46
    have gg6 := ex_l e46 gg4
    have sb6 := ex_t e46 sb4
    have gb6 := ex_l e46 gb4
    have gbS6 := ex_l e46 gbS4
    have gt6' := sq_of (K := K) gt6
    have zt' : (tot.map optV).length = U + 1 := by rw [List.length_map]; exact zt
    have E6 := E4.trans e46
    clear A4 gg4 sb4 gb4 gbS4 E4 e46 e5 g5 n5 u1 u2
    walk_at "w"
    intro pv G7 n7 e7 g7
    walk_at "w"
    refine w_cut (M := fun σ' H' => ∃ (u1 u2 u3 u4 u5 : Option V), σ' = [some (.ref am), some (.int i), some (.bl m), some (.ref tb), some (.int (tkn i bs).2), some (.ref pr), some (.ref pg), some (.ref ba), u1, u2, some (.int Lq), some (.int U), some (.ref pt), u3, u4, some (.ref pv), u5, none] ∧ Ex G6 H' ∧ H' pv = some (.lst (vI ((List.range ((tkn i bs).1.length + U)).map (exF m (tkn i bs) (gvs i ws)))))) ?_ ?_
    · have npv := n7
      have g7' : G7 pv = some (.lst (vI ((List.range ((tkn i bs).1.length + 0)).map (exF m (tkn i bs) (gvs i ws))))) := by rw [Nat.add_zero, exF_bg]; exact g7
      walk_at "w"
      refine for_range (lo := 1) (Pv := fun t σ' H' => ∃ (u1 u2 u3 u4 u5 : Option V), σ' = [some (.ref am), some (.int i), some (.bl m), some (.ref tb), some (.int (tkn i bs).2), some (.ref pr), some (.ref pg), some (.ref ba), u1, u2, some (.int Lq), some (.int U), some (.ref pt), u3, u4, some (.ref pv), u5, none] ∧ Ex G6 H' ∧ H' pv = some (.lst (vI ((List.range ((tkn i bs).1.length + t)).map (exF m (tkn i bs) (gvs i ws)))))) ⟨_, _, _, _, _, rfl, e7, g7'⟩ ?_ ?_
      · rintro t σ' H' ht ⟨u1, u2, u3, u4, u5, rfl, e, gv⟩
        walk_at "w"
        intro pf H8 n8 e8 g8
        have e8' := e.trans e8
        walk_at "w"
        refine i_seqL ?_
        have gg8 := ex_l e8' gg6
        walk_at "w"
        refine for_list (xs := gs) (Pv := fun j σ' H2 => ∃ (fl : List Int) (u1 u2 u5 : Option V), σ' = [some (.ref am), some (.int i), some (.bl m), some (.ref tb), some (.int (tkn i bs).2), some (.ref pr), some (.ref pg), some (.ref ba), u1, u2, some (.int Lq), some (.int U), some (.ref pt), some (.int (1 + (t : Int))), some (.ref pf), some (.ref pv), u5, none] ∧ Ex H' H2 ∧ H2 pf = some (.lst (vI fl)) ∧ fl.length ≤ j * 1000 ∧ FV (fun j => tot.getD j none) (gvs i ws) (tkn i bs).2 (t + 1) j 0 fl) ⟨[], _, _, _, rfl, e8, g8, Nat.zero_le _, .zero⟩ (fun j σ' H2 _ h => by obtain ⟨_, _, _, _, _, e2, _⟩ := h; exact ex_l (e.trans e2) gg6) ?_ ?_
        · rintro j v σ' H2 hv ⟨fl, u1, u2, u5, rfl, e2, gf, zf, fv⟩
          obtain ⟨q, hq, rq⟩ := A6.get hv
          have hj4 : j < 4 := by have := (List.getElem?_eq_some_iff.mp hv).1; omega
          have hm := List.mem_of_getElem? hq
          obtain ⟨s1, s2, s3, s4⟩ := gvs_sz ok one hm
          obtain ⟨qa, qt, rfl, nq, sq, gq⟩ := id rq
          have e22 := e.trans e2
          have sq2 := ex_t e22 sq
          have gq2 := sq_of (K := K) (e22 _ _ gq)
          walk_at "w"
          obtain ⟨M, hM⟩ : ∃ M : Nat, M = min (t + 1) q.1.length := ⟨_, rfl⟩
          have eM : min (1 + (t : Int)) (q.1.length : Int) = (M : Nat) := by omega
          rw [eM]
          walk_at "w"
          refine for_range (lo := 0) (Pv := fun kk σ' H3 => ∃ (fl : List Int) (u5 : Option V), σ' = [some (.ref am), some (.int i), some (.bl m), some (.ref tb), some (.int (tkn i bs).2), some (.ref pr), some (.ref pg), some (.ref ba), some (.ref qa), u2, some (.int Lq), some (.int U), some (.ref pt), some (.int (1 + (t : Int))), some (.ref pf), some (.ref pv), u5, none] ∧ Ex H' H3 ∧ H3 pf = some (.lst (vI fl)) ∧ fl.length ≤ j * 1000 + kk ∧ FV (fun j => tot.getD j none) (gvs i ws) (tkn i bs).2 (t + 1) j kk fl) ⟨fl, _, rfl, e2, gf, zf, fv⟩ ?_ ?_
          · rintro kk σ' H3 hkk ⟨fl, u5, rfl, e3, gf, zf, fv⟩
            rw [Int.toNat_natCast] at hkk
            have e33 := e.trans e3
            have sq3 := ex_t e33 sq
            have gq3 := sq_of (K := K) (e33 _ _ gq)
            have gt3 := ex_l e33 gt6'
            have ei : 1 + (t : Int) - (0 + (kk : Int)) - 1 = ((t + 1 - kk - 1 : Nat) : Int) := by omega
            have ek : (0 : Int) + (kk : Int) = (kk : Int) := Int.zero_add _
            have lk : t + 1 - kk - 1 < tot.length := by omega
            have ix : atI (tot.map optV) ((t + 1 - kk - 1 : Nat) : Int) = some (optV (tot.getD (t + 1 - kk - 1) none)) := atI_pos (Int.natCast_nonneg _) (by rw [Int.toNat_natCast, List.getElem?_map, List.getElem?_eq_getElem lk, List.getD_eq_getElem?_getD, List.getElem?_eq_getElem lk]; rfl)
            walk_at "w"
            rw [ei]
            refine r_ixL gt3 ix ?_
            walk_at "w"
            cases hT2 : tot.getD (t + 1 - kk - 1) none with
            | none =>
              walk_at "w"
              exact ⟨fl, _, rfl, e3, gf, by omega, fv.skip hT2⟩
            | some u =>
              rw [hT2] at ix
              walk_at "w"
              rw [ei]
              refine r_ixL gt3 ix ?_
              change rAdd K (.int (tkn i bs).2) (.int u) H3 _
              walk_at "w"
              refine r_app (K := K) gf (sz_lt (by rw [List.length_map]; omega)) ?_
              walk_at "w"
              refine ⟨fl ++ [(tkn i bs).2 + u + gI q.1 (kk : Nat)], _, rfl, Ex.mut e3 n8, ?_, by rw [List.length_append, List.length_singleton]; omega, fv.take hq (by omega) hT2⟩
              rw [upd_same, ek]
              show some (HO.lst _) = some (HO.lst (List.map V.int _))
              rw [List.map_append]
              rfl
          rintro σ' H3 ⟨fl, u5, rfl, e3, gf, zf, fv⟩
          rw [Int.toNat_natCast, hM] at fv
          rw [Int.toNat_natCast] at zf
          exact ⟨fl, _, _, _, rfl, e3, gf, by omega, fv.next hq⟩
        rintro σ' H2 ⟨fl, u1, u2, u5, rfl, e2, gf, zf, fv⟩
        rw [zg] at fv
        have hc := fv.cand
        have hT' : ∀ j, j < t + 1 → IsT m (gvs i ws) j (tot.getD j none) := fun j hj => hT j (by omega)
        obtain ⟨vx, hvx⟩ := candV_ex (tk := (tkn i bs).2) Pg gn (Nat.succ_pos t) hT'
        have l0 : 0 < fl.length := List.length_pos_of_mem ((hc vx).mpr hvx)
        have gf' := sq_of (K := K) gf
        have gv2 := e2 _ _ gv
        have best : ∀ v ∈ fl, (∀ u ∈ fl, bt m v u) → ∃ (u1' u2' u3' u4' u5' : Option V), [some (.ref am), some (.int i), some (.bl m), some (.ref tb), some (.int (tkn i bs).2), some (.ref pr), some (.ref pg), some (.ref ba), u1, u2, some (.int Lq), some (.int U), some (.ref pt), some (.int (1 + (t : Int))), some (.ref pf), some (.ref pv), u5, none] = [some (.ref am), some (.int i), some (.bl m), some (.ref tb), some (.int (tkn i bs).2), some (.ref pr), some (.ref pg), some (.ref ba), u1', u2', some (.int Lq), some (.int U), some (.ref pt), u3', u4', some (.ref pv), u5', none] ∧
            Ex G6 (upd H2 pv (.lst (vI ((List.range ((tkn i bs).1.length + t)).map (exF m (tkn i bs) (gvs i ws))) ++ [.int v]))) ∧ upd H2 pv (.lst (vI ((List.range ((tkn i bs).1.length + t)).map (exF m (tkn i bs) (gvs i ws))) ++ [.int v])) pv = some (.lst (vI ((List.range ((tkn i bs).1.length + (t + 1))).map (exF m (tkn i bs) (gvs i ws))))) := fun v hv hb => by
          refine ⟨_, _, _, _, _, rfl, Ex.mut (e.trans e2) npv, ?_⟩
          have iv : IsV m (gvs i ws) (tkn i bs).2 (t + 1) v := .of hT' ((hc v).mp hv) fun u hu => hb u ((hc u).mpr hu)
          have ev : v = exF m (tkn i bs) (gvs i ws) ((tkn i bs).1.length + t) := by
            rw [exF_hi (by omega), show (tkn i bs).1.length + t - (tkn i bs).1.length + 1 = t + 1 by omega]
            exact iv.uniq (Vf_ok Pg gn (by omega))
          rw [upd_same, ← Nat.add_assoc, List.range_succ, List.map_append, ev]
          show some (HO.lst _) = some (HO.lst (List.map V.int _))
          rw [List.map_append]
          rfl
        walk_at "w"
        cases m with
        | true =>
          walk_at "w"
          refine r_maxL gf' l0 fun v hv hx => ?_
          walk_at "w"
          refine r_app (K := K) gv2 (sz_lt (by rw [List.length_map, List.length_map, List.length_range]; omega)) ?_
          walk_at "w"
          exact best v hv hx
        | false =>
          walk_at "w"
          refine r_minL gf' l0 fun v hv hx => ?_
          walk_at "w"
          refine r_app (K := K) gv2 (sz_lt (by rw [List.length_map, List.length_map, List.length_range]; omega)) ?_
          walk_at "w"
          exact best v hv hx
      rintro σ' H' ⟨u1, u2, u3, u4, u5, rfl, e, gv⟩
      rw [show ((U : Int) + 1 - 1).toNat = U by omega] at gv
      exact ⟨u1, u2, u3, u4, u5, rfl, e, gv⟩
    rintro σ' G8 ⟨u1, u2, u7, u8, u9, rfl, e8, gv⟩
    have sb8 := ex_t e8 sb6
    have gb8 := ex_l e8 gb6
    obtain ⟨c, hc⟩ : ∃ c : Nat, c = (tkn i bs).1.length + (b.1.length + 2) * Lq := ⟨_, rfl⟩
    have ecU : (tkn i bs).1.length + U = c + b.1.length := by omega
    have cb : (tkn i bs).1.length + b.1.length * Lq ≤ c := by rw [hc, Nat.add_mul]; omega
    rw [ecU] at gv
    obtain ⟨V, pl⟩ := xt_tab one gn ns B hL cb rfl (by omega) (by omega) (by omega)
    obtain ⟨_, _, _, y1, y2, y3⟩ := plainF_ok V
    have zx : ((List.range (c + b.1.length)).map (exF m (tkn i bs) (gvs i ws))).length = c + b.1.length := by rw [List.length_map, List.length_range]
    have z1 : (((List.range (c + b.1.length)).map (exF m (tkn i bs) (gvs i ws))).take c).length = c := by rw [List.length_take, zx]; omega
    have z2 : (((List.range (c + b.1.length)).map (exF m (tkn i bs) (gvs i ws))).drop c).length = b.1.length := by rw [List.length_drop, zx]; omega
    walk_at "w"
    refine ⟨pv, _, c, b.1.length, b.2, rfl, rfl, rfl, sq_of gv, zx, b3, ⟨by omega, by omega, by omega, by omega⟩, fun v H9 e9 d9 => ?_⟩
    refine k v H9 _ _ _ ((E6.trans e8).trans e9) d9 pl ⟨by omega, ?_, by omega⟩
    rw [if_neg one]
    omega

end
section
/-! the need on a course, round by round -/
theorem cRd_app {i : Int} {ws : List (List Dd)} {a b : List Int} : cRd i ws (a ++ b) = cRd i ws a ++ cRd i ws b := by
  unfold cRd
  rw [List.map_append]
theorem gsum_cRep {i : Int} {ws : List (List Dd)} {ms : List Int} : ∀ g : Nat, gsum (cRd i ws (List.replicate g ms).flatten) = g * gsum (cRd i ws ms)
  | 0 => by rw [Nat.zero_mul]; rfl
  | g + 1 => by
    rw [List.replicate_succ, List.flatten_cons, cRd_app, gsum_app, gsum_cRep g, Nat.succ_mul]
    omega
/-- where the course has come to: N done, x next -/
def Nxt (ns ms : List Int) (N : List Int) (x : Int) : Prop := ∀ g0 : Nat, ∃ g rest, g0 < g ∧ ns ++ (List.replicate g ms).flatten = N ++ x :: rest
theorem nxt_head {ns ms : List Int} {a : Nat} {x : Int} (h : ns[a]? = some x) : Nxt ns ms (ns.take a) x := fun g0 => by
  have hl := (List.getElem?_eq_some_iff.mp h).1
  have e : ns = ns.take a ++ x :: ns.drop (a + 1) := by
    have := List.take_append_drop a ns
    rw [List.drop_eq_getElem_cons hl] at this
    rw [List.getElem?_eq_getElem hl] at h
    rw [← Option.some.inj h]
    exact this.symm
  refine ⟨g0 + 1, ns.drop (a + 1) ++ (List.replicate (g0 + 1) ms).flatten, by omega, ?_⟩
  conv => lhs; rw [e]
  rw [List.append_assoc]
  rfl
theorem nxt_loop {ns ms : List Int} {a : Nat} {x : Int} (t : Nat) (h : ms[a]? = some x) : Nxt ns ms (ns ++ (List.replicate t ms).flatten ++ ms.take a) x := fun g0 => by
  have hl := (List.getElem?_eq_some_iff.mp h).1
  have e : ms = ms.take a ++ x :: ms.drop (a + 1) := by
    have := List.take_append_drop a ms
    rw [List.drop_eq_getElem_cons hl] at this
    rw [List.getElem?_eq_getElem hl] at h
    rw [← Option.some.inj h]
    exact this.symm
  refine ⟨t + (1 + g0), ms.drop (a + 1) ++ (List.replicate g0 ms).flatten, by omega, ?_⟩
  have e2 : (List.replicate (t + (1 + g0)) ms).flatten = (List.replicate t ms).flatten ++ (ms ++ (List.replicate g0 ms).flatten) := by
    rw [← List.replicate_append_replicate, List.flatten_append, ← List.replicate_append_replicate, List.flatten_append]
    simp
  rw [e2]
  have e3 : ms ++ (List.replicate g0 ms).flatten = ms.take a ++ x :: (ms.drop (a + 1) ++ (List.replicate g0 ms).flatten) := by
    generalize (List.replicate g0 ms).flatten = zz
    conv => lhs; rw [e]
    rw [List.append_assoc]
    rfl
  rw [e3]
  simp only [List.append_assoc]
section
variable {i : Int} {bs : List Dd} {ws : List (List Dd)} {ns ms : List Int} {j : Nat}
theorem na_hit {N : List Int} {x : Int} {k : Nat} (h : Nxt ns ms N x) (hk : k < (tkn i (ws.getD x.toNat [])).1.length) (ej : j = gsum (cRd i ws N) + k) :
    crsV i bs ws ns ms ((tkn i bs).1.length + j) = some ((tkn i bs).2 + tsum (cRd i ws N) + gI (tkn i (ws.getD x.toNat [])).1 (k : Nat)) := by
  obtain ⟨g, rest, hg, e⟩ := h ((tkn i bs).1.length + j)
  rw [crs_hi hg, e, cRd_app, ej]
  exact run_at hk _ _ _
theorem na_none (h0 : gsum (cRd i ws ms) = 0) (hj : gsum (cRd i ws ns) ≤ j) : crsV i bs ws ns ms ((tkn i bs).1.length + j) = none := by
  rw [crs_hi (g := (tkn i bs).1.length + j + 1) (by omega), List.getElem?_eq_none]
  rw [run_len, cRd_app, gsum_app, gsum_cRep, h0]
  omega
end
theorem rd_get {K : PySem.W.Frag} {H : Hp} {D : Addr} {rs : List V} {i : Int} {ws : List (List Dd)} {n : Int} (h : AtL (RdAt K H D) rs (ws.map (tkn i))) (n0 : 0 ≤ n) (n1 : n < ws.length) : ∃ q a, atI rs n = some (.ref q) ∧ SqT K H q [.ref a, .int (tkn i (ws.getD n.toNat [])).2] ∧ H a = some (.lst (vI (tkn i (ws.getD n.toNat [])).1)) := by
  have hw : n.toNat < ws.length := by omega
  have hl : n.toNat < rs.length := by rw [h.1, List.length_map]; exact hw
  have a := h.2 n.toNat _ _ (List.getElem?_eq_getElem hl) (by rw [List.getElem?_map, List.getElem?_eq_getElem hw]; rfl)
  obtain ⟨q, t, e, _, s, g⟩ := a
  have ew : ws.getD n.toNat [] = ws[n.toNat] := by rw [List.getD_eq_getElem?_getD, List.getElem?_eq_getElem hw]; rfl
  rw [ew]
  exact ⟨q, t, atI_pos n0 (by rw [List.getElem?_eq_getElem hl, e]), s, g⟩
abbrev spNeedAt (K : PySem.W.Frag) : Sp := sp4 fun a b c d H Q _ => ∃ (k i : Int) (bs : List Dd) (ws : List (List Dd)) (ns ms : List Int) (cc p q : Addr) (n : Nat), Dp K H a (dMk k bs ws) ∧ b = .int i ∧ c = .ref cc ∧ SqT K H cc [.ref p, .ref q] ∧ SqT K H p (vI ns) ∧ SqT K H q (vI ms) ∧ d = .int ((n : Int) + 1) ∧ okN ws ns ∧ okN ws ms ∧ MkOk k bs ws ∧ n < 2000 ∧
  ∀ H', Ex H H' → Q (optV (crsV i bs ws ns ms n)) H'
abbrev N__law_need_at : List Str := ["maker", "inlet", "course", "piece", "begun", "taken", "left", "rounds", "number", "turn", "way"]
theorem sc__law_need_at : FnScope N__law_need_at ["maker", "inlet", "course", "piece"] (defScope s__law_need_at) := ⟨rfl, rfl, rfl, by decide +kernel, rfl, by decide +kernel, by decide +kernel⟩
theorem ok__law_need_at {P : Program} {w : World} {K : PySem.W.Frag} {mg : Str → Option Value} {base : Heap} (E : Env P K mg) : Fn P w K mg base CX0 2 "_law_need_at" (spNeedAt K) := by
  obtain ⟨fd, F⟩ := E.dd__law_need_at
  refine Fn.mk0 F E.g__law_need_at sc__law_need_at sp4_len (fun _ _ _ _ _ _ us hl => match us, hl with | [_, _, _, _], _ => rfl) (fun cdv A outer s H vs Q X hr h => ?_)
  have nd := sc__law_need_at.nd
  obtain ⟨v0, v1, v2, v3, rfl, h⟩ := h
  refine ⟨_, (pss_cons (ps_asg (pc (ok__law_ahead E) hr (by decide) pass0 rfl (pa_cons (pe_ix (kIx K) (pv 0) (pe_int) (fun _ _ => rfl)) (pa_cons (pv 1) pa_nil))) (kGtup K rfl (pgs_cons (pg_name (i := 4) nd rfl (.inl rfl)) (pgs_cons (pg_name (i := 5) nd rfl (.inl rfl)) (pgs_nil)))))
  (pss_cut (ps_if (pt_cmpR op_le (pv 3) (pe_callB (kLen K) (by rfl) E.f_len (by decide +kernel) (pa_cons (pv 4) pa_nil)) (nomark _))
   (pss_one (ps_ret (pe_ix (kIx K) (pv 4) (pe_op xSub (pv 3) (pe_int)) (fun _ _ => rfl))))
   pss_nil)
  (pss_cons (ps_set (i := 6) nd rfl (.inl rfl) (pe_op xSub (pv 3) (pe_callB (kLen K) (by rfl) E.f_len (by decide +kernel) (pa_cons (pv 4) pa_nil))))
  (pss_cons (ps_setLc (i := 7) (own := [("way", 10)]) (g := gName 10) (tt := tYes) rfl nd rfl rfl (sw_true rfl rfl rfl (by decide +kernel)) (kSeq K (pe_ix (kIx K) (pv 0) (pe_int) (fun _ _ => rfl))) (blkOk_by (N := N__law_need_at) (sc := defScope s__law_need_at) (by decide +kernel)) (fun _ _ _ _ _ => pg_name (i := 10) nd rfl (Or.inl rfl)) (fun _ _ _ _ _ => pts_nil) (fun _ _ _ _ _ => pc (ok__law_ahead E) hr (by decide) pass0 rfl (pa_cons (pv 10) (pa_cons (pv 1) pa_nil))))
  (pss_cut (ps_for PassesOwn.never rfl (kSeq K (pe_ix (kIx K) (pv 2) (pe_int) (fun _ _ => rfl))) (pg_name (i := 8) nd rfl (.inl rfl))
   (pss_cons (ps_if (pt_cmpR op_le (pv 6) (pe_callB (kLen K) (by rfl) E.f_len (by decide +kernel) (pa_cons (pe_ix (kIx K) (pe_ix (kIx K) (pv 7) (pv 8) (fun _ _ => rfl)) (pe_int) (fun _ _ => rfl)) pa_nil)) (nomark _))
   (pss_one (ps_ret (pe_op (kAdd K) (pv 5) (pe_ix (kIx K) (pe_ix (kIx K) (pe_ix (kIx K) (pv 7) (pv 8) (fun _ _ => rfl)) (pe_int) (fun _ _ => rfl)) (pe_op xSub (pv 6) (pe_int)) (fun _ _ => rfl)))))
   pss_nil)
  (pss_cons (ps_set (i := 6) nd rfl (.inl rfl) (pe_op xSub (pv 6) (pe_callB (kLen K) (by rfl) E.f_len (by decide +kernel) (pa_cons (pe_ix (kIx K) (pe_ix (kIx K) (pv 7) (pv 8) (fun _ _ => rfl)) (pe_int) (fun _ _ => rfl)) pa_nil))))
  (pss_one (ps_set (i := 5) nd rfl (.inl rfl) (pe_op (kAdd K) (pv 5) (pe_ix (kIx K) (pe_ix (kIx K) (pv 7) (pv 8) (fun _ _ => rfl)) (pe_int) (fun _ _ => rfl))))))))
  (pss_cons (ps_for PassesOwn.never rfl (pi_range1 (by rfl) E.f_range (pa_cons (pv 6) pa_nil)) (pg_name (i := 9) nd rfl (.inl rfl))
   (pss_one (ps_for PassesOwn.never rfl (kSeq K (pe_ix (kIx K) (pv 2) (pe_int) (fun _ _ => rfl))) (pg_name (i := 8) nd rfl (.inl rfl))
   (pss_cons (ps_if (pt_cmpR op_le (pv 6) (pe_callB (kLen K) (by rfl) E.f_len (by decide +kernel) (pa_cons (pe_ix (kIx K) (pe_ix (kIx K) (pv 7) (pv 8) (fun _ _ => rfl)) (pe_int) (fun _ _ => rfl)) pa_nil)) (nomark _))
   (pss_one (ps_ret (pe_op (kAdd K) (pv 5) (pe_ix (kIx K) (pe_ix (kIx K) (pe_ix (kIx K) (pv 7) (pv 8) (fun _ _ => rfl)) (pe_int) (fun _ _ => rfl)) (pe_op xSub (pv 6) (pe_int)) (fun _ _ => rfl)))))
   pss_nil)
  (pss_cons (ps_set (i := 6) nd rfl (.inl rfl) (pe_op xSub (pv 6) (pe_callB (kLen K) (by rfl) E.f_len (by decide +kernel) (pa_cons (pe_ix (kIx K) (pe_ix (kIx K) (pv 7) (pv 8) (fun _ _ => rfl)) (pe_int) (fun _ _ => rfl)) pa_nil))))
  (pss_one (ps_set (i := 5) nd rfl (.inl rfl) (pe_op (kAdd K) (pv 5) (pe_ix (kIx K) (pe_ix (kIx K) (pv 7) (pv 8) (fun _ _ => rfl)) (pe_int) (fun _ _ => rfl))))))))))
  (pss_one (ps_ret (pe_non))))))))), ?_⟩
  change (_ : TS) _ [some v0, some v1, some v2, some v3, none, none, none, none, none, none, none] H
  try dsimp only [cxOf, Cx.nox, Cx.blk]
  obtain ⟨k0, i, bs, ws, ns, ms, cc, p1, p2, n, hd, rfl, rfl, sc, s1, s2, rfl, o1, o2, ok, zn, k⟩ := h
  obtain ⟨am, pb, pw, xs, rfl, sm, sb, sx, dx⟩ := dp_mk hd
  have z6 := ok.z6
  have zb := ok.zb
  have w4 := ok.w4
  have w1 := ok.w1
  have zl := (dpAll_len dx).trans (List.length_map ..)
  have zB := (tkn_ok i bs).ll
  have zc := (tkn_ok i bs).cl
  have zc0 := (tkn_ok i bs).c0
  walk_at "w"
  refine ⟨pb, bs, i, rfl, rfl, .inr sb, by omega, fun q0 tb G1 e1 sq1 nb gb => ?_⟩
  have gbS := sq_of (K := K) gb
  walk_at "w"
  refine w_cut (M := fun σ' H' => σ' = [some (.ref am), some (.int i), some (.ref cc), some (.int ((n : Int) + 1)), some (.ref tb), some (.int (tkn i bs).2), none, none, none, none, none] ∧ G1 = H' ∧ (tkn i bs).1.length ≤ n) ?_ ?_
  · walk_at "w"
    by_cases c : n < (tkn i bs).1.length
    · have c' : (n : Int) + 1 ≤ (tkn i bs).1.length := by omega
      walk_at "w"
      have := k G1 e1
      rw [crs_lo c, gI_get c] at this
      rw [show (n : Int) + 1 - 1 = n by omega]
      exact this
    · have c' : ¬ ((n : Int) + 1 ≤ (tkn i bs).1.length) := by omega
      walk_at "w"
      exact ⟨rfl, rfl, by omega⟩
  rintro σ' H' ⟨rfl, rfl, c⟩
  obtain ⟨j, rfl⟩ : ∃ j, n = (tkn i bs).1.length + j := ⟨n - (tkn i bs).1.length, by omega⟩
  have ej : (((tkn i bs).1.length + j : Nat) : Int) + 1 - (tkn i bs).1.length = (j : Int) + 1 := by omega
  walk_at "w"
  rw [ej]
  refine i_seqT ?_
  walk_at "w"
  refine lcG_tup (xs := xs) (fun D j acc W => Ex G1 W ∧ AtL (RdAt K W D) acc ((ws.take j).map (tkn i))) (by omega) (fun v => [_, _, _, _, _, _, _, _, _, _, some v]) (fun _ => rfl) (fun _ => rfl) (fun D nD => ⟨Ex.new nD, .nil⟩) (fun _ _ _ W c => ex_t (e1.trans c.1) sx) ?_ ?_
  · rintro D j v acc W Q' nD gD zj hv ⟨e, A⟩ kk
    have hj : j < ws.length := by rw [← zl]; exact (List.getElem?_eq_some_iff.mp hv).1
    obtain ⟨d, d1, d2⟩ := dpAll_get (dpAll_ex (e1.trans e) dx) hv
    rw [List.getElem?_map, List.getElem?_eq_getElem hj] at d1
    have d1 : dW ws[j] = d := Option.some.inj d1
    subst d1
    obtain ⟨qa, rfl, sa⟩ := dp_dW d2
    walk_at "w"
    refine ⟨qa, ws[j], i, rfl, rfl, .inr sa, by have := z6 _ (List.getElem_mem hj); omega, fun pq pa W2 e2 sq na ga => ?_⟩
    have g2 := e2 _ _ gD
    refine kk _ _ g2 ⟨Ex.mut (e.trans e2) nD, ?_⟩
    rw [List.take_add_one, List.getElem?_eq_getElem hj, List.map_append]
    have a1 : AtL (RdAt K W2 D) (acc ++ [.ref pq]) ((ws.take j).map (tkn i) ++ [tkn i ws[j]]) := (A.map fun _ _ => .ex e2).snoc ⟨pq, pa, rfl, (ne_of_none gD na).symm, sq, ga⟩
    exact a1.map fun _ _ => .upd g2
  rintro pr rs G2 nr ⟨e2, A2⟩ gr zr
  rw [zl, List.take_length] at A2
  have gr' := sq_of (K := K) gr
  have E2 := e1.trans e2
  have sc2 := ex_t E2 sc
  have t1 := ex_t E2 s1
  have t2 := ex_t E2 s2
  clear gbS gb sq1 nb nr sb sx dx sm hd
  have key : ∀ (N : List Int) (x : Int), Nxt ns ms N x → ∀ (left tk : Int), left = (j : Int) + 1 - gsum (cRd i ws N) → tk = (tkn i bs).2 + tsum (cRd i ws N) → 1 ≤ left → left ≤ (tkn i (ws.getD x.toNat [])).1.length → Q (.int (tk + gI (tkn i (ws.getD x.toNat [])).1 (left - 1))) G2 := fun N x hN left tk el et l1 l2 => by
    have := k G2 E2
    rw [na_hit (k := (left - 1).toNat) hN (by omega) (by omega), Int.toNat_of_nonneg (by omega), ← et] at this
    exact this
  have stp : ∀ (N : List Int) (x : Int) (left tk : Int), left = (j : Int) + 1 - gsum (cRd i ws N) → tk = (tkn i bs).2 + tsum (cRd i ws N) → left - (tkn i (ws.getD x.toNat [])).1.length = (j : Int) + 1 - gsum (cRd i ws (N ++ [x])) ∧ tk + (tkn i (ws.getD x.toNat [])).2 = (tkn i bs).2 + tsum (cRd i ws (N ++ [x])) := fun N x left tk el et => by
    have eg : gsum (cRd i ws (N ++ [x])) = gsum (cRd i ws N) + (tkn i (ws.getD x.toNat [])).1.length := by
      rw [cRd_app, gsum_app]
      show _ + ((tkn i (ws.getD x.toNat [])).1.length + 0) = _
      omega
    have et2 : tsum (cRd i ws (N ++ [x])) = tsum (cRd i ws N) + (tkn i (ws.getD x.toNat [])).2 := by
      rw [cRd_app, tsum_app]
      show _ + ((tkn i (ws.getD x.toNat [])).2 + 0) = _
      omega
    rw [eg, et2]
    omega
  walk_at "w"
  refine w_cut (M := fun σ' H' => ∃ (left tk : Int) (u : Option V), σ' = [some (.ref am), some (.int i), some (.ref cc), some (.int ((((tkn i bs).1.length + j : Nat) : Int) + 1)), some (.ref tb), some (.int tk), some (.int left), some (.ref pr), u, none, none] ∧ G2 = H' ∧ left = (j : Int) + 1 - gsum (cRd i ws ns) ∧ tk = (tkn i bs).2 + tsum (cRd i ws ns) ∧ 1 ≤ left) ?_ ?_
  · dsimp only [List.set]
    walk_at "w"
    refine i_seqT ?_
    walk_at "w"
    refine for_tup (xs := vI ns) (Pv := fun a σ' H' => ∃ (left tk : Int) (u : Option V), σ' = [some (.ref am), some (.int i), some (.ref cc), some (.int ((((tkn i bs).1.length + j : Nat) : Int) + 1)), some (.ref tb), some (.int tk), some (.int left), some (.ref pr), u, none, none] ∧ G2 = H' ∧ left = (j : Int) + 1 - gsum (cRd i ws (ns.take a)) ∧ tk = (tkn i bs).2 + tsum (cRd i ws (ns.take a)) ∧ 1 ≤ left) ⟨_, _, _, rfl, rfl, by rw [List.take_zero]; exact (Int.sub_zero _).symm, by rw [List.take_zero]; exact (Int.add_zero _).symm, by omega⟩ (fun _ _ H' _ q => by obtain ⟨_, _, _, _, rfl, _⟩ := q; exact t1) ?_ ?_
    · rintro a v σ' H' hv ⟨left, tk, u, rfl, rfl, el, et, l1⟩
      have ha := (List.getElem?_eq_some_iff.mp hv).1
      rw [List.length_map] at ha
      rw [List.getElem?_map, List.getElem?_eq_getElem ha] at hv
      obtain rfl : V.int ns[a] = v := Option.some.inj hv
      have hx : ns[a]? = some ns[a] := List.getElem?_eq_getElem ha
      obtain ⟨x0, x1⟩ := o1 _ (List.getElem_mem ha)
      have ht : ns.take (a + 1) = ns.take a ++ [ns[a]] := by rw [List.take_add_one, hx]; rfl
      generalize ns[a] = x at *
      obtain ⟨q, t, ix, sq, gq⟩ := rd_get A2 x0 x1
      obtain ⟨p3, p4⟩ := stp _ x left tk el et
      have K1 := key _ x (nxt_head hx) left tk el et l1
      rw [← ht] at p3 p4
      have gq := sq_of (K := K) gq
      walk_at "w"
      refine r_ixL gr' ix ?_
      walk_at "w"
      by_cases c : left ≤ (tkn i (ws.getD x.toNat [])).1.length
      · walk_at "w"
        refine r_ixL gr' ix ?_
        walk_at "w"
        exact K1 c
      · walk_at "w"
        refine r_ixL gr' ix ?_
        walk_at "w"
        refine r_ixL gr' ix ?_
        walk_at "w"
        exact ⟨_, _, _, rfl, rfl, p3, p4, by omega⟩
    · rintro σ' H' ⟨left, tk, u, rfl, rfl, el, et, l1⟩
      rw [List.length_map, List.take_length] at el et
      exact ⟨left, tk, u, rfl, rfl, el, et, l1⟩
  rintro σ' H' ⟨left0, tk0, u0, rfl, rfl, el0, et0, l10⟩
  walk_at "w"
  refine for_range (lo := 0) (Pv := fun t σ' H' => ∃ (left tk : Int) (u1 u2 : Option V), σ' = [some (.ref am), some (.int i), some (.ref cc), some (.int ((((tkn i bs).1.length + j : Nat) : Int) + 1)), some (.ref tb), some (.int tk), some (.int left), some (.ref pr), u1, u2, none] ∧ G2 = H' ∧ left = (j : Int) + 1 - gsum (cRd i ws (ns ++ (List.replicate t ms).flatten)) ∧ tk = (tkn i bs).2 + tsum (cRd i ws (ns ++ (List.replicate t ms).flatten)) ∧ 1 ≤ left) ⟨_, _, _, _, rfl, rfl, by simpa using el0, by simpa using et0, l10⟩ ?_ ?_
  · rintro t σ' H' ht0 ⟨left, tk, u1, u2, rfl, rfl, el, et, l1⟩
    walk_at "w"
    refine i_seqT ?_
    walk_at "w"
    refine for_tup (xs := vI ms) (Pv := fun a σ' H' => ∃ (left tk : Int) (u : Option V), σ' = [some (.ref am), some (.int i), some (.ref cc), some (.int ((((tkn i bs).1.length + j : Nat) : Int) + 1)), some (.ref tb), some (.int tk), some (.int left), some (.ref pr), u, some (.int (0 + (t : Int))), none] ∧ G2 = H' ∧ left = (j : Int) + 1 - gsum (cRd i ws (ns ++ (List.replicate t ms).flatten ++ ms.take a)) ∧ tk = (tkn i bs).2 + tsum (cRd i ws (ns ++ (List.replicate t ms).flatten ++ ms.take a)) ∧ 1 ≤ left) ⟨_, _, _, rfl, rfl, by rw [List.take_zero, List.append_nil]; exact el, by rw [List.take_zero, List.append_nil]; exact et, l1⟩ (fun _ _ H' _ q => by obtain ⟨_, _, _, _, rfl, _⟩ := q; exact t2) ?_ ?_
    · rintro a v σ' H' hv ⟨left, tk, u, rfl, rfl, el, et, l1⟩
      have ha := (List.getElem?_eq_some_iff.mp hv).1
      rw [List.length_map] at ha
      rw [List.getElem?_map, List.getElem?_eq_getElem ha] at hv
      obtain rfl : V.int ms[a] = v := Option.some.inj hv
      have hx : ms[a]? = some ms[a] := List.getElem?_eq_getElem ha
      obtain ⟨x0, x1⟩ := o2 _ (List.getElem_mem ha)
      have ht : ms.take (a + 1) = ms.take a ++ [ms[a]] := by rw [List.take_add_one, hx]; rfl
      generalize ms[a] = x at *
      obtain ⟨q, t', ix, sq, gq⟩ := rd_get A2 x0 x1
      obtain ⟨p3, p4⟩ := stp _ x left tk el et
      have K1 := key _ x (nxt_loop t hx) left tk el et l1
      rw [List.append_assoc _ (ms.take a), ← ht] at p3 p4
      have gq := sq_of (K := K) gq
      walk_at "w"
      refine r_ixL gr' ix ?_
      walk_at "w"
      by_cases c : left ≤ (tkn i (ws.getD x.toNat [])).1.length
      · walk_at "w"
        refine r_ixL gr' ix ?_
        walk_at "w"
        exact K1 c
      · walk_at "w"
        refine r_ixL gr' ix ?_
        walk_at "w"
        refine r_ixL gr' ix ?_
        walk_at "w"
        exact ⟨_, _, _, rfl, rfl, p3, p4, by omega⟩
    · rintro σ' H' ⟨left, tk, u, rfl, rfl, el, et, l1⟩
      rw [List.length_map, List.take_length] at el et
      have er : ns ++ (List.replicate (t + 1) ms).flatten = ns ++ (List.replicate t ms).flatten ++ ms := by
        rw [List.append_assoc]
        congr 1
        rw [List.replicate_succ', List.flatten_append]
        simp
      exact ⟨left, tk, _, _, rfl, rfl, by rw [er]; exact el, by rw [er]; exact et, l1⟩
  rintro σ' H' ⟨left, tk, u1, u2, rfl, rfl, el, et, l1⟩
  walk_at "w"
  have := k G2 E2
  rw [cRd_app, gsum_app, gsum_cRep] at el
  have h0 : gsum (cRd i ws ms) = 0 := Classical.byContradiction fun h => by
    have h1 : left0.toNat * 1 ≤ left0.toNat * gsum (cRd i ws ms) := Nat.mul_le_mul_left _ (by omega)
    omega
  rw [na_none h0 (by omega)] at this
  exact this
abbrev spToldC (K : PySem.W.Frag) : Sp := sp3 fun a b c H Q _ => ∃ (cc p q : Addr) (ns ms : List Int) (ws : List (List Dd)) (most : Int), a = .ref cc ∧ SqT K H cc [.ref p, .ref q] ∧ SqT K H p (vI ns) ∧ SqT K H q (vI ms) ∧ b = .int ws.length ∧ c = .int most ∧ okN ws ns ∧ okN ws ms ∧ ns.length ≤ most ∧ most ≤ 2000 ∧ 1 ≤ ms.length ∧ ms.length ≤ 4 ∧ ∀ H', Ex H H' → Q (.bl true) H'
abbrev N__law_is_told_course : List Str := ["course", "ways", "most", "one", "number"]
theorem sc__law_is_told_course : FnScope N__law_is_told_course ["course", "ways", "most"] (defScope s__law_is_told_course) := ⟨rfl, rfl, rfl, by decide +kernel, rfl, by decide +kernel, by decide +kernel⟩
theorem ok__law_is_told_course {P : Program} {w : World} {K : PySem.W.Frag} {mg : Str → Option Value} {base : Heap} (E : Env P K mg) : Fn P w K mg base CX0 3 "_law_is_told_course" (spToldC K) := by
  obtain ⟨fd, F⟩ := E.dd__law_is_told_course
  refine Fn.mk0 F E.g__law_is_told_course sc__law_is_told_course sp3_len (fun _ _ _ _ _ _ us hl => match us, hl with | [_, _, _], _ => rfl) (fun cdv A outer s H vs Q X hr h => ?_)
  have nd := sc__law_is_told_course.nd
  obtain ⟨v0, v1, v2, rfl, h⟩ := h
  refine ⟨_, (pss_cons (ps_if (PW.pt (pw_or (pt_not (kTru K (pe_callB (kIsi K) (by rfl) E.f_isinstance (by decide +kernel) (pa_cons (pv 0) (pa_cons (pe_bltn (v := .ty "tuple") (by rfl) E.f_tuple (by decide +kernel) rfl) pa_nil))) (by intro _; rfl))) (pw_or (pt_cmpR (kNe K hr) (pe_callB (kLen K) (by rfl) E.f_len (by decide +kernel) (pa_cons (pv 0) pa_nil)) (pe_int) (nomark _)) (pw_or1 (pt_not (kTru K (pe_callB (kAll K rfl) (by rfl) E.f_all (by decide +kernel) (pa_cons (pe_lc (own := [("one", 3)]) (g := gName 3) (tt := tYes) rfl nd (kSeq K (pv 0)) (blkOk_by (N := N__law_is_told_course) (sc := defScope s__law_is_told_course) (by decide +kernel)) (fun _ _ _ _ _ => pg_name (i := 3) nd rfl (Or.inl rfl)) (fun _ _ _ _ _ => pts_nil) (fun _ _ _ _ _ => pe_callB (kIsi K) (by rfl) E.f_isinstance (by decide +kernel) (pa_cons (pv 3) (pa_cons (pe_bltn (v := .ty "tuple") (by rfl) E.f_tuple (by decide +kernel) rfl) pa_nil)))) pa_nil)) (by intro _; rfl)))))))
   (pss_one (ps_ret (pe_bl)))
   pss_nil)
  (pss_cons (ps_if (PW.pt (pw_or (pt_cmpR op_gt (pe_callB (kLen K) (by rfl) E.f_len (by decide +kernel) (pa_cons (pe_ix (kIx K) (pv 0) (pe_int) (fun _ _ => rfl)) pa_nil)) (pv 2) (nomark _)) (pw_or1 (pt_not (pt_chain op_le op_le (pe_int) (pe_callB (kLen K) (by rfl) E.f_len (by decide +kernel) (pa_cons (pe_ix (kIx K) (pv 0) (pe_int) (fun _ _ => rfl)) pa_nil)) (pe_int))))))
   (pss_one (ps_ret (pe_bl)))
   pss_nil)
  (pss_one (ps_ret (pe_callB (kAll K rfl) (by rfl) E.f_all (by decide +kernel) (pa_cons (pe_lc (own := [("number", 4)]) (g := gName 4) (tt := tYes) rfl nd (kSeq K (pe_op (kAdd K) (pe_ix (kIx K) (pv 0) (pe_int) (fun _ _ => rfl)) (pe_ix (kIx K) (pv 0) (pe_int) (fun _ _ => rfl)))) (blkOk_by (N := N__law_is_told_course) (sc := defScope s__law_is_told_course) (by decide +kernel)) (fun _ _ _ _ _ => pg_name (i := 4) nd rfl (Or.inl rfl)) (fun _ _ _ _ _ => pts_nil) (fun _ _ _ _ _ => pe_and (pc (ok__law_is_count E) hr (by decide) pass0 rfl (pa_cons (pv 4) pa_nil)) (pe_one (pe_cmpR op_lt (pv 4) (pv 1) (nomark _))))) pa_nil)))))), ?_⟩
  change (_ : TS) _ [some v0, some v1, some v2, none, none] H
  try dsimp only [cxOf, Cx.nox, Cx.blk]
  obtain ⟨cc, p, q, ns, ms, ws, most, rfl, sc, s1, s2, rfl, rfl, o1, o2, z1, z2, z3, z4, k⟩ := h
  walk_at "w"
  refine i_seqT ?_
  walk_at "w"
  refine lcJ_tup (v := fun _ => .bl true) sc (show (2 : Nat) ≤ 100000 by decide) (fun x => [_, _, _, some x, _]) (fun x => rfl) (fun x => rfl) (fun x H3 Q' e3 hx hq => ?_) (fun p3 H3 n3 e3 g3 => ?_)
  · have tx : ∃ r ys, x = .ref r ∧ SqT K H3 r ys := by
      rcases List.mem_cons.mp hx with rfl | hx
      · exact ⟨p, _, rfl, ex_t e3 s1⟩
      · rw [List.mem_singleton.mp hx]
        exact ⟨q, _, rfl, ex_t e3 s2⟩
    obtain ⟨r, ys, rfl, sr⟩ := tx
    walk_at "w"
    exact hq _ (Ex.refl _)
  walk_at "w"
  refine r_all (bs := [true, true]) (sq_of g3) rfl ?_
  have sc3 := ex_t e3 sc
  have s13 := ex_t e3 s1
  have s23 := ex_t e3 s2
  walk_at "w"
  refine i_seqT ?_
  walk_at "w"
  refine r_addT s13 s23 (sz_of (by rw [List.length_map, List.length_map]; omega)) fun pa H4 e4 s4 => ?_
  refine i_xT s4 ?_
  refine lcJ_tup (v := fun _ => .bl true) s4 (by rw [List.length_append, List.length_map, List.length_map]; omega) (fun x => [_, _, _, _, some x]) (fun x => rfl) (fun x => rfl) (fun x H5 Q' e5 hx hq => ?_) (fun p5 H5 n5 e5 g5 => ?_)
  · obtain ⟨n, rfl, n0, n1⟩ : ∃ n : Int, x = .int n ∧ 0 ≤ n ∧ n < ws.length := by
      rcases List.mem_append.mp hx with h | h
      · obtain ⟨n, hn, rfl⟩ := List.mem_map.mp h
        exact ⟨n, rfl, o1 n hn⟩
      · obtain ⟨n, hn, rfl⟩ := List.mem_map.mp h
        exact ⟨n, rfl, o2 n hn⟩
    walk_at "w"
    refine ⟨.int n, .int n, fun v H6 e6 d6 => ?_⟩
    rw [show dIsCount (.int n) = true from decide_eq_true n0] at d6
    obtain rfl := dp_toBl d6
    walk_at "w"
    rw [decide_eq_true n1]
    exact hq _ e6
  walk_at "w"
  refine r_all (bs := (vI ns ++ vI ms).map fun _ => true) (sq_of g5) (by rw [List.map_map]; rfl) ?_
  rw [show ((vI ns ++ vI ms).map fun _ => true).all id = true by simp]
  exact k _ ((e3.trans e4).trans e5)

end
section
theorem tmul_none (l : Addr) (items : Array Value) (n : Nat) (dd : Option Addr) (sl : Array (Option Value)) (x : Int) (u : Tok) (c0 : (decide (x < -(2 ^ 63)) || decide (x ≥ 2 ^ 63)) = false) (c1 : (items.isEmpty || x == 1) = false) (c2 : (decide (x ≤ 0) || items.isEmpty) = true) :
    Meets (Builtin.«tuple.__mul__» ⟨[.ref l, .int x u], []⟩) (fun _ R s => s.heap.get? l = some { cls := .type "tuple", dict := dd, data := .seq items n, slots := sl } ∧
      R (.ok (.ret (Value.ref s.heap.objs.size))) { s with heap := s.heap.push { cls := Value.type "tuple", data := Data.seq #[] }, toks := s.toks }) :=
  .of_wp fun prog w A R s h => by
    obtain ⟨hp, g, d, tk, os⟩ := s
    obtain ⟨hl, h⟩ := h
    have f1 := AutoSeq1.idx_int
    wp_walk using wpAny_loadPart' hl
    refine wpAny_ite_false (decide_eq_false (by rw [c0]; exact Bool.false_ne_true)) ?_
    wp_walk using wpAny_loadPart' hl
    repeat (first
      | (refine wpAny_ite_false (decide_eq_false (by rw [c1]; exact Bool.false_ne_true)) ?_; wp_walk using wpAny_loadPart' hl)
      | (refine wpAny_ite_true (decide_eq_true c2) ?_; wp_walk using wpAny_loadPart' hl))
    exact ⟨_, rfl, h⟩
theorem tmul_one (l : Addr) (items : Array Value) (n : Nat) (dd : Option Addr) (sl : Array (Option Value)) (x : Int) (u : Tok) (c0 : (decide (x < -(2 ^ 63)) || decide (x ≥ 2 ^ 63)) = false) (c1 : (items.isEmpty || x == 1) = true) :
    Meets (Builtin.«tuple.__mul__» ⟨[.ref l, .int x u], []⟩) (fun _ R s => s.heap.get? l = some { cls := .type "tuple", dict := dd, data := .seq items n, slots := sl } ∧ R (.ok (.ret (Value.ref l))) s) :=
  .of_wp fun prog w A R s h => by
    obtain ⟨hp, g, d, tk, os⟩ := s
    obtain ⟨hl, h⟩ := h
    have f1 := AutoSeq1.idx_int
    wp_walk using wpAny_loadPart' hl
    refine wpAny_ite_false (decide_eq_false (by rw [c0]; exact Bool.false_ne_true)) ?_
    wp_walk using wpAny_loadPart' hl
    exact ⟨_, rfl, h⟩
/-- a tuple none or one time -/
def rRepS (K : PySem.W.Frag) : R2 := fun x y H Q => ∃ l k xs, x = .ref l ∧ y = .int k ∧ SqT K H l xs ∧ xs ≠ [] ∧ -1000 ≤ k ∧ ((k = 1 ∧ Q (.ref l) H) ∨ (k ≤ 0 ∧ ∀ p, H p = none → Q (.ref p) (upd H p (.tup []))))
section
variable {X : Cx}
theorem op_repS : OpR X (binaryOp .Mult) (rRepS X.K) := by
  intro pins s σ H x y v u Q I rx ry h
  obtain ⟨l, k, xs, rfl, rfl, hT, hne, h0, q⟩ := h
  cases rx
  obtain ⟨t, rfl⟩ := ry
  obtain ⟨its, r, ⟨⟨cls, dd, data, sl⟩, ho, hc, n, hd⟩, hs⟩ := I.tuple hT
  simp only at hc hd
  subst hc hd
  have hle : its.length = xs.length := r.length.symm
  have hn : its ≠ [] := fun e => hne (by
    rw [e] at hle
    exact List.eq_nil_of_length_eq_zero hle.symm)
  have hi : its.toArray.isEmpty = false := by
    cases its with
    | nil => exact absurd rfl hn
    | cons a b => rfl
  have c0 : (decide (k < -(2 ^ 63)) || decide (k ≥ 2 ^ 63)) = false := by
    rw [decide_eq_false (by omega), decide_eq_false (by rcases q with q | q <;> omega)] <;> rfl
  rcases q with ⟨k1, q⟩ | ⟨k0, q⟩
  · have c1 : (its.toArray.isEmpty || k == 1) = true := by
      rw [hi, Bool.false_or, k1]
      rfl
    refine wpAny_binaryOp_repeat_ref (T := "tuple") (U := "int") (by decide) ⟨_, ho, rfl⟩ (fun s' => typeIs_int s' k t) noFill_tuple_mul F.fills_int_mul F.slot_int_rmul repeat_tuple F.slot_int_index.lookup
      (call_meets F.slot_int_rmul (typeIs_int s k t) F.entry_int_rmul (F.args_int_rmul_2 _ _) (int_rmul_tuple k t l its.toArray n dd sl)
        ⟨ho, rfl, ⟨_, ho, rfl⟩, call_meets F.slot_tuple_mul ⟨_, ho, rfl⟩ F.entry_tuple_mul (F.args_tuple_mul_2 _ _) (tmul_one l its.toArray n dd sl k t c0 c1) ⟨ho, ?_⟩⟩)
    exact ⟨.ref l, H, I, rfl, q⟩
  · have c1 : (its.toArray.isEmpty || k == 1) = false := by
      rw [hi, Bool.false_or]
      exact beq_eq_false_iff_ne.mpr (by omega)
    have c2 : (decide (k ≤ 0) || its.toArray.isEmpty) = true := by
      rw [decide_eq_true k0]
      rfl
    refine wpAny_binaryOp_repeat_ref (T := "tuple") (U := "int") (by decide) ⟨_, ho, rfl⟩ (fun s' => typeIs_int s' k t) noFill_tuple_mul F.fills_int_mul F.slot_int_rmul repeat_tuple F.slot_int_index.lookup
      (call_meets F.slot_int_rmul (typeIs_int s k t) F.entry_int_rmul (F.args_int_rmul_2 _ _) (int_rmul_tuple k t l its.toArray n dd sl)
        ⟨ho, rfl, ⟨_, ho, rfl⟩, call_meets F.slot_tuple_mul ⟨_, ho, rfl⟩ F.entry_tuple_mul (F.args_tuple_mul_2 _ _) (tmul_none l its.toArray n dd sl k t c0 c1 c2) ⟨ho, ?_⟩⟩)
    refine ⟨.ref s.heap.objs.size, _, I.laid (t' := s.toks) (o := .tup []) (fun b ob q => Heap.get?_push_of_some _ q) (Nat.le_refl _) ?_, rfl, q _ (I.hok.fresh (Nat.le_refl _))⟩
    exact ⟨by decide, [], .nil, IsTup.new _ _⟩
end
def rMulS (K : PySem.W.Frag) : R2 := fun x y H Q => rMul K x y H Q ∨ rRepS K x y H Q
theorem kMulS {X : Cx} {K : PySem.W.Frag} (h : X.K = K := by rfl) : OpR X (binaryOp .Mult) (rMulS K) := by subst h; exact xMul.or op_repS
theorem rep_sing {α : Type} (a : α) : ∀ n : Nat, (List.replicate n [a]).flatten = List.replicate n a
  | 0 => rfl
  | n + 1 => by rw [List.replicate_succ, List.flatten_cons, rep_sing a n, List.replicate_succ]; rfl
theorem r_rep0 {K : PySem.W.Frag} {H : Hp} {Q : VK} {l : Addr} {k : Int} (s : SqT K H l [.int 0]) (h0 : 0 ≤ k) (h1 : k ≤ 1000) (q : ∀ p H', Ex H H' → SqT K H' p (vI (List.replicate k.toNat 0)) → Q (.ref p) H') : rMulS K (.ref l) (.int k) H Q := by
  by_cases c : k = 0
  · subst c
    exact .inr ⟨l, 0, _, rfl, rfl, s, by simp, by decide, .inr ⟨Int.le_refl _, fun p hp => q p _ (Ex.new hp) (st_of upd_same)⟩⟩
  · by_cases c1 : k = 1
    · subst c1
      exact .inr ⟨l, 1, _, rfl, rfl, s, by simp, by decide, .inl ⟨rfl, q l H (Ex.refl _) s⟩⟩
    · refine .inl (.inr (.inr ⟨l, k, _, rfl, rfl, s, by simp, by omega, h1, by decide, fun p hp => q p _ (Ex.new hp) ?_⟩))
      rw [rep_sing]
      have : vI (List.replicate k.toNat 0) = List.replicate k.toNat (V.int 0) := List.map_replicate ..
      rw [this]
      exact st_of upd_same

end
section
theorem vat2 {h l : List Int} {r : Int} (n : Nat) : valueAt h l r (some ((n : Int) + 1)) = TV h l r n := vat_TV n
theorem imm_dInts (l : List Int) : imm (dInts l) = true := by
  show immAll (l.map .int) = true
  induction l with
  | nil => rfl
  | cons a l ih => exact ih
theorem fl_len {ws : List (List Dd)} {B : Nat} (h : ∀ w ∈ ws, w.length ≤ B) : ∀ ns : List Int, (fl ws ns).length ≤ ns.length * B
  | [] => Nat.zero_le _
  | n :: ns => by
    have a := fl_len h ns
    have b : (ws.getD n.toNat []).length ≤ B := by
      rw [List.getD_eq_getElem?_getD]
      cases e : ws[n.toNat]? with
      | none => exact Nat.zero_le _
      | some w => exact h w (List.mem_of_getElem? e)
    show (fl ws (n :: ns)).length ≤ _
    unfold fl at *
    rw [List.map_cons, List.flatten_cons, List.length_append, List.length_cons, Nat.succ_mul]
    omega
theorem ls_mak {K : PySem.W.Frag} {H H' : Hp} {x : Addr} {k : Int} {b : List Dd} {ws : List (List Dd)} (l : Ls H H') (t : MakAt K H x k b ws) : MakAt K H' x k b ws := by
  obtain ⟨dx, vb, vw, h1, h2, h3⟩ := t
  exact ⟨dx, vb, vw, l _ _ h1 (fun _ e => nomatch e), dp_tex l.tex (imm_dW b) h2, dp_tex l.tex (imm_dWs ws) h3⟩
theorem fr_mak {K : PySem.W.Frag} {H H' : Hp} {y x : Addr} {k : Int} {b : List Dd} {ws : List (List Dd)} (f : Fr y H H') (s : SrcAt H y) (t : MakAt K H x k b ws) : MakAt K H' x k b ws := ls_mak (Ls.fr f s) t
/-- ways in which nothing is given -/
def zws (ws : List (List Dd)) : List (List Dd) := ws.map fun w => List.replicate w.length (some 0)
theorem zws_ok {k : Int} {b : List Dd} {ws : List (List Dd)} (ok : MkOk k b ws) : MkOk k b (zws ws) := by
  have k1 := ok.k1
  refine ⟨ok.k1, ok.k3, ok.ob, ok.zb, by unfold zws; rw [List.length_map]; exact ok.w1, by unfold zws; rw [List.length_map]; exact ok.w4, fun w hw => ?_, fun w hw => ?_⟩
  · obtain ⟨x, hx, rfl⟩ := List.mem_map.mp hw
    refine ⟨fun e => (ok.ow x hx).1 ?_, fun d hd => ?_⟩
    · have := congrArg List.length e
      rw [List.length_replicate] at this
      exact List.eq_nil_of_length_eq_zero this
    · rw [List.eq_of_mem_replicate hd]
      exact fun i e => by cases e; omega
  · obtain ⟨x, hx, rfl⟩ := List.mem_map.mp hw
    unfold zws
    rw [List.length_map, List.length_replicate]
    exact ok.zw x hx
theorem szx_lcm {i k : Int} {m : Bool} {bs : List Dd} {ws : List (List Dd)} {ns ms : List Int} {h l : List Int} {r : Int} (ok : MkOk k bs ws) (pl : Pl (xtV m i bs ws) h l r) (z : SzX ws h l r) (o1 : okN ws ns) (o2 : okN ws ms) (z1 : ns.length ≤ 8) (z2 : 1 ≤ ms.length) (z3 : ms.length ≤ 2) :
    Nat.lcm l.length (ndP i bs ws ns ms).2.1.length ≤ 20000 ∧ SmK h l r ∧ SmK (ndP i bs ws ns ms).1 (ndP i bs ws ns ms).2.1 (ndP i bs ws ns ms).2.2 ∧ Pl (crsV i bs ws ns ms) (ndP i bs ws ns ms).1 (ndP i bs ws ns ms).2.1 (ndP i bs ws ns ms).2.2 := by
  have zb := ok.zb
  have zn := fl_len ok.z6 ns
  have zm := fl_len ok.z6 ms
  have A := tkn_ok i (bs ++ fl ws ns)
  have B := tkn_ok i (fl ws ms)
  have zd : (bs ++ fl ws ns).length ≤ 40000 := by rw [List.length_append]; omega
  have za : (fl ws ms).length ≤ 40000 := by omega
  have P := crs_pl (i := i) (bs := bs) zd za
  have W := tb_val A B zd za
  obtain ⟨_, _, _, a, b, c⟩ := plainF_ok W
  have a1 := A.ll
  have b1 := B.ll
  have b2 := B.cl
  have b3 : (tbL (tkn i (bs ++ fl ws ns)) (tkn i (fl ws ms))).length = (tkn i (fl ws ms)).1.length := List.length_map ..
  have b4 : tbR (tkn i (fl ws ms)) ≤ (tkn i (fl ws ms)).2 := by
    unfold tbR
    split
    · exact B.c0
    · exact Int.le_refl _
  obtain ⟨y1, y2, y3⟩ := z
  rw [List.length_append] at a1
  have y2' : l.length ≤ 600 := by split at y2 <;> omega
  refine ⟨?_, ⟨pl.val, by omega, by omega, by omega⟩, ⟨P.val, ?_, ?_, ?_⟩, P⟩
  · by_cases one : ws.length = 1
    · have e : xtV m i bs ws = crsV i bs ws ns ms := by rw [xtV_one one, crs_one one o1 o2 (List.length_pos_iff.mp (by omega))]
      rw [e] at pl
      obtain ⟨_, e2, _⟩ := pl.uniq P
      rw [← e2, Nat.lcm_self]
      omega
    · rw [if_neg one] at y2
      have z24 : ∀ w ∈ ws, w.length ≤ 24 := fun w hw => by have := ok.zw w hw; rw [if_neg one] at this; exact this
      have zm2 := fl_len z24 ms
      have : (ndP i bs ws ns ms).2.1.length ≤ 48 := by
        show (plainF _ _ _).2.1.length ≤ 48
        omega
      rcases Nat.eq_zero_or_pos l.length with h0 | h0
      · rw [h0, Nat.lcm_zero_left]; omega
      rcases Nat.eq_zero_or_pos (ndP i bs ws ns ms).2.1.length with h1 | h1
      · rw [h1, Nat.lcm_zero_right]; omega
      · have := Nat.le_of_dvd (Nat.mul_pos h0 h1) (Nat.lcm_dvd_mul l.length (ndP i bs ws ns ms).2.1.length)
        have := Nat.mul_le_mul y2 ‹(ndP i bs ws ns ms).2.1.length ≤ 48›
        omega
  · show (plainF _ _ _).1.length ≤ 20000
    omega
  · show (plainF _ _ _).2.1.length ≤ 2000
    omega
  · show (plainF _ _ _).2.2 ≤ 1000000
    omega
abbrev N_law : List Str := ["script", "source", "inlets", "maker", "made", "drawer", "far", "inlet", "due", "told", "turn", "course", "piece", "way"]
theorem sc_law : FnScope N_law ["script"] (defScope s_law) := ⟨rfl, rfl, rfl, by decide +kernel, rfl, by decide +kernel, by decide +kernel⟩
abbrev lawSp (K : PySem.W.Frag) : Sp := sp1 fun s H Q _ => ∃ (a : Addr) (ns : List Int), s = .ref a ∧ SqL K H a (vI ns) ∧ (∀ z ∈ ns, Builtin.Int.intBits z ≤ 1048576) ∧ ns.length ≤ 63 ∧ ∀ H', Q (.bl true) H'
theorem ok_law {P : Program} {w : World} {K : PySem.W.Frag} {mg : Str → Option Value} {base : Heap} (E : Env P K mg) {fd : FuncData} (F : FunD K "law" "law" (defArgs s_law) (defBody s_law) (defScope s_law) (d_law.dvs K) [] (d_law.adr K) fd) : FnOk P w K mg base CX0 15 (d_law.adr K) fd ["script"] (lawSp K) := by
  refine fnok0 F sc_law sp1_len (fun cdv A outer s H vs Q X hr h => ?_)
  have nd := sc_law.nd
  obtain ⟨v0, rfl, h⟩ := h
  refine ⟨_, (pss_cons (ps_set (i := 1) nd rfl (.inl rfl) (pc (ok__law_source E) hr (by decide) pass0 rfl (pa_cons (pv 0) (pa_cons (pe_int) pa_nil))))
  (pss_cons (ps_set (i := 2) nd rfl (.inl rfl) (pe_op (kAdd K) (pe_int) (pc (ok__law_pick E) hr (by decide) pass0 rfl (pa_cons (pv 1) (pa_cons (pe_int) pa_nil)))))
  (pss_cut (ps_set (i := 3) nd rfl (.inl rfl) (pe_ifExp (pt_cmpR (kEq K hr) (pc (ok__law_pick E) hr (by decide) pass0 rfl (pa_cons (pv 1) (pa_cons (pe_int) pa_nil))) (pe_int) (nomark _)) (pc (ok__law_long_maker E) hr (by decide) pass0 rfl (pa_cons (pv 1) (pa_cons (pv 2) (pa_cons (pe_bl) pa_nil)))) (pc (ok__law_maker E) hr (by decide) pass0 rfl (pa_cons (pv 1) (pa_cons (pv 2) (pa_cons (pe_int) (pa_cons (pe_bl) pa_nil)))))))
  (pss_cut (ps_if (pt_cmpR (kEq K hr) (pc (ok__law_pick E) hr (by decide) pass0 rfl (pa_cons (pv 1) (pa_cons (pe_int) pa_nil))) (pe_int) (nomark _))
   (pss_one (ps_set (i := 3) nd rfl (.inl rfl) (pe_tup (pa_cons (pe_ix (kIx K) (pv 3) (pe_int) (fun _ _ => rfl)) (pa_cons (pe_ix (kIx K) (pv 3) (pe_int) (fun _ _ => rfl)) (pa_cons (pe_callTy (kTup K) (by rfl) E.f_tuple (by decide +kernel) (pa_cons (pe_lc (own := [("way", 13)]) (g := gName 13) (tt := tYes) rfl nd (kSeq K (pe_ix (kIx K) (pv 3) (pe_int) (fun _ _ => rfl))) (blkOk_by (N := N_law) (sc := defScope s_law) (by decide +kernel)) (fun _ _ _ _ _ => pg_name (i := 13) nd rfl (Or.inl rfl)) (fun _ _ _ _ _ => pts_nil) (fun _ _ _ _ _ => pe_op (kMulS (K := K)) (pe_tup (pa_cons (pe_int) pa_nil)) (pe_callB (kLen K) (by rfl) E.f_len (by decide +kernel) (pa_cons (pv 13) pa_nil)))) pa_nil)) pa_nil))))))
   pss_nil)
  (pss_cons (ps_set (i := 4) nd rfl (.inl rfl) (pc (ok__law_made E) hr (by decide) pass0 rfl (pa_cons (pv 3) pa_nil)))
  (pss_cons (ps_set (i := 5) nd rfl (.inl rfl) (pc (ok__law_source E) hr (by decide) pass0 rfl (pa_cons (pv 0) (pa_cons (pe_int) pa_nil))))
  (pss_cut (ps_set (i := 6) nd rfl (.inl rfl) (pe_lst (pa_cons (pe_op (kAdd K) (pe_int) (pc (ok__law_pick E) hr (by decide) pass0 rfl (pa_cons (pv 5) (pa_cons (pe_int) pa_nil)))) (pa_cons (pc (ok__law_pick E) hr (by decide) pass0 rfl (pa_cons (pv 5) (pa_cons (pv 2) pa_nil))) pa_nil))))
  (pss_cons (ps_for PassesOwn.never rfl (pi_range1 (by rfl) E.f_range (pa_cons (pv 2) pa_nil)) (pg_name (i := 7) nd rfl (.inl rfl))
   (pss_cons (ps_set (i := 8) nd rfl (.inl rfl) (pc (ok__law_extreme E) hr (by decide) pass0 rfl (pa_cons (pv 3) (pa_cons (pv 7) (pa_cons (pe_bl) pa_nil)))))
  (pss_cons (ps_set (i := 9) nd rfl (.inl rfl) (pc (ok_least E) hr (by decide) pass0 rfl (pa_cons (pv 4) (pa_cons (pv 7) pa_nil))))
  (pss_cons (ps_if (pt_not (kTru K (pc (ok__law_same E) hr (by decide) pass0 rfl (pa_cons (pv 9) (pa_cons (pv 8) pa_nil))) (by intro _; rfl)))
   (pss_one (ps_ret (pe_bl)))
   pss_nil)
  (pss_cons (ps_for PassesOwn.never rfl (pi_range1 (by rfl) E.f_range (pa_cons (pe_int) pa_nil)) (pg_name (i := 10) nd rfl (.inl rfl))
   (pss_cons (ps_set (i := 11) nd rfl (.inl rfl) (pc (ok__law_course E) hr (by decide) pass0 rfl (pa_cons (pv 5) (pa_cons (pv 3) (pa_cons (pe_int) pa_nil)))))
  (pss_one (ps_if (pt_cmpR xIsNot (pc (ok__law_above E) hr (by decide) pass0 rfl (pa_cons (pv 8) (pa_cons (pc (ok__law_on E) hr (by decide) pass0 rfl (pa_cons (pv 3) (pa_cons (pv 7) (pa_cons (pv 11) pa_nil)))) pa_nil))) (pe_non) (nomark _))
   (pss_one (ps_ret (pe_bl)))
   pss_nil))))
  (pss_one (ps_for PassesOwn.never rfl (kSeq K (pe_op (kAdd K) (pe_lst (pa_cons (pe_int) (pa_cons (pe_op (kAdd K) (pe_int) (pc (ok__law_pick E) hr (by decide) pass0 rfl (pa_cons (pv 5) (pa_cons (pe_int) pa_nil)))) (pa_cons (pe_op (kAdd K) (pe_int) (pc (ok__law_pick E) hr (by decide) pass0 rfl (pa_cons (pv 5) (pa_cons (pe_int) pa_nil)))) pa_nil)))) (pe_ifExp (pt_cmpR (kEq K hr) (pv 7) (pe_ix (kIx K) (pv 6) (pe_int) (fun _ _ => rfl)) (nomark _)) (pe_slice (kSl K) (pv 6) po_none (po_some (pe_int))) (pe_lst (pa_nil))))) (pg_name (i := 12) nd rfl (.inl rfl))
   (pss_cons (ps_set (i := 11) nd rfl (.inl rfl) (pcK (ok_course_ofK E) hr (by decide) pass0 rfl (pa_cons (pv 4) (pa_cons (pv 7) (pa_cons (pv 12) pa_nil))) (pk_cons (pe_bl) (pk_nil))))
  (pss_cons (ps_if (pt_not (kTru K (pc (ok__law_is_told_course E) hr (by decide) pass0 rfl (pa_cons (pv 11) (pa_cons (pe_callB (kLen K) (by rfl) E.f_len (by decide +kernel) (pa_cons (pe_ix (kIx K) (pv 3) (pe_int) (fun _ _ => rfl)) pa_nil)) (pa_cons (pe_ifExp (pt_cmpR op_le (pv 12) (pe_int) (nomark _)) (pe_int) (pe_int)) pa_nil)))) (by intro _; rfl)))
   (pss_one (ps_ret (pe_bl)))
   pss_nil)
  (pss_cons (ps_if (PW.pt (pw_and (pt_cmpR op_le (pe_callB (kLen K) (by rfl) E.f_len (by decide +kernel) (pa_cons (pe_ix (kIx K) (pv 11) (pe_int) (fun _ _ => rfl)) pa_nil)) (pe_int) (nomark _)) (pw_and1 (pt_cmpR (kNe K hr) (pcl (ok_Table_call E) hr (by decide) (pmt (ok_Maker_need E) hr (by decide) pass0 (pv 4) (pa_cons (pv 7) (pa_cons (pv 11) pa_nil))) (pa_cons (pv 12) pa_nil)) (pc (ok__law_at E) hr (by decide) pass0 rfl (pa_cons (pv 8) (pa_cons (pv 12) pa_nil))) (nomark _)))))
   (pss_one (ps_ret (pe_bl)))
   pss_nil)
  (pss_one (ps_if (pt_cmpR (kNe K hr) (pc (ok__law_need_at E) hr (by decide) pass0 rfl (pa_cons (pv 3) (pa_cons (pv 7) (pa_cons (pv 11) (pa_cons (pv 12) pa_nil))))) (pc (ok__law_at E) hr (by decide) pass0 rfl (pa_cons (pv 8) (pa_cons (pv 12) pa_nil))) (nomark _))
   (pss_one (ps_ret (pe_bl)))
   pss_nil))))))))))))
  (pss_one (ps_ret (pe_cmpR (kEq K hr) (pcl (ok_Table_call E) hr (by decide) (pc (ok_least E) hr (by decide) pass0 rfl (pa_cons (pv 4) (pa_cons (pe_int) pa_nil))) (pa_cons (pe_op xPow (pe_int) (pe_int)) pa_nil)) (pc (ok__law_at E) hr (by decide) pass0 rfl (pa_cons (pc (ok__law_extreme E) hr (by decide) pass0 rfl (pa_cons (pv 3) (pa_cons (pe_int) (pa_cons (pe_bl) pa_nil)))) (pa_cons (pe_op xPow (pe_int) (pe_int)) pa_nil))) (nomark _)))))))))))), ?_⟩
  change (_ : TS) _ [some v0, none, none, none, none, none, none, none, none, none, none, none, none, none] H
  try dsimp only [cxOf, Cx.nox, Cx.blk]
  obtain ⟨sa, nsc, rfl, s0, hb, hz, k⟩ := h
  walk_at "w"
  refine ⟨sa, nsc, 0, rfl, rfl, s0, hb, hz, by decide, by decide, fun x H1 n1 e1 q1 => ?_⟩
  walk_at "w"
  refine ⟨x, 3, rfl, rfl, by decide, by decide, q1, fun r H2 r0 r1 q2 f2 => ?_⟩
  have s2 : SqL K H2 sa (vI nsc) := l_fr f2 s0 n1 (ex_l e1 s0)
  walk_at "w"
  refine w_cut (M := fun σ' H' => ∃ (mv : V) (bs : List Dd) (ws : List (List Dd)), σ' = [some (.ref sa), some (.ref x), some (.int (1 + r)), some mv, none, none, none, none, none, none, none, none, none, none] ∧ Dp K H' mv (dMk (1 + r) bs ws) ∧ MkOk (1 + r) bs ws ∧ bs.length ≤ 599 ∧ SqL K H' sa (vI nsc) ∧ SrcAt H' x ∧ Fr x H1 H') ?_ ?_
  · dsimp only [List.set]
    walk_at "w"
    refine ⟨x, 6, rfl, rfl, by decide, by decide, q2, fun r2 H3 r20 r21 q3 f3 => ?_⟩
    have s3 := l_fr f3 s0 n1 s2
    walk_at "w"
    refine w_ite (fun c => ?_) (fun c => ?_)
    · walk_at "w"
      refine ⟨x, 1 + r, rfl, rfl, rfl, by omega, by omega, q3, fun v bs ws H4 f4 q4 d4 ok zb => ?_⟩
      walk_at "w"
      exact ⟨v, bs, ws, rfl, d4, ok, zb, l_fr f4 s0 n1 s3, q4, (f2.trans f3).trans f4⟩
    · walk_at "w"
      refine ⟨x, 1 + r, rfl, rfl, rfl, rfl, by omega, by omega, q3, fun v bs ws H4 f4 q4 d4 ok zb => ?_⟩
      walk_at "w"
      exact ⟨v, bs, ws, rfl, d4, ok, zb, l_fr f4 s0 n1 s3, q4, (f2.trans f3).trans f4⟩
  clear q1 q2 s2 f2
  rintro σ' G ⟨mv, bs, ws, rfl, hd0, ok, zb, sG, q1, f1⟩
  obtain ⟨kk, hkk⟩ : ∃ kk, kk = 1 + r := ⟨_, rfl⟩
  rw [← hkk] at hd0 ok ⊢
  refine w_cut (M := fun σ' H' => ∃ (mv : V) (ws : List (List Dd)), σ' = [some (.ref sa), some (.ref x), some (.int kk), some mv, none, none, none, none, none, none, none, none, none, none] ∧ Dp K H' mv (dMk kk bs ws) ∧ MkOk kk bs ws ∧ SqL K H' sa (vI nsc)) ?_ ?_
  · walk_at "w"
    refine ⟨x, 20, rfl, rfl, by decide, by decide, q1, fun r2 H3 r20 r21 q3 f3 => ?_⟩
    have s3 := l_fr f3 s0 n1 sG
    have hd3 := fr_dp f3 q1 (imm_dMk _ _ _) hd0
    walk_at "w"
    refine w_ite (fun c => ?_) (fun c => ?_)
    · obtain ⟨am, pb, pw, xs, rfl, sm, sb, sx, dx⟩ := dp_mk hd3
      have zl := (dpAll_len dx).trans (List.length_map ..)
      have w4 := ok.w4
      have z6 := ok.z6
      walk_at "w"
      refine i_seqT ?_
      walk_at "w"
      refine lcD_tup (fun i : Nat => dW (List.replicate (ws.getD i []).length (some 0))) (fun i => imm_dW _) sx (by omega) (fun x => [_, _, _, _, _, _, _, _, _, _, _, _, _, some x]) (fun x => rfl) (fun x => rfl) (fun j x H4 Q' e4 hx hq => ?_) (fun p4 H4 ys n4 e4 g4 d4 => ?_)
      · have hj : j < ws.length := by rw [← zl]; exact (List.getElem?_eq_some_iff.mp hx).1
        obtain ⟨d, d1, d2⟩ := dpAll_get (dpAll_ex e4 dx) hx
        rw [List.getElem?_map, List.getElem?_eq_getElem hj] at d1
        have d1 : dW ws[j] = d := Option.some.inj d1
        subst d1
        obtain ⟨qa, rfl, sa'⟩ := dp_dW d2
        have zj := z6 _ (List.getElem_mem hj)
        have ew : ws.getD j [] = ws[j] := by rw [List.getD_eq_getElem?_getD, List.getElem?_eq_getElem hj]; rfl
        rw [ew] at hq
        generalize ws[j] = w' at *
        have zgv : (w'.map gV).length = w'.length := List.length_map ..
        walk_at "w"
        intro p5 H5 n5 e5 g5
        walk_at "w"
        refine r_rep0 (st_of g5) (by omega) (by omega) fun p6 H6 e6 s6 => ?_
        refine hq _ H6 (e5.trans e6) (dp_of_dW ?_)
        rw [List.map_replicate]
        rw [Int.toNat_natCast, zgv] at s6
        have : vI (List.replicate w'.length 0) = List.replicate w'.length (V.int 0) := List.map_replicate ..
        rw [this] at s6
        exact s6
      have dz : DpAll K H4 ys ((zws ws).map dW) := by
        have e : (List.range xs.length).map (fun i : Nat => dW (List.replicate (ws.getD i []).length (some 0))) = (zws ws).map dW := by
          unfold zws
          apply List.ext_getElem
          · simp [zl]
          · intro j h1 h2
            have hj : j < ws.length := by simpa [zl] using h1
            simp [List.getD_eq_getElem?_getD, List.getElem?_eq_getElem hj]
        rwa [e] at d4
      walk_at "w"
      intro p5 H5 e5 s5
      walk_at "w"
      intro p6 H6 n6 e6 g6
      walk_at "w"
      have E6 := (e4.trans e5).trans e6
      refine ⟨.ref p6, zws ws, rfl, .tup (st_of g6) (.cons (.int kk) (.cons (dp_of_dW (ex_t E6 sb)) (.cons (.tup (ex_t e6 s5) (dpAll_ex (e5.trans e6) dz)) .nil))), zws_ok ok, ex_l E6 s3⟩
    · walk_at "w"
      exact ⟨_, ws, rfl, hd3, ok, s3⟩
  clear hd0 sG q1 f1 ok
  rintro σ' G1 ⟨mv, ws, rfl, hd1, ok, sG⟩
  have z6 := ok.z6
  have zb := ok.zb
  have w4 := ok.w4
  have w1 := ok.w1
  have k1 := ok.k1
  have k3 := ok.k3
  walk_at "w"
  refine ⟨kk, bs, ws, hd1, ok, fun mk G2 e2 M2 => ?_⟩
  have hd2 := dp_ex e2 hd1
  have sG2 := ex_l e2 sG
  walk_at "w"
  refine ⟨sa, nsc, 1, rfl, rfl, sG2, hb, hz, by decide, by decide, fun y G3 ny e3 q3 => ?_⟩
  have hd3 := dp_ex e3 hd2
  have M3 := ex_mak e3 M2
  clear hd1 hd2 sG sG2 M2 e2 e3
  refine w_cut (M := fun σ' H' => ∃ (pf : Addr) (a b : Int), σ' = [some (.ref sa), some (.ref x), some (.int kk), some mv, some (.ref mk), some (.ref y), some (.ref pf), none, none, none, none, none, none, none] ∧ Dp K H' mv (dMk kk bs ws) ∧ MakAt K H' mk kk bs ws ∧ SrcAt H' y ∧ pf ≠ y ∧ H' pf = some (.lst (vI [61 + a, b])) ∧ 0 ≤ a ∧ a < 1940) ?_ ?_
  · dsimp only [List.set]
    walk_at "w"
    refine ⟨y, 1940, rfl, rfl, by decide, by decide, q3, fun a H4 a0 a1 q4 f4 => ?_⟩
    walk_at "w"
    refine ⟨y, kk, rfl, rfl, by omega, by omega, q4, fun b H5 b0 b1 q5 f5 => ?_⟩
    walk_at "w"
    intro pf H6 n6 e6 g6
    walk_at "w"
    exact ⟨pf, a, b, rfl, dp_ex e6 (fr_dp f5 q4 (imm_dMk _ _ _) (fr_dp f4 q3 (imm_dMk _ _ _) hd3)), ex_mak e6 (fr_mak f5 q4 (fr_mak f4 q3 M3)), q5.ex e6, q5.ne n6, g6, a0, by omega⟩
  rintro σ' G4 ⟨pf, fa, fb, rfl, hd4, M4, q4, npf, gf4, a0, a1⟩
  clear hd3 M3 q3
  have imR : ∀ (h l : List Int) (r : Int), imm (dRaw h l r) = true := fun h l r => by
    have e : ∀ l : List Int, imm (dInts l) = true := imm_dInts
    show (imm (dInts h) && (imm (dInts l) && (imm (.int r) && true))) = true
    rw [e, e]
    rfl
  walk_at "w"
  refine for_range (lo := 0) (Pv := fun _ σ' H' => ∃ u7 u8 u9 u10 u11 u12 : Option V, σ' = [some (.ref sa), some (.ref x), some (.int kk), some mv, some (.ref mk), some (.ref y), some (.ref pf), u7, u8, u9, u10, u11, u12, none] ∧ Dp K H' mv (dMk kk bs ws) ∧ MakAt K H' mk kk bs ws ∧ SrcAt H' y ∧ H' pf = some (.lst (vI [61 + fa, fb]))) ⟨_, _, _, _, _, _, rfl, hd4, M4, q4, gf4⟩ ?_ ?_
  · rintro j σ' H1 hj ⟨u7, u8, u9, u10, u11, u12, rfl, hd, M, q, gf⟩
    have ej : (0 : Int) + (j : Int) = (j : Int) := Int.zero_add _
    walk_at "w"
    rw [ej]
    refine ⟨kk, j, false, bs, ws, hd, rfl, rfl, ok, fun dv H2 h l r e2 d2 pl sz => ?_⟩
    have hd2 := dp_ex e2 hd
    have M2 := ex_mak e2 M
    walk_at "w"
    refine ⟨mk, kk, j, bs, ws, rfl, rfl, M2, ok, by omega, by omega, fun t H3 h' l' r' e3 T pl' => ?_⟩
    obtain ⟨rfl, rfl, rfl⟩ := pl.uniq pl'
    have hd3 := dp_ex e3 hd2
    have M3 := ex_mak e3 M2
    have d3 := dp_ex e3 d2
    have q3 := (q.ex e2).ex e3
    have gf3 := e3 _ _ (e2 _ _ gf)
    have VV := pl.val
    have zh := sz.1
    have zl6 : l.length ≤ 600 := by have := sz.2.1; split at this <;> omega
    have vs := VV.sm
    walk_at "w"
    refine ⟨t, h, l, r, rfl, T, d3, VV.p1, VV.p2, VV.r0, by omega, by omega, fun v H4 e4 d4 => ?_⟩
    obtain rfl := dp_toBl d4
    have hd4' := dp_ex e4 hd3
    have M4' := ex_mak e4 M3
    have d4' := dp_ex e4 d3
    have q4' := q3.ex e4
    have gf4' := e4 _ _ gf3
    clear hd M q gf hd2 M2 d2 hd3 M3 d3 q3 gf3 T d4 e2 e3 e4
    walk_at "w"
    refine for_range (lo := 0) (Pv := fun _ σ' H' => ∃ u9 u10 u11 u12 : Option V, σ' = [some (.ref sa), some (.ref x), some (.int kk), some mv, some (.ref mk), some (.ref y), some (.ref pf), some (.int j), some dv, u9, u10, u11, u12, none] ∧ Dp K H' mv (dMk kk bs ws) ∧ MakAt K H' mk kk bs ws ∧ SrcAt H' y ∧ H' pf = some (.lst (vI [61 + fa, fb])) ∧ Dp K H' dv (dRaw h l r)) ⟨_, _, _, _, rfl, hd4', M4', q4', gf4', d4'⟩ ?_ ?_
    · rintro tt σ' H5 htt ⟨u9, u10, u11, u12, rfl, hd, M, q, gf, d⟩
      walk_at "w"
      refine ⟨y, kk, bs, ws, 8, rfl, hd, rfl, by decide, w1, w4, q, fun c p1 p2 ns ms H6 f6 q6 sc s1 s2 o1 o2 z1 z2 z3 => ?_⟩
      have hd6 := fr_dp f6 q (imm_dMk _ _ _) hd
      have M6 := fr_mak f6 q M
      have d6 := fr_dp f6 q (imR _ _ _) d
      have gf6 := f6 _ _ npf gf
      obtain ⟨x1, x2, x3, x4⟩ := szx_lcm ok pl sz o1 o2 z1 z2 z3
      have zn := fl_len z6 ns
      have zm := fl_len z6 ms
      walk_at "w"
      refine ⟨kk, bs, ws, j, ns, ms, hd6, rfl, ⟨c, p1, p2, rfl, .inr sc, .inr s1, .inr s2⟩, o1, o2, by omega, by omega, by omega, by rw [List.length_append]; omega, by omega, fun v H7 e7 d7 => ?_⟩
      walk_at "w"
      refine ⟨_, _, _, _, _, _, dp_ex e7 d6, d7, x2, x3, x1, fun o H8 e8 L => ?_⟩
      obtain rfl : o = none := L.uniq (.inl ⟨rfl, fun n => by rw [pl.tv, x4.tv]; exact least_le o1 o2 (List.length_pos_iff.mp (by omega))⟩)
      have E8 := e7.trans e8
      walk_at "w"
      exact ⟨_, _, _, _, rfl, dp_ex E8 hd6, ex_mak E8 M6, q6.ex E8, E8 _ _ gf6, dp_ex E8 d6⟩
    rintro σ' H5 ⟨u9, u10, u11, u12, rfl, hd, M, q, gf, d⟩
    walk_at "w"
    refine i_seqL ?_
    walk_at "w"
    refine ⟨y, 6, rfl, rfl, by decide, by decide, q, fun v1 H6 v10 v11 q6 f6 => ?_⟩
    walk_at "w"
    refine ⟨y, 60, rfl, rfl, by decide, by decide, q6, fun v2 H7 v20 v21 q7 f7 => ?_⟩
    walk_at "w"
    intro pl1 H8 n8 e8 g8
    have hd8 := dp_ex e8 (fr_dp f7 q6 (imm_dMk _ _ _) (fr_dp f6 q (imm_dMk _ _ _) hd))
    have M8 := ex_mak e8 (fr_mak f7 q6 (fr_mak f6 q M))
    have d8 := dp_ex e8 (fr_dp f7 q6 (imR _ _ _) (fr_dp f6 q (imR _ _ _) d))
    have gf8 := e8 _ _ (f7 _ _ npf (f6 _ _ npf gf))
    have q8 := q7.ex e8
    clear hd4' M4' q4' gf4' d4' hd M q gf d f6 f7 q6 q7 e8
    have gfS := sq_of (K := K) gf8
    walk_at "w"
    refine w_ite (fun c => ?A) (fun c => ?B)
    case' A =>
      walk_at "w"
      intro pb9 H9 n9 e9 g9
      refine r_addL (e9 _ _ g8) g9 (sz_of (by simp)) fun pz H10 n10 e10 g10 => ?_
      obtain ⟨xs, hxs, hx1, hx2⟩ : ∃ xs : List Int, H10 pz = some (.lst (vI xs)) ∧ (∀ z ∈ xs, 1 ≤ z ∧ z ≤ 2000) ∧ xs.length ≤ 10 := ⟨[1, 1 + v1, 1 + v2] ++ [61 + fa], g10, fun z hz => by
        simp only [List.mem_append, List.mem_cons, List.not_mem_nil, or_false] at hz
        omega, by simp⟩
    case' B =>
      walk_at "w"
      intro pb9 H9 n9 e9 g9
      refine r_addL (e9 _ _ g8) g9 (sz_of (by simp)) fun pz H10 n10 e10 g10 => ?_
      obtain ⟨xs, hxs, hx1, hx2⟩ : ∃ xs : List Int, H10 pz = some (.lst (vI xs)) ∧ (∀ z ∈ xs, 1 ≤ z ∧ z ≤ 2000) ∧ xs.length ≤ 10 := ⟨[1, 1 + v1, 1 + v2], by rw [List.append_nil] at g10; exact g10, fun z hz => by
        simp only [List.mem_cons, List.not_mem_nil, or_false] at hz
        omega, by simp⟩
    all_goals
      have E10 := e9.trans e10
      have hd10 := dp_ex E10 hd8
      have M10 := ex_mak E10 M8
      have d10 := dp_ex E10 d8
      have gf10 := E10 _ _ gf8
      have q10 := q8.ex E10
      clear hd8 M8 d8 q8 gf8 gfS g8 n8 e9 g9 n9 g10 n10 e10 E10
      have sz10 := sq_of (K := K) hxs
      walk_at "w"
      refine for_list (xs := vI xs) (Pv := fun _ σ' H' => ∃ u10 u11 u12 : Option V, σ' = [some (.ref sa), some (.ref x), some (.int kk), some mv, some (.ref mk), some (.ref y), some (.ref pf), some (.int j), some dv, u9, u10, u11, u12, none] ∧ Ex H10 H') ⟨_, _, _, rfl, Ex.refl _⟩ (fun _ _ H' _ h => by obtain ⟨_, _, _, _, e⟩ := h; exact ex_l e sz10) ?_ ?_
      · rintro n' v σ' H11 hv ⟨u10, u11, u12, rfl, e11⟩
        obtain ⟨z, hz, rfl⟩ := List.mem_map.mp (List.mem_of_getElem? hv)
        obtain ⟨z1, z2⟩ := hx1 z hz
        obtain ⟨n, rfl⟩ : ∃ n : Nat, z = (n : Int) + 1 := ⟨(z - 1).toNat, by omega⟩
        have hd11 := dp_ex e11 hd10
        have M11 := ex_mak e11 M10
        have d11 := dp_ex e11 d10
        clear hv hz
        walk_at "w"
        refine w_callK ?_
        walk_at "w"
        refine ⟨rfl, rfl, _, _, _, _, rfl, mk, kk, j, false, bs, ws, n, rfl, rfl, rfl, rfl, M11, ok, by omega, by omega, by omega, fun c' p' q' ns n'' H12 e12 sc s1 s2 o1 o2 zn hval => ?_⟩
        have hd12 := dp_ex e12 hd11
        have M12 := ex_mak e12 M11
        have d12 := dp_ex e12 d11
        clear hd11 M11 d11
        obtain ⟨am, pb, pw, mx, rfl, sm, sb, sx, dx⟩ := dp_mk hd12
        have zl := (dpAll_len dx).trans (List.length_map ..)
        have ez : (mx.length : Int) = ws.length := by rw [zl]
        have atv : valueAt h l r (some ((n : Int) + 1)) = xtV false j bs ws n := by rw [vat2]; exact pl.tv n
        have zn2 : n < 2000 := by omega
        walk_at "w"
        have tail : ∀ (L : Int) H13, (ns.length : Int) ≤ L → Ex H12 H13 → True := fun _ _ _ _ => trivial
        refine w_ite (fun c60 => ?_) (fun c60 => ?_)
        all_goals
          walk_at "w"
          refine ⟨c', p', q', ns, [n''], ws, _, rfl, sc, s1, s2, by rw [ez], rfl, o1, o2, by omega, by omega, Nat.le_refl 1, (show (1 : Nat) ≤ 4 by decide), fun H13 e13 => ?_⟩
          have sc13 := ex_t e13 sc
          have s113 := ex_t e13 s1
          have s213 := ex_t e13 s2
          have M13 := ex_mak e13 M12
          have hd13 := dp_ex e13 hd12
          have d13 := dp_ex e13 d12
          have e1113 := e12.trans e13
          clear hd12 M12 d12 sm sb sx dx
          walk_at "w"
          by_cases cn : ns.length ≤ 60
          · have zf := fl_len z6 ns
            have zm := fl_len z6 [n'']
            have zm' : (fl ws [n'']).length ≤ 600 := by simpa using zm
            have cn' : (ns.length : Int) ≤ 60 := by omega
            have zd : (bs ++ fl ws ns).length ≤ 40000 := by rw [List.length_append]; omega
            have P := crs_pl (i := j) (bs := bs) (ws := ws) (ns := ns) (ms := [n'']) zd (by omega)
            walk_at "w"
            obtain ⟨dm, vb, vw, hm, _, _⟩ := id M13
            refine r_meth hm (kF_no (by decide +kernel) (by decide +kernel) (by decide +kernel)) ?_
            walk_at "w"
            refine w_callM3 ⟨mk, kk, bs, ws, j, ns, [n''], rfl, M13, rfl, by omega, by omega, ⟨c', p', q', rfl, .inr sc13, .inr s113, .inr s213⟩, o1, o2, by omega, Nat.le_refl 1, (show (1 : Nat) ≤ 40 by decide), zd, by omega, fun t1 H14 e14 T1 => ?_⟩
            walk_at "w"
            obtain ⟨td, th1, tl1, tb1, _⟩ := id T1
            refine r_callO1 tb1 ⟨t1, _, _, _, some ((n : Int) + 1), rfl, T1, rfl, fun i hi => by cases hi; omega, P.val.sm, fun v1' H15 e15 q15 => ?_⟩
            rw [vat2, P.tv n, hval] at q15
            obtain rfl := dp_toOpt q15
            have d15 := dp_ex (e14.trans e15) d13
            walk_at "w"
            refine ⟨h, l, r, some ((n : Int) + 1), d15, .int _, fun i hi => by cases hi; omega, vs, fun v2' H16 e16 q16 => ?_⟩
            rw [atv] at q16
            obtain rfl := dp_toOpt q16
            have E16 := (e14.trans e15).trans e16
            have hd16 := dp_ex E16 hd13
            have sc16 := ex_t E16 sc13
            have s116 := ex_t E16 s113
            have s216 := ex_t E16 s213
            have d16 := dp_ex E16 d13
            walk_at "w"
            refine ⟨kk, j, bs, ws, ns, [n''], c', p', q', n, hd16, rfl, rfl, sc16, s116, s216, rfl, o1, o2, ok, zn2, fun H17 e17 => ?_⟩
            rw [hval]
            walk_at "w"
            refine ⟨h, l, r, some ((n : Int) + 1), dp_ex e17 d16, .int _, fun i hi => by cases hi; omega, vs, fun v3' H18 e18 q18 => ?_⟩
            rw [atv] at q18
            obtain rfl := dp_toOpt q18
            walk_at "w"
            exact ⟨_, _, _, rfl, e11.trans (e1113.trans ((E16.trans e17).trans e18))⟩
          · have cn' : ¬ ((ns.length : Int) ≤ 60) := by omega
            first
            | (exfalso; omega)
            | (walk_at "w"
               refine ⟨kk, j, bs, ws, ns, [n''], c', p', q', n, hd13, rfl, rfl, sc13, s113, s213, rfl, o1, o2, ok, zn2, fun H17 e17 => ?_⟩
               rw [hval]
               walk_at "w"
               refine ⟨h, l, r, some ((n : Int) + 1), dp_ex e17 d13, .int _, fun i hi => by cases hi; omega, vs, fun v3' H18 e18 q18 => ?_⟩
               rw [atv] at q18
               obtain rfl := dp_toOpt q18
               walk_at "w"
               exact ⟨_, _, _, rfl, e11.trans (e1113.trans (e17.trans e18))⟩)
      rintro σ' H11 ⟨u10, u11, u12, rfl, e11⟩
      exact ⟨_, _, _, _, _, _, rfl, dp_ex e11 hd10, ex_mak e11 M10, q10.ex e11, e11 _ _ gf10⟩
  rintro σ' G5 ⟨u7, u8, u9, u10, u11, u12, rfl, hd5, M5, q5, gf5⟩
  walk_at "w"
  refine ⟨mk, kk, 0, bs, ws, rfl, rfl, M5, ok, by decide, by omega, fun t G6 h l r e6 T pl => ?_⟩
  obtain ⟨td, th1, tl1, tb1, _⟩ := id T
  have hd6 := dp_ex e6 hd5
  walk_at "w"
  refine r_callO1 tb1 ⟨t, _, _, _, some (10 ^ 25), rfl, T, rfl, fun i hi => by cases hi; decide, pl.val.sm, fun v1' G7 e7 q7 => ?_⟩
  obtain rfl := dp_toOpt q7
  have hd7 := dp_ex e7 hd6
  walk_at "w"
  refine ⟨kk, 0, false, bs, ws, hd7, rfl, rfl, ok, fun dv G8 h' l' r' e8 d8 pl' sz => ?_⟩
  obtain ⟨rfl, rfl, rfl⟩ := pl.uniq pl'
  walk_at "w"
  refine ⟨h, l, r, some (10 ^ 25), d8, .int _, fun i hi => by cases hi; decide, pl.val.sm, fun v2' G9 e9 q9 => ?_⟩
  obtain rfl := dp_toOpt q9
  walk_at "w"
  rw [decide_eq_true rfl]
  exact k _

end
end M
namespace M
open PySem PySem.Spec PyProof.Rows L2 Evl MS
theorem facts {P : Program} {w : World} {K : PySem.W.Frag} {h : Heap} {mg : Str → Option Value} {f : Addr} (X : K.In h) (G : h.Ns mainGlobals mg) (hfa : mg ("law" : Str) = some (.ref f)) (c : SaysM fa fn exB K) (pf : ((P.main.file : Str) == mainFile) = true ∧ (P.main.scope.names.lookup ("super" : Str)).isSome = false) :
    ∃ fd : FuncData, (∀ (s : Shared) (v : Value), BindsTo s fd ⟨[v], []⟩ [("script", v)]) ∧ ∀ base : Heap, K.In base → base.Ns mainGlobals mg → FnOk P w K mg base CX0 15 f fd ["script"] (lawSp K) := by
  have E : Env P K mg := ⟨⟨h, X, G⟩, c, pf⟩
  obtain ⟨fd, F⟩ := E.dd_law
  have e := hfa.symm.trans E.g_law
  cases e
  have b := FunD.bindsA (ps := ["script"]) F fun _ _ _ _ _ _ us hl => match us, hl with | [_], _ => rfl
  exact ⟨fd, fun s v => b s [v] rfl, fun base _ _ => ok_law E F⟩
end M
open PySem PySem.W PySem.Calls PyProof.Rows
theorem PySem.Challenge.cw_rosterneed_k26_whole_least_needs_holds : PySem.Challenge.rw_rosterneed_k26_whole_least_needs.Holds := by
  w_on; o_law
  refine HandSHeadRun.head_any (r := OpenLaw.row PySem.Challenge.rw_rosterneed_k26_whole_least_needs) (q := view (OpenLaw.row PySem.Challenge.rw_rosterneed_k26_whole_least_needs).prog [88]) (H := M.hk) (ob := M.ob) (M := 6000) (loose := M.nmL) (d := HandSHeadRun.topDef (OpenLaw.row PySem.Challenge.rw_rosterneed_k26_whole_least_needs).prog 88) (kwd := []) M.ob_eq
    (by kernel_rfl) (fun s => by kernel_rfl) M.run (by kernel_rfl) (by kernel_rfl) (by kernel_rfl) (by rfl) (by first | assumption | decide +kernel) (by decide +kernel) ⟨rfl, rfl, rfl, rfl, rfl, by decide +kernel⟩ ?hw ?hc
  case hw => w_witness2
  case hc =>
    refine Att.attach_callB (l := PySem.Challenge.rw_rosterneed_k26_whole_least_needs) (n := 63) rfl (by kernel_rfl) fun w s₀ s₁ mg mb fa o pm cd doc a vs ns G Y ho hd hcd hmg0 hobj hints hlen hbits hg => ?_
    obtain ⟨K, KX, c⟩ := Y
    have hmg : mg ("law" : PySem.Str) = some (.ref fa) := by
      have e : (HandSHeadRun.topDef (OpenLaw.row PySem.Challenge.rw_rosterneed_k26_whole_least_needs).prog 88).name = ("law" : PySem.Str) := by kernel_rfl
      rw [← e]
      exact hmg0
    obtain ⟨fd, hb, hF⟩ := M.facts (P := (PySem.Challenge.rw_rosterneed_k26_whole_least_needs).prog) (w := w) KX G.T.g hmg c ⟨by kernel_rfl, by kernel_rfl⟩
    exact L2.law_call (CX := L2.CX0) KX G.T.g G.T.b G.T.builtins G.T.nolimit hg hobj hints (Nat.le_trans hlen (by decide)) ⟨rfl, by decide, by decide⟩ hF hb (fun H _ hS => ⟨_, rfl, a, ns, rfl, hS, hbits, hlen, fun _ => rfl⟩) fun _ _ _ z => z

