import PyProof.Rows.All
import Wide.All
import OpenK.AllK
import Wide.FinOn
import KE.KStateDown
import HandS.ForMost
import HandS.Exc
import HandS.WordsExc
import HandS.Defaults
import HandS.Evl
import HandS.Flow
import HandS.Conv
import HandS.IsInst
import HandS.TupMul
import HandS.TupAny
import HandS.Wide
import HandS.WideBits
import HandS.Property
import HandS.Star
import HandS.OwnEq
import HandS.Flt
import KE.KSuper
import HandS.ClsMeth
import HandS.Nested
import HandS.Style
import HandS.Head0
import HandS.Head1
import HandS.Head2
import HandS.HeadEnd
import HandS.EndBits
import HandS.HeadHook1
import HandS.HeadHook2
import HandS.Text
import HandS.Iter
import HandS.Walk
import PySem.Challenge.RW_rosterneed_k10_whole_tables_read
set_option Elab.async false
set_option linter.all false
set_option maxRecDepth 100000
set_option maxHeartbeats 4000000
/-! ### part A: defs by name, calls, unions of rules (own layer over HandS) -/
namespace M
open PySem PySem.Spec PyProof.Rows L2 Evl

section
variable {P : Program} {w : World} {K : PySem.W.Frag} {mg : Str → Option Value} {base : Heap}
/-- a def of the module under its name, with its promise -/
structure Fn (P : Program) (w : World) (K : PySem.W.Frag) (mg : Str → Option Value) (base : Heap) (CX : CXT) (k : Nat) (x : Str) (sp : Sp) : Prop where
  ex : ∃ (f : Addr) (fd : FuncData) (ps : List Str), FnOk P w K mg base CX k f fd ps sp ∧ mg x = some (.ref f) ∧ PySem.W.keepIn K (.ref f) = true ∧ Binds K fd ps []
/-- a method of the class at C -/
structure Mt (P : Program) (w : World) (K : PySem.W.Frag) (mg : Str → Option Value) (base : Heap) (CX : CXT) (k : Nat) (C : Addr) (m : Str) (sp : Sp) : Prop where
  ex : ∃ (f : Addr) (fd : FuncData) (ps : List Str), Cls K C ∧ Meth K C m f ∧ FnOk P w K mg base CX k f fd ps sp ∧ Binds K fd ps []

def sp1 (F : V → Hp → VK → XK → Prop) : Sp := fun vs H Q E => ∃ a, vs = [a] ∧ F a H Q E
def sp2 (F : V → V → Hp → VK → XK → Prop) : Sp := fun vs H Q E => ∃ a b, vs = [a, b] ∧ F a b H Q E
def sp3 (F : V → V → V → Hp → VK → XK → Prop) : Sp := fun vs H Q E => ∃ a b c, vs = [a, b, c] ∧ F a b c H Q E
def sp4 (F : V → V → V → V → Hp → VK → XK → Prop) : Sp := fun vs H Q E => ∃ a b c d, vs = [a, b, c, d] ∧ F a b c d H Q E
def sp5 (F : V → V → V → V → V → Hp → VK → XK → Prop) : Sp := fun vs H Q E => ∃ a b c d e, vs = [a, b, c, d, e] ∧ F a b c d e H Q E

theorem sp1_len {F} {p : Str} : ∀ vs H Q E, sp1 F vs H Q E → vs.length = [p].length := fun vs H Q E ⟨a, e, _⟩ => by rw [e]; rfl
theorem sp2_len {F} {p q : Str} : ∀ vs H Q E, sp2 F vs H Q E → vs.length = [p, q].length := fun vs H Q E ⟨a, b, e, _⟩ => by rw [e]; rfl
theorem sp3_len {F} {p q r : Str} : ∀ vs H Q E, sp3 F vs H Q E → vs.length = [p, q, r].length := fun vs H Q E ⟨a, b, c, e, _⟩ => by rw [e]; rfl
theorem sp4_len {F} {p q r u : Str} : ∀ vs H Q E, sp4 F vs H Q E → vs.length = [p, q, r, u].length := fun vs H Q E ⟨a, b, c, d, e, _⟩ => by rw [e]; rfl
theorem sp5_len {F} {p q r u v : Str} : ∀ vs H Q E, sp5 F vs H Q E → vs.length = [p, q, r, u, v].length := fun vs H Q E ⟨a, b, c, d, _, e, _⟩ => by rw [e]; rfl

/-- a def of which nothing is promised (the floor of a recursion) -/
theorem Fn.never {x qual : Str} {params : Arguments} {body : List Stmt} {scope : Scope} {f : Addr} {fd : FuncData} {ps : List Str} {k : Nat}
    (F : FunD K x qual params body scope [] [] f fd) (hm : mg x = some (.ref f))
    (hb : ∀ (kV doc pm : Value) (an : Option Addr) (cdv ct : Value) (us : List Value), us.length = ps.length → bindArgs (PySem.W.fnOf x qual params body scope .none kV doc pm an cdv ct) ⟨us, []⟩ = pure (ps.zip us)) :
    Fn P w K mg base CX0 k x (fun _ _ _ _ => False) :=
  ⟨f, fd, ps, ⟨fun _ _ _ _ h => h.elim, fun _ _ _ _ _ _ _ _ _ _ _ _ _ h => h.elim⟩, hm, F.kp, F.bindsN hb⟩
theorem fnok0 {x qual : Str} {params : Arguments} {body : List Stmt} {scope : Scope} {dvs : List V} {f : Addr} {fd : FuncData} {N ps : List Str} {k : Nat} {sp : Sp}
    (F : FunD K x qual params body scope dvs [] f fd) (S : FnScope N ps scope) (len : ∀ vs H Q E, sp vs H Q E → vs.length = ps.length)
    (hbody : ∀ (cdv : Value) (A : Around) (outer : List Env) (s : Shared) (H : Hp) (vs : List V) (Q : VK) (E : XK), Room k (A.deeper (envOfC qual scope s.heap.objs.size f cdv)) → sp vs H Q E →
      ∃ t, PSs (cxOf CX0 P w K mg base N qual scope f cdv A outer s H E).nox body t ∧ t { nx := fun _ H' => Q .non H', rt := Q } (start N vs) H) :
    FnOk P w K mg base CX0 (k + 1) f fd ps sp := F.ok S len fun cdv A outer s H vs Q E hr h => by
  obtain ⟨t, h1, h2⟩ := hbody cdv A outer s H vs Q E hr h
  exact ⟨t, h1.nox, h2⟩
/-- a def that lets nothing out, by its body -/
theorem Fn.mk0 {x qual : Str} {params : Arguments} {body : List Stmt} {scope : Scope} {f : Addr} {fd : FuncData} {N ps : List Str} {k : Nat} {sp : Sp}
    (F : FunD K x qual params body scope [] [] f fd) (hm : mg x = some (.ref f)) (S : FnScope N ps scope) (len : ∀ vs H Q E, sp vs H Q E → vs.length = ps.length)
    (hb : ∀ (kV doc pm : Value) (an : Option Addr) (cdv ct : Value) (us : List Value), us.length = ps.length → bindArgs (PySem.W.fnOf x qual params body scope .none kV doc pm an cdv ct) ⟨us, []⟩ = pure (ps.zip us))
    (hbody : ∀ (cdv : Value) (A : Around) (outer : List Env) (s : Shared) (H : Hp) (vs : List V) (Q : VK) (E : XK), Room k (A.deeper (envOfC qual scope s.heap.objs.size f cdv)) → sp vs H Q E →
      ∃ t, PSs (cxOf CX0 P w K mg base N qual scope f cdv A outer s H E).nox body t ∧ t { nx := fun _ H' => Q .non H', rt := Q } (start N vs) H) :
    Fn P w K mg base CX0 (k + 1) x sp :=
  ⟨f, fd, ps, F.ok S len fun cdv A outer s H vs Q E hr h => by
    obtain ⟨t, h1, h2⟩ := hbody cdv A outer s H vs Q E hr h
    exact ⟨t, h1.nox, h2⟩, hm, F.kp, F.bindsN hb⟩
theorem Mt.mk0 {x qual : Str} {params : Arguments} {body : List Stmt} {scope : Scope} {f C : Addr} {fd : FuncData} {N ps : List Str} {k : Nat} {sp : Sp} {m : Str}
    (F : FunD K x qual params body scope [] [] f fd) (c : Cls K C) (hm : Meth K C m f) (S : FnScope N ps scope) (len : ∀ vs H Q E, sp vs H Q E → vs.length = ps.length)
    (hb : ∀ (kV doc pm : Value) (an : Option Addr) (cdv ct : Value) (us : List Value), us.length = ps.length → bindArgs (PySem.W.fnOf x qual params body scope .none kV doc pm an cdv ct) ⟨us, []⟩ = pure (ps.zip us))
    (hbody : ∀ (cdv : Value) (A : Around) (outer : List Env) (s : Shared) (H : Hp) (vs : List V) (Q : VK) (E : XK), Room k (A.deeper (envOfC qual scope s.heap.objs.size f cdv)) → sp vs H Q E →
      ∃ t, PSs (cxOf CX0 P w K mg base N qual scope f cdv A outer s H E).nox body t ∧ t { nx := fun _ H' => Q .non H', rt := Q } (start N vs) H) :
    Mt P w K mg base CX0 (k + 1) C m sp :=
  ⟨f, fd, ps, c, hm, F.ok S len fun cdv A outer s H vs Q E hr h => by
    obtain ⟨t, h1, h2⟩ := hbody cdv A outer s H vs Q E hr h
    exact ⟨t, h1.nox, h2⟩, F.bindsN hb⟩
end

section
variable {X : Cx} {CX : CXT} {k j : Nat} {C : Addr} {x m : Str} {sp : Sp} {E : XK} {p pos apos : Pos} {e o : Expr} {es : List Expr} {ta : TE} {t : TA}
theorem pc (c : Fn X.prog X.w X.K X.mg X.base CX k x sp) (hr : Room j X.A) (hk : k ≤ j) (hx : Passes CX X E) (hg : Gl X x) (ha : PA X (e :: es) t)
    (hdb : (x == ("__debug__" : Str)) = false := by decide) (he : starEach (e :: es) X.env = (false, eval e X.env) :: starEach es X.env := by rfl) (hpl : (backTo pos (starEach es X.env)).any (·.1) = false := by rfl) :
    PE X (.Call (.Name x p) (e :: es) [] pos) (tCall sp [] E t) := by
  obtain ⟨f, fd, ps, F, hm, hkp, hb⟩ := c.ex
  exact pe_call F (hr.mono hk) hg hm hkp hb .nil hx ha hdb he hpl
theorem pc0 (c : Fn X.prog X.w X.K X.mg X.base CX k x sp) (hr : Room j X.A) (hk : k ≤ j) (hx : Passes CX X E) (hg : Gl X x)
    (hdb : (x == ("__debug__" : Str)) = false := by decide) :
    PE X (.Call (.Name x p) [] [] pos) (tCall sp [] E tNil) := by
  obtain ⟨f, fd, ps, F, hm, hkp, hb⟩ := c.ex
  exact pe_call0 F (hr.mono hk) hg hm hkp hb .nil hx hdb
end

/-! unions -/
section
variable {X : Cx}
def rAdd (K : PySem.W.Frag) : R2 := fun x y H Q => (rI0 fun i j => .int (i + j)) x y H Q ∨ rCat x y H Q ∨ rCatA K x y H Q ∨ ∃ i j, x = .str i ∧ y = .str j ∧ i.length + j.length ≤ sizeLine ∧ Q (.str (i ++ j)) H
theorem xAdd : OpR X (binaryOp .Add) (rAdd X.K) := op_add.or (op_cat.or (op_catA.or op_add_str))
def rMul (K : PySem.W.Frag) : R2 := fun x y H Q => (rI CMul fun i j => .int (i * j)) x y H Q ∨ rRep x y H Q ∨ rRepT K x y H Q
theorem xMul : OpR X (binaryOp .Mult) (rMul X.K) := op_mul.or (op_rep.or op_repT)
abbrev rDiv : R2 := rI CDivW fun i j => .int (i / j)
theorem xDiv : OpR X (binaryOp .FloorDiv) rDiv := op_fdivW
abbrev rMod : R2 := rI (fun _ j => 0 < j) fun i j => .int (i % j)
theorem xMod : OpR X (binaryOp .Mod) rMod := op_mod
abbrev rSubI : R2 := rI0 fun i j => .int (i - j)
theorem xSub : OpR X (binaryOp .Sub) rSubI := op_sub
abbrev rShl : R2 := rI CShl fun i j => .int (i * 2 ^ j.toNat)
theorem xShl : OpR X (binaryOp .LShift) rShl := op_shlW
abbrev rShr : R2 := rI (fun _ j => 0 ≤ j) fun i j => .int (i / 2 ^ j.toNat)
theorem xShr : OpR X (binaryOp .RShift) rShr := op_shr
abbrev rPow : R2 := rI CPow fun i j => .int (i ^ j.toNat)
theorem xPow : OpR X (binaryOp .Pow) rPow := op_pow
def rEqU (K : PySem.W.Frag) : R2 := fun x y H Q => rEq x y H Q ∨ rEqD K x y H Q
theorem xEq {j : Nat} (hr : Room j X.A) : OpR X (compareOp .Eq) (rEqU X.K) := op_eq.or (op_eqD (by have := hr.un; omega))
def rNeU (K : PySem.W.Frag) : R2 := fun x y H Q => rNe x y H Q ∨ rNeD K x y H Q
theorem xNe {j : Nat} (hr : Room j X.A) : OpR X (compareOp .NotEq) (rNeU X.K) := op_ne.or (op_neD (by have := hr.un; omega))
def rSl (K : PySem.W.Frag) : V → Option Int → Option Int → Hp → VK → Prop := fun x lo hi H Q => rSlL K x lo hi H Q ∨ rSlA K x lo hi H Q ∨ rSlS x lo hi H Q
theorem xSl : SlR X (rSl X.K) := sl_list.or (sl_tupA.or sl_str)
theorem PI.or {tg iter : Expr} {w1 w2 : TI} (h1 : PI X tg iter w1) (h2 : PI X tg iter w2) : PI X tg iter (fun σ H R => w1 σ H R ∨ w2 σ H R) :=
  ⟨fun pins s σ H R I h => h.elim (h1.run pins s σ H R I) (h2.run pins s σ H R I)⟩
def iSeq (K : PySem.W.Frag) (tl : TE) : TI := fun σ H R => iList K tl σ H R ∨ iTup K tl σ H R
theorem pi_seq {tg l : Expr} {tl : TE} (hl : PE X l tl) : PI X tg l (iSeq X.K tl) := PI.or (pi_list hl) (pi_tup hl)
end
end M

/-! ### part B: readings step by step -/
namespace M
open PySem PySem.Spec PyProof.Rows L2 Evl
section
variable {K : PySem.W.Frag} {σ : L2.St} {H : Hp} {Q : VK} {D : Ends} {t u : TS} {te ta tb : TE} {tt tu : TT} {g : TG} {v : V} {r : R2}
theorem w_cut {M : L2.St → Hp → Prop} (h : t { nx := M, rt := D.rt, bk := D.bk, ct := D.ct } σ H) (h2 : ∀ σ' H', M σ' H' → u D σ' H') : tCut t u D σ H := ⟨M, h, h2⟩
theorem w_seq (h : t { nx := u D, rt := D.rt, bk := D.bk, ct := D.ct } σ H) : tSeq t u D σ H := h
theorem w_drop (h : te σ H fun _ H1 => D.nx σ H1) : tDrop te D σ H := h
theorem w_asg (h : te σ H fun x H1 => g x σ H1 D.nx) : tAsg te g D σ H := h
theorem w_ret (h : te σ H D.rt) : tRet te D σ H := h
theorem w_retN (h : D.rt .non H) : tRetN D σ H := h
theorem w_next (h : D.nx σ H) : tNext D σ H := h
theorem w_break (h : D.bk σ H) : tBreak D σ H := h
theorem w_ifS (h : tt σ H fun b H1 => if b = true then t D σ H1 else u D σ H1) : tIfS tt t u D σ H := h
theorem w_op (h : ta σ H fun x H1 => tb σ H1 fun y H2 => r x y H2 Q) : tOp r ta tb σ H Q := h
theorem w_un {r : V → Hp → VK → Prop} (h : ta σ H fun x H1 => r x H1 Q) : tUn r ta σ H Q := h
theorem w_c (h : Q v H) : tC v σ H Q := h
theorem w_test {Q : Bool → Hp → Prop} (h : te σ H fun x H' => ∃ k, x = .bl k ∧ Q k H') : tTest te σ H Q := h
theorem w_tB {Q : Bool → Hp → Prop} (h : te σ H fun x H' => ∃ k, x = .bl k ∧ Q k H') : tB te σ H Q := h
theorem w_exbl {Q : Bool → Hp → Prop} {b : Bool} (h : Q b H) : ∃ k, V.bl b = .bl k ∧ Q k H := ⟨b, rfl, h⟩
theorem w_exbl2 {Q : Bool → Prop} {b : Bool} (h : Q b) : ∃ k, V.bl b = .bl k ∧ Q k := ⟨b, rfl, h⟩
theorem w_and {Q : Bool → Hp → Prop} (h : tt σ H fun c H1 => if c = true then tu σ H1 Q else Q false H1) : tAnd tt tu σ H Q := h
theorem w_or {Q : Bool → Hp → Prop} (h : tt σ H fun c H1 => if c = true then Q true H1 else tu σ H1 Q) : tOr tt tu σ H Q := h
theorem w_not {Q : Bool → Hp → Prop} (h : tt σ H fun c H1 => Q (!c) H1) : tNot tt σ H Q := h
theorem w_andV (h : ta σ H fun x H1 => ∃ c, x = .bl c ∧ if c = true then tb σ H1 Q else Q (.bl false) H1) : tAndV ta tb σ H Q := h
theorem w_orV (h : ta σ H fun x H1 => ∃ c, x = .bl c ∧ if c = true then Q (.bl true) H1 else tb σ H1 Q) : tOrV ta tb σ H Q := h
theorem w_notV (h : ta σ H fun x H1 => ∃ c, x = .bl c ∧ Q (.bl (!c)) H1) : tNotV ta σ H Q := h
theorem w_ifE (h : tt σ H fun c H1 => if c = true then ta σ H1 Q else tb σ H1 Q) : tIf tt ta tb σ H Q := h
theorem w_chain {r' : R2} {tc : TE} (h : ta σ H fun x H1 => tb σ H1 fun y H2 => r x y H2 fun z H3 => ∃ k, z = .bl k ∧ (if k = true then tc σ H3 fun w' H4 => r' y w' H4 Q else Q (.bl false) H3)) : tChain r r' ta tb tc σ H Q := h
theorem w_nil {Q : List V → Hp → Prop} (h : Q [] H) : tNil σ H Q := h
theorem w_cons {tr : TA} {Q : List V → Hp → Prop} (h : ta σ H fun x H1 => tr σ H1 fun xs H2 => Q (x :: xs) H2) : tCons ta tr σ H Q := h
theorem w_cb {r : List V → Hp → VK → Prop} {t : TA} (h : t σ H fun vs H1 => r vs H1 Q) : tCB r t σ H Q := h
theorem w_call {sp : Sp} {E : XK} {t : TA} (h : t σ H fun vs H1 => sp (vs ++ []) H1 Q E) : tCall sp [] E t σ H Q := h
theorem w_call1 {F} {E : XK} {a : V} (h : F a H Q E) : sp1 F ([a] ++ []) H Q E := ⟨a, rfl, h⟩
theorem w_call2 {F} {E : XK} {a b : V} (h : F a b H Q E) : sp2 F ([a, b] ++ []) H Q E := ⟨a, b, rfl, h⟩
theorem w_call3 {F} {E : XK} {a b c : V} (h : F a b c H Q E) : sp3 F ([a, b, c] ++ []) H Q E := ⟨a, b, c, rfl, h⟩
theorem w_call4 {F} {E : XK} {a b c d : V} (h : F a b c d H Q E) : sp4 F ([a, b, c, d] ++ []) H Q E := ⟨a, b, c, d, rfl, h⟩
theorem w_call5 {F} {E : XK} {a b c d e : V} (h : F a b c d e H Q E) : sp5 F ([a, b, c, d, e] ++ []) H Q E := ⟨a, b, c, d, e, rfl, h⟩
theorem w_callM1 {F} {E : XK} {x : V} (h : F x H Q E) : sp1 F (x :: ([] ++ [])) H Q E := ⟨x, rfl, h⟩
theorem w_callM2 {F} {E : XK} {x a : V} (h : F x a H Q E) : sp2 F (x :: ([a] ++ [])) H Q E := ⟨x, a, rfl, h⟩
theorem w_callM3 {F} {E : XK} {x a b : V} (h : F x a b H Q E) : sp3 F (x :: ([a, b] ++ [])) H Q E := ⟨x, a, b, rfl, h⟩
theorem w_callM4 {F} {E : XK} {x a b c : V} (h : F x a b c H Q E) : sp4 F (x :: ([a, b, c] ++ [])) H Q E := ⟨x, a, b, c, rfl, h⟩
/-- a new tuple, a new list: what is asked, named -/
def NewT (xs : List V) (H : Hp) (Q : VK) : Prop := xs.length ≤ sizeLine ∧ ∀ p, H p = none → Q (.ref p) (upd H p (.tup xs))
def NewL (xs : List V) (H : Hp) (Q : VK) : Prop := xs.length ≤ sizeLine ∧ ∀ p, H p = none → Q (.ref p) (upd H p (.lst xs))
theorem w_tup {t : TA} (h : t σ H fun xs H1 => NewT xs H1 Q) : tTup t σ H Q := h
theorem w_lst {t : TA} (h : t σ H fun xs H1 => NewL xs H1 Q) : tLst t σ H Q := h
theorem w_newT {xs : List V} (hz : xs.length ≤ sizeLine) (h : ∀ p H1, H p = none → Ex H H1 → H1 p = some (.tup xs) → Q (.ref p) H1) : NewT xs H Q :=
  ⟨hz, fun p hp => h p _ hp (Ex.new hp) upd_same⟩
theorem w_newL {xs : List V} (hz : xs.length ≤ sizeLine) (h : ∀ p H1, H p = none → Ex H H1 → H1 p = some (.lst xs) → Q (.ref p) H1) : NewL xs H Q :=
  ⟨hz, fun p hp => h p _ hp (Ex.new hp) upd_same⟩
theorem w_sl {r : V → Option Int → Option Int → Hp → VK → Prop} {tl th : TO} (h : te σ H fun x H1 => tl σ H1 fun l H2 => th σ H2 fun u H3 => r x l u H3 Q) : tSl r te tl th σ H Q := h
theorem w_part {Q : Option Int → Hp → Prop} (h : te σ H fun x H1 => ∃ i, x = .int i ∧ Q (some i) H1) : tPart te σ H Q := h
theorem w_noPart {Q : Option Int → Hp → Prop} (h : Q none H) : tNoPart σ H Q := h
theorem w_exint {Q : Int → Prop} {i : Int} (h : Q i) : ∃ k, V.int i = .int k ∧ Q k := ⟨i, rfl, h⟩
theorem w_gsub {to ti : TE} {s : TSet} {Q : L2.St → Hp → Prop} (h : to σ H fun o H1 => ti σ H1 fun i H2 => s o i v H2 fun H3 => Q σ H3) : gSub to ti s v σ H Q := h
theorem w_par {i j : Nat} {ta : TA} (h : ta σ H fun vs H1 => ∃ v w, vs = [v, w] ∧ D.nx ((List.set σ i (some v)).set j (some w)) H1) : tPar i j ta D σ H := h
theorem w_yes {Q : Bool → Hp → Prop} (h : Q true H) : tYes σ H Q := h
/-! tuples unpacked -/
theorem w_gtup {n : Nat} {t : TGs} {a : Addr} {xs : List V} {Q : L2.St → Hp → Prop} (hs : SqT K H a xs) (hl : xs.length = n) (h : t xs σ H Q) : gTup K n t (.ref a) σ H Q := ⟨a, xs, rfl, hs, hl, h⟩
theorem w_gcons {g : TG} {us : TGs} {x : V} {xs : List V} {Q : L2.St → Hp → Prop} (h : g x σ H fun σ' H' => us xs σ' H' Q) : gCons g us (x :: xs) σ H Q := ⟨x, xs, rfl, h⟩
theorem w_gnil {Q : L2.St → Hp → Prop} (h : Q σ H) : gNil [] σ H Q := ⟨rfl, h⟩
/-! ifs -/
theorem w_ite {c A B : Prop} [Decidable c] (h1 : c → A) (h2 : ¬ c → B) : if decide c = true then A else B := by
  by_cases h : c
  · rw [if_pos (decide_eq_true h)]; exact h1 h
  · rw [if_neg (by rw [decide_eq_false h]; exact Bool.false_ne_true)]; exact h2 h
theorem w_iteN {c A B : Prop} [Decidable c] (h1 : ¬ c → A) (h2 : c → B) : if (!decide c) = true then A else B := by
  by_cases h : c
  · rw [decide_eq_true h, if_neg (by decide)]; exact h2 h
  · rw [decide_eq_false h, if_pos (by decide)]; exact h1 h
theorem w_dT {c A B : Prop} [Decidable c] (h : c) (h1 : A) : if decide c = true then A else B := w_ite (fun _ => h1) fun n => absurd h n
theorem w_dF {c A B : Prop} [Decidable c] (h : ¬ c) (h1 : B) : if decide c = true then A else B := w_ite (fun n => absurd n h) fun _ => h1
theorem w_nT {c A B : Prop} [Decidable c] (h : ¬ c) (h1 : A) : if (!decide c) = true then A else B := w_iteN (fun _ => h1) fun n => absurd n h
theorem w_nF {c A B : Prop} [Decidable c] (h : c) (h1 : B) : if (!decide c) = true then A else B := w_iteN (fun n => absurd h n) fun _ => h1
theorem w_bT {b : Bool} {A B : Prop} (h : b = true) (h1 : A) : if b = true then A else B := by rw [if_pos h]; exact h1
theorem w_bF {b : Bool} {A B : Prop} (h : b = false) (h1 : B) : if b = true then A else B := by rw [if_neg (by rw [h]; decide)]; exact h1
theorem w_b2 {b : Bool} {A B : Prop} (h1 : b = true → A) (h2 : b = false → B) : if b = true then A else B := by
  cases b
  · exact iteF (h2 rfl)
  · exact iteT (h1 rfl)

/-- a store, named -/
def SetN (i : Nat) (v : V) (l : L2.St) (H : Hp) (Q : L2.St → Hp → Prop) : Prop := Q (l.set i (some v)) H
theorem w_nn {i : Nat} {Q : L2.St → Hp → Prop} (h : SetN i v σ H Q) : gName i v σ H Q := h
def GetN (i : Nat) (l : L2.St) (H : Hp) (Q : VK) : Prop := ∃ v, l[i]? = some (some v) ∧ Q v H
theorem w_vv {i : Nat} (h : GetN i σ H Q) : tVar i σ H Q := h
theorem w_v0 {l : L2.St} (h : Q v H) : GetN 0 (some v :: l) H Q := ⟨v, rfl, h⟩
theorem w_n0 {y : Option V} {l : L2.St} {Q : L2.St → Hp → Prop} (h : Q (some v :: l) H) : SetN 0 v (y :: l) H Q := h
theorem w_v1 {x0 : Option V} {l : L2.St} (h : Q v H) : GetN 1 (x0 :: some v :: l) H Q := ⟨v, rfl, h⟩
theorem w_n1 {x0 : Option V} {y : Option V} {l : L2.St} {Q : L2.St → Hp → Prop} (h : Q (x0 :: some v :: l) H) : SetN 1 v (x0 :: y :: l) H Q := h
theorem w_v2 {x0 x1 : Option V} {l : L2.St} (h : Q v H) : GetN 2 (x0 :: x1 :: some v :: l) H Q := ⟨v, rfl, h⟩
theorem w_n2 {x0 x1 : Option V} {y : Option V} {l : L2.St} {Q : L2.St → Hp → Prop} (h : Q (x0 :: x1 :: some v :: l) H) : SetN 2 v (x0 :: x1 :: y :: l) H Q := h
theorem w_v3 {x0 x1 x2 : Option V} {l : L2.St} (h : Q v H) : GetN 3 (x0 :: x1 :: x2 :: some v :: l) H Q := ⟨v, rfl, h⟩
theorem w_n3 {x0 x1 x2 : Option V} {y : Option V} {l : L2.St} {Q : L2.St → Hp → Prop} (h : Q (x0 :: x1 :: x2 :: some v :: l) H) : SetN 3 v (x0 :: x1 :: x2 :: y :: l) H Q := h
theorem w_v4 {x0 x1 x2 x3 : Option V} {l : L2.St} (h : Q v H) : GetN 4 (x0 :: x1 :: x2 :: x3 :: some v :: l) H Q := ⟨v, rfl, h⟩
theorem w_n4 {x0 x1 x2 x3 : Option V} {y : Option V} {l : L2.St} {Q : L2.St → Hp → Prop} (h : Q (x0 :: x1 :: x2 :: x3 :: some v :: l) H) : SetN 4 v (x0 :: x1 :: x2 :: x3 :: y :: l) H Q := h
theorem w_v5 {x0 x1 x2 x3 x4 : Option V} {l : L2.St} (h : Q v H) : GetN 5 (x0 :: x1 :: x2 :: x3 :: x4 :: some v :: l) H Q := ⟨v, rfl, h⟩
theorem w_n5 {x0 x1 x2 x3 x4 : Option V} {y : Option V} {l : L2.St} {Q : L2.St → Hp → Prop} (h : Q (x0 :: x1 :: x2 :: x3 :: x4 :: some v :: l) H) : SetN 5 v (x0 :: x1 :: x2 :: x3 :: x4 :: y :: l) H Q := h
theorem w_v6 {x0 x1 x2 x3 x4 x5 : Option V} {l : L2.St} (h : Q v H) : GetN 6 (x0 :: x1 :: x2 :: x3 :: x4 :: x5 :: some v :: l) H Q := ⟨v, rfl, h⟩
theorem w_n6 {x0 x1 x2 x3 x4 x5 : Option V} {y : Option V} {l : L2.St} {Q : L2.St → Hp → Prop} (h : Q (x0 :: x1 :: x2 :: x3 :: x4 :: x5 :: some v :: l) H) : SetN 6 v (x0 :: x1 :: x2 :: x3 :: x4 :: x5 :: y :: l) H Q := h
theorem w_v7 {x0 x1 x2 x3 x4 x5 x6 : Option V} {l : L2.St} (h : Q v H) : GetN 7 (x0 :: x1 :: x2 :: x3 :: x4 :: x5 :: x6 :: some v :: l) H Q := ⟨v, rfl, h⟩
theorem w_n7 {x0 x1 x2 x3 x4 x5 x6 : Option V} {y : Option V} {l : L2.St} {Q : L2.St → Hp → Prop} (h : Q (x0 :: x1 :: x2 :: x3 :: x4 :: x5 :: x6 :: some v :: l) H) : SetN 7 v (x0 :: x1 :: x2 :: x3 :: x4 :: x5 :: x6 :: y :: l) H Q := h
theorem w_v8 {x0 x1 x2 x3 x4 x5 x6 x7 : Option V} {l : L2.St} (h : Q v H) : GetN 8 (x0 :: x1 :: x2 :: x3 :: x4 :: x5 :: x6 :: x7 :: some v :: l) H Q := ⟨v, rfl, h⟩
theorem w_n8 {x0 x1 x2 x3 x4 x5 x6 x7 : Option V} {y : Option V} {l : L2.St} {Q : L2.St → Hp → Prop} (h : Q (x0 :: x1 :: x2 :: x3 :: x4 :: x5 :: x6 :: x7 :: some v :: l) H) : SetN 8 v (x0 :: x1 :: x2 :: x3 :: x4 :: x5 :: x6 :: x7 :: y :: l) H Q := h
theorem w_v9 {x0 x1 x2 x3 x4 x5 x6 x7 x8 : Option V} {l : L2.St} (h : Q v H) : GetN 9 (x0 :: x1 :: x2 :: x3 :: x4 :: x5 :: x6 :: x7 :: x8 :: some v :: l) H Q := ⟨v, rfl, h⟩
theorem w_n9 {x0 x1 x2 x3 x4 x5 x6 x7 x8 : Option V} {y : Option V} {l : L2.St} {Q : L2.St → Hp → Prop} (h : Q (x0 :: x1 :: x2 :: x3 :: x4 :: x5 :: x6 :: x7 :: x8 :: some v :: l) H) : SetN 9 v (x0 :: x1 :: x2 :: x3 :: x4 :: x5 :: x6 :: x7 :: x8 :: y :: l) H Q := h
theorem w_v10 {x0 x1 x2 x3 x4 x5 x6 x7 x8 x9 : Option V} {l : L2.St} (h : Q v H) : GetN 10 (x0 :: x1 :: x2 :: x3 :: x4 :: x5 :: x6 :: x7 :: x8 :: x9 :: some v :: l) H Q := ⟨v, rfl, h⟩
theorem w_n10 {x0 x1 x2 x3 x4 x5 x6 x7 x8 x9 : Option V} {y : Option V} {l : L2.St} {Q : L2.St → Hp → Prop} (h : Q (x0 :: x1 :: x2 :: x3 :: x4 :: x5 :: x6 :: x7 :: x8 :: x9 :: some v :: l) H) : SetN 10 v (x0 :: x1 :: x2 :: x3 :: x4 :: x5 :: x6 :: x7 :: x8 :: x9 :: y :: l) H Q := h
theorem w_v11 {x0 x1 x2 x3 x4 x5 x6 x7 x8 x9 x10 : Option V} {l : L2.St} (h : Q v H) : GetN 11 (x0 :: x1 :: x2 :: x3 :: x4 :: x5 :: x6 :: x7 :: x8 :: x9 :: x10 :: some v :: l) H Q := ⟨v, rfl, h⟩
theorem w_n11 {x0 x1 x2 x3 x4 x5 x6 x7 x8 x9 x10 : Option V} {y : Option V} {l : L2.St} {Q : L2.St → Hp → Prop} (h : Q (x0 :: x1 :: x2 :: x3 :: x4 :: x5 :: x6 :: x7 :: x8 :: x9 :: x10 :: some v :: l) H) : SetN 11 v (x0 :: x1 :: x2 :: x3 :: x4 :: x5 :: x6 :: x7 :: x8 :: x9 :: x10 :: y :: l) H Q := h
theorem w_v12 {x0 x1 x2 x3 x4 x5 x6 x7 x8 x9 x10 x11 : Option V} {l : L2.St} (h : Q v H) : GetN 12 (x0 :: x1 :: x2 :: x3 :: x4 :: x5 :: x6 :: x7 :: x8 :: x9 :: x10 :: x11 :: some v :: l) H Q := ⟨v, rfl, h⟩
theorem w_n12 {x0 x1 x2 x3 x4 x5 x6 x7 x8 x9 x10 x11 : Option V} {y : Option V} {l : L2.St} {Q : L2.St → Hp → Prop} (h : Q (x0 :: x1 :: x2 :: x3 :: x4 :: x5 :: x6 :: x7 :: x8 :: x9 :: x10 :: x11 :: some v :: l) H) : SetN 12 v (x0 :: x1 :: x2 :: x3 :: x4 :: x5 :: x6 :: x7 :: x8 :: x9 :: x10 :: x11 :: y :: l) H Q := h
theorem w_v13 {x0 x1 x2 x3 x4 x5 x6 x7 x8 x9 x10 x11 x12 : Option V} {l : L2.St} (h : Q v H) : GetN 13 (x0 :: x1 :: x2 :: x3 :: x4 :: x5 :: x6 :: x7 :: x8 :: x9 :: x10 :: x11 :: x12 :: some v :: l) H Q := ⟨v, rfl, h⟩
theorem w_n13 {x0 x1 x2 x3 x4 x5 x6 x7 x8 x9 x10 x11 x12 : Option V} {y : Option V} {l : L2.St} {Q : L2.St → Hp → Prop} (h : Q (x0 :: x1 :: x2 :: x3 :: x4 :: x5 :: x6 :: x7 :: x8 :: x9 :: x10 :: x11 :: x12 :: some v :: l) H) : SetN 13 v (x0 :: x1 :: x2 :: x3 :: x4 :: x5 :: x6 :: x7 :: x8 :: x9 :: x10 :: x11 :: x12 :: y :: l) H Q := h
theorem w_v14 {x0 x1 x2 x3 x4 x5 x6 x7 x8 x9 x10 x11 x12 x13 : Option V} {l : L2.St} (h : Q v H) : GetN 14 (x0 :: x1 :: x2 :: x3 :: x4 :: x5 :: x6 :: x7 :: x8 :: x9 :: x10 :: x11 :: x12 :: x13 :: some v :: l) H Q := ⟨v, rfl, h⟩
theorem w_n14 {x0 x1 x2 x3 x4 x5 x6 x7 x8 x9 x10 x11 x12 x13 : Option V} {y : Option V} {l : L2.St} {Q : L2.St → Hp → Prop} (h : Q (x0 :: x1 :: x2 :: x3 :: x4 :: x5 :: x6 :: x7 :: x8 :: x9 :: x10 :: x11 :: x12 :: x13 :: some v :: l) H) : SetN 14 v (x0 :: x1 :: x2 :: x3 :: x4 :: x5 :: x6 :: x7 :: x8 :: x9 :: x10 :: x11 :: x12 :: x13 :: y :: l) H Q := h
theorem w_v15 {x0 x1 x2 x3 x4 x5 x6 x7 x8 x9 x10 x11 x12 x13 x14 : Option V} {l : L2.St} (h : Q v H) : GetN 15 (x0 :: x1 :: x2 :: x3 :: x4 :: x5 :: x6 :: x7 :: x8 :: x9 :: x10 :: x11 :: x12 :: x13 :: x14 :: some v :: l) H Q := ⟨v, rfl, h⟩
theorem w_n15 {x0 x1 x2 x3 x4 x5 x6 x7 x8 x9 x10 x11 x12 x13 x14 : Option V} {y : Option V} {l : L2.St} {Q : L2.St → Hp → Prop} (h : Q (x0 :: x1 :: x2 :: x3 :: x4 :: x5 :: x6 :: x7 :: x8 :: x9 :: x10 :: x11 :: x12 :: x13 :: x14 :: some v :: l) H) : SetN 15 v (x0 :: x1 :: x2 :: x3 :: x4 :: x5 :: x6 :: x7 :: x8 :: x9 :: x10 :: x11 :: x12 :: x13 :: x14 :: y :: l) H Q := h

/-! rules by values -/
theorem r_addI {i j : Int} (h : Q (.int (i + j)) H) : rAdd K (.int i) (.int j) H Q := .inl ⟨i, j, rfl, rfl, h⟩
theorem r_subI {i j : Int} (h : Q (.int (i - j)) H) : rSubI (.int i) (.int j) H Q := ⟨i, j, rfl, rfl, h⟩
theorem r_mulI {i j : Int} (hc : CMul i j) (h : Q (.int (i * j)) H) : rMul K (.int i) (.int j) H Q := .inl ⟨i, j, rfl, rfl, hc, h⟩
theorem r_divI {i j : Int} (h0 : 0 < j) (h1 : j < 2 ^ 62) (h : Q (.int (i / j)) H) : rDiv (.int i) (.int j) H Q := ⟨i, j, rfl, rfl, ⟨h0, by
  have h2 : j.natAbs < 2 ^ 62 := by omega
  have h3 : j.natAbs.log2 < 62 := (Nat.log2_lt (by omega)).mpr h2
  omega⟩, h⟩
theorem r_modI {i j : Int} (h0 : 0 < j) (h : Q (.int (i % j)) H) : rMod (.int i) (.int j) H Q := ⟨i, j, rfl, rfl, h0, h⟩
theorem r_addL {a b : Addr} {xs ys : List V} (ha : H a = some (.lst xs)) (hb : H b = some (.lst ys)) (hz : xs.length + ys.length ≤ sizeLine) (h : ∀ p H1, H p = none → Ex H H1 → H1 p = some (.lst (xs ++ ys)) → Q (.ref p) H1) : rAdd K (.ref a) (.ref b) H Q :=
  .inr (.inl ⟨a, b, xs, ys, rfl, rfl, ha, hb, hz, fun p hp => h p _ hp (Ex.new hp) upd_same⟩)
theorem r_addT {a b : Addr} {xs ys : List V} (ha : SqT K H a xs) (hb : SqT K H b ys) (hz : xs.length + ys.length ≤ sizeLine) (h : ∀ p H1, Ex H H1 → SqT K H1 p (xs ++ ys) → Q (.ref p) H1) : rAdd K (.ref a) (.ref b) H Q :=
  .inr (.inr (.inl ⟨a, b, xs, ys, rfl, rfl, ha, hb, hz, fun e => h b H (Ex.refl H) (by rw [e]; exact hb), fun _ e => h a H (Ex.refl H) (by rw [e, List.append_nil]; exact ha), fun _ _ p hp => h p _ (Ex.new hp) (st_of upd_same)⟩))
theorem r_neg {i : Int} (h : Q (.int (-i)) H) : (rU fun i => .int (-i)) (.int i) H Q := ⟨i, rfl, h⟩
theorem r_lt {i j : Int} (h : Q (.bl (decide (i < j))) H) : (rI0 fun i j => .bl (decide (i < j))) (.int i) (.int j) H Q := ⟨i, j, rfl, rfl, h⟩
theorem r_le {i j : Int} (h : Q (.bl (decide (i ≤ j))) H) : (rI0 fun i j => .bl (decide (i ≤ j))) (.int i) (.int j) H Q := ⟨i, j, rfl, rfl, h⟩
theorem r_gt {i j : Int} (h : Q (.bl (decide (j < i))) H) : (rI0 fun i j => .bl (decide (j < i))) (.int i) (.int j) H Q := ⟨i, j, rfl, rfl, h⟩
theorem r_ge {i j : Int} (h : Q (.bl (decide (j ≤ i))) H) : (rI0 fun i j => .bl (decide (j ≤ i))) (.int i) (.int j) H Q := ⟨i, j, rfl, rfl, h⟩
end
end M

/-! ### part C: data, equality, built-ins, comprehensions -/
namespace M
open PySem PySem.Spec PyProof.Rows L2 Evl

abbrev dInts (ns : List Int) : PyData := .tuple (ns.map .int)
abbrev dIntL (ns : List Int) : PyData := .list (ns.map .int)
def dOpt : Option Int → PyData
  | none => .none
  | some i => .int i
def optV : Option Int → V
  | none => .non
  | some i => .int i
abbrev vI (ns : List Int) : List V := ns.map V.int
abbrev dRaw (h l : List Int) (r : Int) : PyData := .tuple [dInts h, dInts l, .int r]

section
variable {K : PySem.W.Frag} {H H' : Hp} {v : V} {Q : VK}
mutual
theorem dp_ex (e : Ex H H') : ∀ {d : PyData} {v : V}, Dp K H v d → Dp K H' v d
  | _, _, .non => .non
  | _, _, .bl b => .bl b
  | _, _, .int i => .int i
  | _, _, .str x => .str x
  | _, _, .lst h a => .lst (ex_l e h) (dpAll_ex e a)
  | _, _, .tup h a => .tup (ex_t e h) (dpAll_ex e a)
theorem dpAll_ex (e : Ex H H') : ∀ {ds : List PyData} {vs : List V}, DpAll K H vs ds → DpAll K H' vs ds
  | _, _, .nil => .nil
  | _, _, .cons a r => .cons (dp_ex e a) (dpAll_ex e r)
end
theorem dpAll_ints : ∀ {ns : List Int} {vs : List V}, DpAll K H vs (ns.map .int) → vs = vI ns
  | [], _, .nil => rfl
  | _ :: _, _, .cons (.int _) r => by rw [dpAll_ints r]; rfl
theorem dpAll_of_ints : ∀ {ns : List Int}, DpAll K H (vI ns) (ns.map .int)
  | [] => .nil
  | n :: _ => .cons (.int n) dpAll_of_ints
theorem dp_ints {ns : List Int} (h : Dp K H v (dInts ns)) : ∃ a, v = .ref a ∧ SqT K H a (vI ns) := by
  cases h with
  | tup h a => rw [dpAll_ints a] at h; exact ⟨_, rfl, h⟩
theorem dp_intL {ns : List Int} (h : Dp K H v (dIntL ns)) : ∃ a, v = .ref a ∧ SqL K H a (vI ns) := by
  cases h with
  | lst h a => rw [dpAll_ints a] at h; exact ⟨_, rfl, h⟩
theorem dp_of_ints {a : Addr} {ns : List Int} (h : SqT K H a (vI ns)) : Dp K H (.ref a) (dInts ns) := .tup h dpAll_of_ints
theorem dp_of_intL {a : Addr} {ns : List Int} (h : SqL K H a (vI ns)) : Dp K H (.ref a) (dIntL ns) := .lst h dpAll_of_ints
theorem dp_opt {p : Option Int} (h : Dp K H v (dOpt p)) : v = optV p := by
  cases p with
  | none => cases h; rfl
  | some i => cases h; rfl
theorem dp_of_opt {p : Option Int} : Dp K H (optV p) (dOpt p) := by
  cases p with
  | none => exact .non
  | some i => exact .int i
theorem dp_toInt {i : Int} (h : Dp K H v (.int i)) : v = .int i := by cases h; rfl
theorem dp_toBl {b : Bool} (h : Dp K H v (.bool b)) : v = .bl b := by cases h; rfl
theorem dp_toNon (h : Dp K H v .none) : v = .non := by cases h; rfl
/-- a raw table: a triple of two tuples of ints and an int -/
structure RawAt (K : PySem.W.Frag) (H : Hp) (a : Addr) (h l : List Int) (r : Int) : Prop where
  ex : ∃ th tl, SqT K H a [.ref th, .ref tl, .int r] ∧ SqT K H th (vI h) ∧ SqT K H tl (vI l)
theorem dp_raw {h l : List Int} {r : Int} (d : Dp K H v (dRaw h l r)) : ∃ a th tl, v = .ref a ∧ SqT K H a [.ref th, .ref tl, .int r] ∧ SqT K H th (vI h) ∧ SqT K H tl (vI l) := by
  cases d with
  | tup s q =>
    cases q with
    | cons q1 q => cases q with
      | cons q2 q => cases q with
        | cons q3 q =>
          cases q
          cases q3
          obtain ⟨th, rfl, s1⟩ := dp_ints q1
          obtain ⟨tl, rfl, s2⟩ := dp_ints q2
          exact ⟨_, th, tl, rfl, s, s1, s2⟩
theorem dp_of_raw {a th tl : Addr} {h l : List Int} {r : Int} (s : SqT K H a [.ref th, .ref tl, .int r]) (s1 : SqT K H th (vI h)) (s2 : SqT K H tl (vI l)) : Dp K H (.ref a) (dRaw h l r) :=
  .tup s (.cons (dp_of_ints s1) (.cons (dp_of_ints s2) (.cons (.int r) .nil)))
theorem dp_t2 {d1 d2 : PyData} (d : Dp K H v (.tuple [d1, d2])) : ∃ a x y, v = .ref a ∧ SqT K H a [x, y] ∧ Dp K H x d1 ∧ Dp K H y d2 := by
  cases d with
  | tup s q => cases q with
    | cons q1 q => cases q with
      | cons q2 q => cases q; exact ⟨_, _, _, rfl, s, q1, q2⟩
theorem dp_t3 {d1 d2 d3 : PyData} (d : Dp K H v (.tuple [d1, d2, d3])) : ∃ a x y z, v = .ref a ∧ SqT K H a [x, y, z] ∧ Dp K H x d1 ∧ Dp K H y d2 ∧ Dp K H z d3 := by
  cases d with
  | tup s q => cases q with
    | cons q1 q => cases q with
      | cons q2 q => cases q with
        | cons q3 q => cases q; exact ⟨_, _, _, _, rfl, s, q1, q2, q3⟩
/-- what is wanted of a def that makes the value of d and leaves what stands -/
def RetD (K : PySem.W.Frag) (d : PyData) (H : Hp) (Q : VK) : Prop := ∀ v H', Ex H H' → Dp K H' v d → Q v H'
theorem RetD.int {i : Int} (k : RetD K (.int i) H Q) (e : Ex H H') : Q (.int i) H' := k _ _ e (.int i)
theorem RetD.bl {b : Bool} (k : RetD K (.bool b) H Q) (e : Ex H H') : Q (.bl b) H' := k _ _ e (.bl b)
theorem RetD.opt {p : Option Int} (k : RetD K (dOpt p) H Q) (e : Ex H H') : Q (optV p) H' := k _ _ e dp_of_opt
theorem RetD.non (k : RetD K .none H Q) (e : Ex H H') : Q .non H' := k _ _ e .non
end

/-! the type of data -/
def tyD : PyData → Value
  | .none => .type "NoneType"
  | .bool _ => .type "bool"
  | .int _ => .type "int"
  | .str _ => .type "str"
  | .list _ => .type "list"
  | .tuple _ => .type "tuple"
  | .dict _ => .type "dict"
section
variable {K : PySem.W.Frag} {H H' : Hp} {v : V} {Q : VK} {d : PyData}
theorem SqL.ty {a : Addr} {xs : List V} (h : SqL K H a xs) : TyX K H (.ref a) (.type "list") := by
  rcases h with (h | ⟨o, h⟩) | ⟨o, its, n, h, c, _⟩
  · exact .base (.lst h)
  · exact .base (.frz h)
  · exact .kList h c
theorem SqT.ty {a : Addr} {xs : List V} (h : SqT K H a xs) : TyX K H (.ref a) (.type "tuple") := by
  rcases h with (h | ⟨o, h⟩) | ⟨o, its, n, h, c, _⟩
  · exact .base (.tup h)
  · exact .fTuple h
  · exact .kTuple h c
theorem dp_ty (h : Dp K H v d) : TyX K H v (tyD d) := by
  cases h with
  | non => exact .base .non
  | bl b => exact .base (.bl b)
  | int i => exact .base (.int i)
  | str x => exact .base (.str x)
  | lst h a => exact SqL.ty h
  | tup h a => exact SqT.ty h
theorem r_isi {n : String} {b : Bool} {t : Value} (ty : TyX K H v t) (hb : PySem.W.kitOne K t (.type n) = some b) (h : Q (.bl b) H) : rIsi K [v, .ty n] H Q := ⟨v, .ty n, t, .type n, b, rfl, .ty n, ty, hb, h⟩
theorem r_isiC {C : Addr} {b : Bool} {t : Value} (ty : TyX K H v t) (hb : PySem.W.kitOne K t (.ref C) = some b) (h : Q (.bl b) H) : rIsi K [v, .ref C] H Q := ⟨v, .ref C, t, .ref C, b, rfl, .own C, ty, hb, h⟩
theorem r_isiT {tp : Addr} {n m : String} {b : Bool} {t : Value} (hT : H tp = some (.tup [.ty n, .ty m])) (ty : TyX K H v t) (hb : PySem.W.kitAny K t [.type n, .type m] = some b) (h : Q (.bl b) H) : rIsiT K [v, .ref tp] H Q :=
  ⟨v, tp, [.ty n, .ty m], t, [.type n, .type m], b, rfl, hT, .cons (.ty n) (.cons (.ty m) .nil), ty, hb, h⟩
end

/-! equality -/
theorem eqv_ints : ∀ xs ys : List Int, PyData.eqvAll (xs.map .int) (ys.map .int) = decide (xs = ys)
  | [], [] => rfl
  | [], _ :: _ => rfl
  | _ :: _, [] => rfl
  | x :: xs, y :: ys => by
    show (x == y && PyData.eqvAll (xs.map .int) (ys.map .int)) = _
    rw [eqv_ints xs ys]
    by_cases h : x = y
    · subst h; simp
    · simp [h]
theorem canLay_ints : ∀ xs : List Int, PyData.canLayAll0 (xs.map .int) = true
  | [] => rfl
  | x :: xs => by show (true && PyData.canLayAll0 (xs.map .int)) = true; rw [canLay_ints xs]; rfl
theorem depth_ints : ∀ xs : List Int, PyData.depthAll (xs.map .int) = 0
  | [] => rfl
  | x :: xs => by show max 0 (PyData.depthAll (xs.map .int)) = 0; rw [depth_ints xs]; rfl
theorem shaped_ints (xs : List Int) : SeqAt.shaped (dInts xs) = true := by
  show (PyData.canLayAll0 (xs.map .int) && decide (PyData.depthAll (xs.map .int) + 1 ≤ 64)) = true
  rw [canLay_ints, depth_ints]; rfl
theorem shaped_intL (xs : List Int) : SeqAt.shaped (dIntL xs) = true := by
  show (PyData.canLayAll0 (xs.map .int) && decide (PyData.depthAll (xs.map .int) + 1 ≤ 64)) = true
  rw [canLay_ints, depth_ints]; rfl
theorem shaped_raw (h l : List Int) (r : Int) : SeqAt.shaped (dRaw h l r) = true := by
  show (((PyData.canLayAll0 (h.map .int)) && ((PyData.canLayAll0 (l.map .int)) && (true && true))) && decide (max (PyData.depthAll (h.map .int) + 1) (max (PyData.depthAll (l.map .int) + 1) (max 0 0)) + 1 ≤ 64)) = true
  rw [canLay_ints, canLay_ints, depth_ints, depth_ints]; rfl
theorem eqv_raw (h l h' l' : List Int) (r r' : Int) : PyData.eqv (dRaw h l r) (dRaw h' l' r') = decide (h = h' ∧ l = l' ∧ r = r') := by
  show (PyData.eqvAll (h.map .int) (h'.map .int) && (PyData.eqvAll (l.map .int) (l'.map .int) && (r == r' && true))) = _
  rw [eqv_ints, eqv_ints]
  by_cases h1 : h = h' <;> by_cases h2 : l = l' <;> by_cases h3 : r = r' <;> simp [h1, h2, h3]
section
variable {K : PySem.W.Frag} {H H' : Hp} {x y : V} {Q : VK} {d e : PyData}
theorem r_eqI {i j : Int} (h : Q (.bl (decide (i = j))) H) : rEqU K (.int i) (.int j) H Q := .inl ⟨rfl, by
  have q : decide (V.int i = V.int j) = decide (i = j) := decide_eq_decide.mpr ⟨V.int.inj, congrArg _⟩
  rw [q]; exact h⟩
theorem r_neI {i j : Int} (h : Q (.bl (!decide (i = j))) H) : rNeU K (.int i) (.int j) H Q := .inl ⟨rfl, by
  have q : decide (V.int i = V.int j) = decide (i = j) := decide_eq_decide.mpr ⟨V.int.inj, congrArg _⟩
  rw [q]; exact h⟩
theorem r_eqB {i j : Bool} (h : Q (.bl (decide (i = j))) H) : rEqU K (.bl i) (.bl j) H Q := .inl ⟨rfl, by
  have q : decide (V.bl i = V.bl j) = decide (i = j) := decide_eq_decide.mpr ⟨V.bl.inj, congrArg _⟩
  rw [q]; exact h⟩
theorem optV_inj {p q : Option Int} : optV p = optV q ↔ p = q := by
  cases p <;> cases q <;> simp [optV]
theorem scal_opt (p q : Option Int) : scal (optV p) (optV q) = true := by cases p <;> cases q <;> rfl
theorem r_eqO {p q : Option Int} (h : Q (.bl (decide (p = q))) H) : rEqU K (optV p) (optV q) H Q := .inl ⟨scal_opt p q, by
  have z : decide (optV p = optV q) = decide (p = q) := decide_eq_decide.mpr optV_inj
  rw [z]; exact h⟩
theorem r_neO {p q : Option Int} (h : Q (.bl (!decide (p = q))) H) : rNeU K (optV p) (optV q) H Q := .inl ⟨scal_opt p q, by
  have z : decide (optV p = optV q) = decide (p = q) := decide_eq_decide.mpr optV_inj
  rw [z]; exact h⟩
theorem r_eqD (hd : Dp K H x d) (he : Dp K H y e) (sd : SeqAt.shaped d = true) (se : SeqAt.shaped e = true) (h : Q (.bl (PyData.eqv d e)) H) : rEqU K x y H Q := .inr ⟨d, e, hd, he, sd, se, h⟩
theorem r_neD (hd : Dp K H x d) (he : Dp K H y e) (sd : SeqAt.shaped d = true) (se : SeqAt.shaped e = true) (h : Q (.bl (!PyData.eqv d e)) H) : rNeU K x y H Q := .inr ⟨d, e, hd, he, sd, se, h⟩
theorem r_eqT {a b : Addr} {xs ys : List Int} (ha : SqT K H a (vI xs)) (hb : SqT K H b (vI ys)) (h : Q (.bl (decide (xs = ys))) H) : rEqU K (.ref a) (.ref b) H Q :=
  r_eqD (dp_of_ints ha) (dp_of_ints hb) (shaped_ints _) (shaped_ints _) (by rw [show PyData.eqv (dInts xs) (dInts ys) = decide (xs = ys) from eqv_ints xs ys]; exact h)
theorem r_neT {a b : Addr} {xs ys : List Int} (ha : SqT K H a (vI xs)) (hb : SqT K H b (vI ys)) (h : Q (.bl (!decide (xs = ys))) H) : rNeU K (.ref a) (.ref b) H Q :=
  r_neD (dp_of_ints ha) (dp_of_ints hb) (shaped_ints _) (shaped_ints _) (by rw [show PyData.eqv (dInts xs) (dInts ys) = decide (xs = ys) from eqv_ints xs ys]; exact h)
theorem r_neL {a b : Addr} {xs ys : List Int} (ha : SqL K H a (vI xs)) (hb : SqL K H b (vI ys)) (h : Q (.bl (!decide (xs = ys))) H) : rNeU K (.ref a) (.ref b) H Q :=
  r_neD (dp_of_intL ha) (dp_of_intL hb) (shaped_intL _) (shaped_intL _) (by rw [show PyData.eqv (dIntL xs) (dIntL ys) = decide (xs = ys) from eqv_ints xs ys]; exact h)
/-! is None -/
def rIs : R2 := fun x y H Q => y = .non ∧ Q (.bl (decide (x = .non))) H
def rIsNot : R2 := fun x y H Q => y = .non ∧ Q (.bl (!decide (x = .non))) H
theorem xIs {X : Cx} : OpR X (compareOp .Is) rIs := op_isN
theorem xIsNot {X : Cx} : OpR X (compareOp .IsNot) rIsNot := op_notN
theorem r_isO {p : Option Int} (h : Q (.bl (decide (p = none))) H) : rIs (optV p) .non H Q := ⟨rfl, by
  have z : decide (optV p = V.non) = decide (p = none) := decide_eq_decide.mpr (by cases p <;> simp [optV])
  rw [z]; exact h⟩
theorem r_isNotO {p : Option Int} (h : Q (.bl (!decide (p = none))) H) : rIsNot (optV p) .non H Q := ⟨rfl, by
  have z : decide (optV p = V.non) = decide (p = none) := decide_eq_decide.mpr (by cases p <;> simp [optV])
  rw [z]; exact h⟩
theorem r_isI {i : Int} (h : Q (.bl false) H) : rIs (.int i) .non H Q := ⟨rfl, h⟩
theorem r_isN (h : Q (.bl true) H) : rIs .non .non H Q := ⟨rfl, h⟩
theorem r_isR {a : Addr} (h : Q (.bl false) H) : rIs (.ref a) .non H Q := ⟨rfl, h⟩
theorem r_isNotI {i : Int} (h : Q (.bl true) H) : rIsNot (.int i) .non H Q := ⟨rfl, h⟩
theorem r_isNotN (h : Q (.bl false) H) : rIsNot .non .non H Q := ⟨rfl, h⟩
theorem r_isNotR {a : Addr} (h : Q (.bl true) H) : rIsNot (.ref a) .non H Q := ⟨rfl, h⟩
end

/-! built-ins by names of our own -/
section
variable {X : Cx} {K : PySem.W.Frag} {H : Hp} {Q : VK}
def rLenU (K : PySem.W.Frag) : List V → Hp → VK → Prop := fun xs H Q => ∃ x n, xs = [x] ∧ LenV K x H n ∧ Q (.int n) H
theorem xLen : CallR X (.builtin "len") (rLenU X.K) := call_len
theorem r_lenT {a : Addr} {xs : List V} (h : SqT K H a xs) (q : Q (.int (xs.length : Int)) H) : rLenU K [.ref a] H Q := ⟨_, xs.length, rfl, .inr ⟨xs, h, rfl⟩, q⟩
theorem r_lenL {a : Addr} {xs : List V} (h : SqL K H a xs) (q : Q (.int (xs.length : Int)) H) : rLenU K [.ref a] H Q := ⟨_, xs.length, rfl, .inl ⟨xs, h, rfl⟩, q⟩
theorem r_lenTI {a : Addr} {xs : List Int} (h : SqT K H a (vI xs)) (q : Q (.int (xs.length : Int)) H) : rLenU K [.ref a] H Q := r_lenT h (by rw [List.length_map]; exact q)
theorem r_lenLI {a : Addr} {xs : List Int} (h : SqL K H a (vI xs)) (q : Q (.int (xs.length : Int)) H) : rLenU K [.ref a] H Q := r_lenL h (by rw [List.length_map]; exact q)
def rAbsU : List V → Hp → VK → Prop := fun xs H Q => ∃ i, xs = [.int i] ∧ Q (.int (if i < 0 then -i else i)) H
theorem xAbs : CallR X (.builtin "abs") rAbsU := call_abs
theorem r_abs {i : Int} (q : Q (.int (i.natAbs : Int)) H) : rAbsU [.int i] H Q := ⟨i, rfl, by
  have e : (if i < 0 then -i else i) = (i.natAbs : Int) := by split <;> omega
  rw [e]; exact q⟩
def rMax2U : List V → Hp → VK → Prop := fun xs H Q => ∃ i j, xs = [.int i, .int j] ∧ Q (.int (if j > i then j else i)) H
theorem xMax2 (hc : X.calm = true) : CallR X (.builtin "max") rMax2U := call_max2 hc
theorem r_max2 {i j : Int} (q : Q (.int (max i j)) H) : rMax2U [.int i, .int j] H Q := ⟨i, j, rfl, by
  have e : (if j > i then j else i) = max i j := by split <;> omega
  rw [e]; exact q⟩
def rMin2U : List V → Hp → VK → Prop := fun xs H Q => ∃ i j, xs = [.int i, .int j] ∧ Q (.int (if j < i then j else i)) H
theorem xMin2 (hc : X.calm = true) : CallR X (.builtin "min") rMin2U := call_min2 hc
theorem r_min2 {i j : Int} (q : Q (.int (min i j)) H) : rMin2U [.int i, .int j] H Q := ⟨i, j, rfl, by
  have e : (if j < i then j else i) = min i j := by split <;> omega
  rw [e]; exact q⟩
def rIntU : List V → Hp → VK → Prop := fun xs H Q => (∃ i, xs = [.int i] ∧ Q (.int i) H) ∨ ∃ k, xs = [.bl k] ∧ Q (.int (if k then 1 else 0)) H
theorem xInt : CallR X (.type "int") rIntU := call_int1
theorem r_int {i : Int} (q : Q (.int i) H) : rIntU [.int i] H Q := .inl ⟨i, rfl, q⟩
def rBoolU : List V → Hp → VK → Prop := fun xs H Q => (∃ i, xs = [.int i] ∧ Q (.bl (i != 0)) H) ∨ ∃ k, xs = [.bl k] ∧ Q (.bl k) H
theorem xBool : CallR X (.type "bool") rBoolU := call_bool1
theorem r_boolB {b : Bool} (q : Q (.bl b) H) : rBoolU [.bl b] H Q := .inr ⟨b, rfl, q⟩
def rLstU (K : PySem.W.Frag) : List V → Hp → VK → Prop := fun xs H Q => ∃ p ys, xs = [.ref p] ∧ (SqL K H p ys ∨ SqT K H p ys) ∧ ∀ l, H l = none → Q (.ref l) (upd H l (.lst ys))
theorem xLst : CallR X (.type "list") (rLstU X.K) := call_list_of
theorem r_lstL {a : Addr} {xs : List V} (h : SqL K H a xs) (q : ∀ p H1, H p = none → Ex H H1 → H1 p = some (.lst xs) → Q (.ref p) H1) : rLstU K [.ref a] H Q := ⟨a, xs, rfl, .inl h, fun p hp => q p _ hp (Ex.new hp) upd_same⟩
theorem r_lstT {a : Addr} {xs : List V} (h : SqT K H a xs) (q : ∀ p H1, H p = none → Ex H H1 → H1 p = some (.lst xs) → Q (.ref p) H1) : rLstU K [.ref a] H Q := ⟨a, xs, rfl, .inr h, fun p hp => q p _ hp (Ex.new hp) upd_same⟩
def rTupU (K : PySem.W.Frag) : List V → Hp → VK → Prop := fun xs H Q => ∃ p ys, xs = [.ref p] ∧ ((SqL K H p ys ∧ ∀ l, H l = none → Q (.ref l) (upd H l (.tup ys))) ∨ (SqT K H p ys ∧ Q (.ref p) H))
theorem xTup : CallR X (.type "tuple") (rTupU X.K) := call_tuple_of
theorem r_tupL {a : Addr} {xs : List V} (h : SqL K H a xs) (q : ∀ p H1, Ex H H1 → SqT K H1 p xs → Q (.ref p) H1) : rTupU K [.ref a] H Q := ⟨a, xs, rfl, .inl ⟨h, fun p hp => q p _ (Ex.new hp) (st_of upd_same)⟩⟩
theorem r_tupT {a : Addr} {xs : List V} (h : SqT K H a xs) (q : ∀ p H1, Ex H H1 → SqT K H1 p xs → Q (.ref p) H1) : rTupU K [.ref a] H Q := ⟨a, xs, rfl, .inr ⟨h, q a H (Ex.refl H) h⟩⟩
theorem r_all {a : Addr} {bs : List Bool} {xs : List V} (h : SqL K H a xs) (e : xs = bs.map V.bl) (q : Q (.bl (bs.all id)) H) : rAll K [.ref a] H Q := ⟨a, bs, rfl, by rw [← e]; exact h, q⟩
theorem r_any {a : Addr} {bs : List Bool} {xs : List V} (h : SqL K H a xs) (e : xs = bs.map V.bl) (q : Q (.bl (bs.any id)) H) : rAny K [.ref a] H Q := ⟨a, bs, rfl, by rw [← e]; exact h, q⟩
/-! indices -/
theorem atI_pos {α : Type} {xs : List α} {i : Int} {v : α} (h0 : 0 ≤ i) (h : xs[i.toNat]? = some v) : atI xs i = some v := by
  have hl : i.toNat < xs.length := (List.getElem?_eq_some_iff.mp h).1
  unfold atI ixN
  rw [if_pos h0, if_pos (by omega)]
  exact h
theorem atI_neg {α : Type} {xs : List α} {i : Int} {v : α} (h0 : i < 0) (h1 : -(xs.length : Int) ≤ i) (h : xs[(i + xs.length).toNat]? = some v) : atI xs i = some v := by
  unfold atI ixN
  rw [if_neg (by omega), if_pos h1]
  exact h
/-- the int at a place of a list of ints -/
def gI (xs : List Int) (i : Int) : Int := xs.getD i.toNat 0
theorem atI_ints {xs : List Int} {i : Int} (h0 : 0 ≤ i) (h1 : i < xs.length) : atI (vI xs) i = some (V.int (gI xs i)) := by
  refine atI_pos h0 ?_
  have hl : i.toNat < xs.length := by omega
  rw [List.getElem?_map, List.getElem?_eq_getElem hl]
  show some (V.int xs[i.toNat]) = some (V.int (xs.getD i.toNat 0))
  rw [List.getD_eq_getElem?_getD, List.getElem?_eq_getElem hl]; rfl
theorem atI_intsN {xs : List Int} {i : Int} (h0 : i < 0) (h1 : -(xs.length : Int) ≤ i) : atI (vI xs) i = some (V.int (gI xs (i + xs.length))) := by
  have hl : (i + xs.length).toNat < xs.length := by omega
  refine atI_neg h0 (by rw [List.length_map]; exact h1) ?_
  rw [List.length_map, List.getElem?_map, List.getElem?_eq_getElem hl]
  show some (V.int xs[(i + xs.length).toNat]) = some (V.int (xs.getD (i + xs.length).toNat 0))
  rw [List.getD_eq_getElem?_getD, List.getElem?_eq_getElem hl]; rfl
theorem r_ixT {a : Addr} {xs : List V} {i : Int} {v : V} (h : SqT K H a xs) (ha : atI xs i = some v) (q : Q v H) : rIx K (.ref a) (.int i) H Q := .inr (.inl ⟨a, xs, i, v, rfl, rfl, h, ha, q⟩)
theorem r_ixL {a : Addr} {xs : List V} {i : Int} {v : V} (h : SqL K H a xs) (ha : atI xs i = some v) (q : Q v H) : rIx K (.ref a) (.int i) H Q := .inl ⟨a, xs, i, v, rfl, rfl, h, ha, q⟩
theorem r_ixTI {a : Addr} {xs : List Int} {i : Int} (h : SqT K H a (vI xs)) (h0 : 0 ≤ i) (h1 : i < xs.length) (q : Q (.int (gI xs i)) H) : rIx K (.ref a) (.int i) H Q := r_ixT h (atI_ints h0 h1) q
theorem r_ixTN {a : Addr} {xs : List Int} {i : Int} (h : SqT K H a (vI xs)) (h0 : i < 0) (h1 : -(xs.length : Int) ≤ i) (q : Q (.int (gI xs (i + xs.length))) H) : rIx K (.ref a) (.int i) H Q := r_ixT h (atI_intsN h0 h1) q
theorem r_ixLI {a : Addr} {xs : List Int} {i : Int} (h : SqL K H a (vI xs)) (h0 : 0 ≤ i) (h1 : i < xs.length) (q : Q (.int (gI xs i)) H) : rIx K (.ref a) (.int i) H Q := r_ixL h (atI_ints h0 h1) q
theorem r_ixLN {a : Addr} {xs : List Int} {i : Int} (h : SqL K H a (vI xs)) (h0 : i < 0) (h1 : -(xs.length : Int) ≤ i) (q : Q (.int (gI xs (i + xs.length))) H) : rIx K (.ref a) (.int i) H Q := r_ixL h (atI_intsN h0 h1) q
/-! slices -/
def rSlI (xs : List Int) (lo hi : Option Int) : List Int := (xs.drop (HT.sIx xs.length 0 lo)).take (HT.sIx xs.length xs.length hi - HT.sIx xs.length 0 lo)
theorem cut_ints (xs : List Int) (lo hi : Option Int) : cutV (vI xs) lo hi = vI (rSlI xs lo hi) := by
  unfold cutV rSlI
  rw [List.length_map, ← List.map_drop, ← List.map_take]
theorem r_slL {a : Addr} {xs : List V} {lo hi : Option Int} (h : SqL K H a xs) (q : ∀ p H1, H p = none → Ex H H1 → H1 p = some (.lst (cutV xs lo hi)) → Q (.ref p) H1) : rSl K (.ref a) lo hi H Q :=
  .inl ⟨a, xs, rfl, h, fun p hp => q p _ hp (Ex.new hp) upd_same⟩
theorem cut_whole {xs : List V} {lo hi : Option Int} (h1 : HT.sIx xs.length 0 lo = 0) (h2 : HT.sIx xs.length xs.length hi = xs.length) : cutV xs lo hi = xs := by
  unfold cutV
  rw [h1, h2, List.drop_zero, Nat.sub_zero, List.take_length]
theorem r_slT {a : Addr} {xs : List V} {lo hi : Option Int} (h : SqT K H a xs) (q : ∀ p H1, Ex H H1 → SqT K H1 p (cutV xs lo hi) → Q (.ref p) H1) : rSl K (.ref a) lo hi H Q :=
  .inr (.inl ⟨a, xs, rfl, h, fun e => q a H (Ex.refl H) (by rw [cut_whole e.1 e.2]; exact h), fun _ p hp => q p _ (Ex.new hp) (st_of upd_same)⟩)
theorem cutV_to {α : Type} {xs : List α} {i : Int} (h : 0 ≤ i) (f : α → V) : cutV (xs.map f) none (some i) = (xs.take i.toNat).map f := by
  have e : cutV (xs.map f) none (some i) = ((xs.map f).drop 0).take (HT.sIx (xs.map f).length (xs.map f).length (some i) - 0) := rfl
  have e2 : HT.sIx (xs.map f).length (xs.map f).length (some i) = min i.toNat (xs.map f).length := if_neg (by omega)
  rw [e, e2, List.drop_zero, Nat.sub_zero, List.map_take]
  rcases Nat.le_total i.toNat (xs.map f).length with h1 | h1
  · rw [Nat.min_eq_left h1]
  · rw [Nat.min_eq_right h1, List.take_length, List.take_of_length_le h1]
theorem cutV_from {α : Type} {xs : List α} {i : Int} (h : 0 ≤ i) (f : α → V) : cutV (xs.map f) (some i) none = (xs.drop i.toNat).map f := by
  have e : cutV (xs.map f) (some i) none = ((xs.map f).drop (HT.sIx (xs.map f).length 0 (some i))).take ((xs.map f).length - HT.sIx (xs.map f).length 0 (some i)) := rfl
  have e2 : HT.sIx (xs.map f).length 0 (some i) = min i.toNat (xs.map f).length := if_neg (by omega)
  rw [e, e2, List.map_drop]
  rcases Nat.le_total i.toNat (xs.map f).length with h1 | h1
  · rw [Nat.min_eq_left h1, List.take_of_length_le (by rw [List.length_drop]; omega)]
  · rw [Nat.min_eq_right h1, List.drop_eq_nil_of_le h1, List.drop_eq_nil_of_le (Nat.le_refl _), List.take_nil]
theorem cutV_mid {α : Type} {xs : List α} {i j : Int} (h : 0 ≤ i) (hij : i ≤ j) (hj : j ≤ xs.length) (f : α → V) : cutV (xs.map f) (some i) (some j) = ((xs.drop i.toNat).take (j - i).toNat).map f := by
  have e : cutV (xs.map f) (some i) (some j) = ((xs.map f).drop (HT.sIx (xs.map f).length 0 (some i))).take (HT.sIx (xs.map f).length (xs.map f).length (some j) - HT.sIx (xs.map f).length 0 (some i)) := rfl
  have e2 : HT.sIx (xs.map f).length 0 (some i) = min i.toNat (xs.map f).length := if_neg (by omega)
  have e3 : HT.sIx (xs.map f).length (xs.map f).length (some j) = min j.toNat (xs.map f).length := if_neg (by omega)
  rw [e, e2, e3, List.length_map, Nat.min_eq_left (by omega), Nat.min_eq_left (by omega), List.map_take, List.map_drop, show (j - i).toNat = j.toNat - i.toNat by omega]

theorem r_slTto {a : Addr} {xs : List Int} {i : Int} (h : SqT K H a (vI xs)) (h0 : 0 ≤ i) (q : ∀ p H1, Ex H H1 → SqT K H1 p (vI (xs.take i.toNat)) → Q (.ref p) H1) : rSl K (.ref a) none (some i) H Q := r_slT h (by rw [cutV_to h0]; exact q)
theorem r_slTfrom {a : Addr} {xs : List Int} {i : Int} (h : SqT K H a (vI xs)) (h0 : 0 ≤ i) (q : ∀ p H1, Ex H H1 → SqT K H1 p (vI (xs.drop i.toNat)) → Q (.ref p) H1) : rSl K (.ref a) (some i) none H Q := r_slT h (by rw [cutV_from h0]; exact q)
theorem r_slLto {a : Addr} {xs : List Int} {i : Int} (h : SqL K H a (vI xs)) (h0 : 0 ≤ i) (q : ∀ p H1, H p = none → Ex H H1 → H1 p = some (.lst (vI (xs.take i.toNat))) → Q (.ref p) H1) : rSl K (.ref a) none (some i) H Q := r_slL h (by rw [cutV_to h0]; exact q)
theorem r_slLfrom {a : Addr} {xs : List Int} {i : Int} (h : SqL K H a (vI xs)) (h0 : 0 ≤ i) (q : ∀ p H1, H p = none → Ex H H1 → H1 p = some (.lst (vI (xs.drop i.toNat))) → Q (.ref p) H1) : rSl K (.ref a) (some i) none H Q := r_slL h (by rw [cutV_from h0]; exact q)
theorem r_slLmid {a : Addr} {xs : List Int} {i j : Int} (h : SqL K H a (vI xs)) (h0 : 0 ≤ i) (hij : i ≤ j) (hj : j ≤ xs.length) (q : ∀ p H1, H p = none → Ex H H1 → H1 p = some (.lst (vI ((xs.drop i.toNat).take (j - i).toNat))) → Q (.ref p) H1) : rSl K (.ref a) (some i) (some j) H Q := r_slL h (by rw [cutV_mid h0 hij hj]; exact q)
/-! comprehensions whose parts leave what stands -/
theorem w_lc {wi : TI} {g : TG} {tt : TT} {te : TE} {vs : List Nat} {σ : L2.St} (h : wi σ H fun J H1 => ∀ D, H1 D = none → ∃ W : Nat → Nat → Hp → Prop, (∃ m, W 0 m (upd H1 D (.lst []))) ∧ ∀ i m H, W i m H →
  (J.stop i H ∧ Q (.ref D) H) ∨ (J.go i H ∧ ∃ Nx : Hp → Prop, (∀ H', Nx H' → ∃ m', m' < m ∧ W (i + 1) m' H') ∧ ∀ x H', J.yld i H x H' → g x (wipe σ vs) H' fun σ2 H2 => wipe σ2 vs = wipe σ vs ∧ tt σ2 H2 fun b H3 =>
    if b = true then te σ2 H3 fun y H4 => ∃ acc, H4 D = some (.lst acc) ∧ acc.length < sizeLine ∧ Nx (upd H4 D (.lst (acc ++ [y]))) else Nx H3)) : tLc wi g tt te vs σ H Q := h
/-- what a comprehension over J asks, J named -/
def LcJ (J : It) (g : TG) (tt : TT) (te : TE) (vs : List Nat) (σ : L2.St) (H1 : Hp) (Q : VK) : Prop := ∀ D, H1 D = none → ∃ W : Nat → Nat → Hp → Prop, (∃ m, W 0 m (upd H1 D (.lst []))) ∧ ∀ i m H, W i m H →
  (J.stop i H ∧ Q (.ref D) H) ∨ (J.go i H ∧ ∃ Nx : Hp → Prop, (∀ H', Nx H' → ∃ m', m' < m ∧ W (i + 1) m' H') ∧ ∀ x H', J.yld i H x H' → g x (wipe σ vs) H' fun σ2 H2 => wipe σ2 vs = wipe σ vs ∧ tt σ2 H2 fun b H3 =>
    if b = true then te σ2 H3 fun y H4 => ∃ acc, H4 D = some (.lst acc) ∧ acc.length < sizeLine ∧ Nx (upd H4 D (.lst (acc ++ [y]))) else Nx H3)
theorem w_lcJ {wi : TI} {g : TG} {tt : TT} {te : TE} {vs : List Nat} {σ : L2.St} (h : wi σ H fun J H1 => LcJ J g tt te vs σ H1 Q) : tLc wi g tt te vs σ H Q := h
/-- over a range, every item kept, item i giving v i -/
theorem lcJ_range {lo : Int} {n j : Nat} {te : TE} {vs : List Nat} {σ : L2.St} (v : Nat → V) (hn : n ≤ 100000) (σ' : V → L2.St) (hσ : ∀ x, (wipe σ vs).set j (some x) = σ' x) (hw : ∀ x, wipe ((wipe σ vs).set j (some x)) vs = wipe σ vs)
    (he : ∀ (i : Nat) (H1 : Hp) (Q' : VK), Ex H H1 → i < n → (∀ H2, Ex H1 H2 → Q' (v i) H2) → te (σ' (.int (lo + (i : Int)))) H1 Q')
    (hq : ∀ p H2, H p = none → Ex H H2 → H2 p = some (.lst ((List.range n).map v)) → Q (.ref p) H2) : LcJ (Itr lo n) (gName j) tYes te vs σ H Q := fun D hD =>
  lc_range (Pv := fun i H' => Ex H H' ∧ H' D = some (.lst ((List.range i).map v))) ⟨Ex.new hD, upd_same⟩ (fun i H' hi p => ⟨hw _, by
    show te ((wipe σ vs).set j _) H' _
    rw [hσ]
    refine he i H' _ p.1 hi fun H2 e2 => ⟨(List.range i).map v, e2 D _ p.2, sz_lt (by simp only [List.length_map, List.length_range]; omega), Ex.mut (p.1.trans e2) hD, ?_⟩
    rw [List.range_succ, List.map_append]
    exact upd_same⟩) fun H' p => hq D H' hD p.1 p.2
theorem lcJ_r0 {n j : Nat} {te : TE} {vs : List Nat} {σ : L2.St} (v : Nat → V) (hn : n ≤ 100000) (σ' : V → L2.St) (hσ : ∀ x, (wipe σ vs).set j (some x) = σ' x) (hw : ∀ x, wipe ((wipe σ vs).set j (some x)) vs = wipe σ vs)
    (he : ∀ (i : Nat) (H1 : Hp) (Q' : VK), Ex H H1 → i < n → (∀ H2, Ex H1 H2 → Q' (v i) H2) → te (σ' (.int (i : Int))) H1 Q')
    (hq : ∀ p H2, H p = none → Ex H H2 → H2 p = some (.lst ((List.range n).map v)) → Q (.ref p) H2) : LcJ (Itr 0 n) (gName j) tYes te vs σ H Q :=
  lcJ_range v hn σ' hσ hw (fun i H1 Q' e hi k => by rw [Int.zero_add]; exact he i H1 Q' e hi k) hq
/-- over a list or a tuple -/
theorem lcJ_list {a : Addr} {xs : List V} {j : Nat} {te : TE} {vs : List Nat} {σ : L2.St} (v : V → V) (hx : SqL K H a xs) (hn : xs.length ≤ 100000) (σ' : V → L2.St) (hσ : ∀ x, (wipe σ vs).set j (some x) = σ' x) (hw : ∀ x, wipe ((wipe σ vs).set j (some x)) vs = wipe σ vs)
    (he : ∀ (x : V) (H1 : Hp) (Q' : VK), Ex H H1 → x ∈ xs → (∀ H2, Ex H1 H2 → Q' (v x) H2) → te (σ' x) H1 Q')
    (hq : ∀ p H2, H p = none → Ex H H2 → H2 p = some (.lst (xs.map v)) → Q (.ref p) H2) : LcJ (Itl K a) (gName j) tYes te vs σ H Q := fun D hD =>
  lc_list (xs := xs) (Pv := fun i H' => Ex H H' ∧ H' D = some (.lst ((xs.take i).map v))) ⟨Ex.new hD, upd_same⟩ (fun i H' _ p => ex_l p.1 hx) (fun i x H' hi p => ⟨hw _, by
    show te ((wipe σ vs).set j _) H' _
    rw [hσ]
    refine he x H' _ p.1 (List.mem_of_getElem? hi) fun H2 e2 => ⟨(xs.take i).map v, e2 D _ p.2, sz_lt (by rw [List.length_map, List.length_take]; have := (List.getElem?_eq_some_iff.mp hi).1; omega), Ex.mut (p.1.trans e2) hD, ?_⟩
    rw [List.take_add_one, hi, List.map_append]
    exact upd_same⟩) fun H' p => hq D H' hD p.1 (by rw [List.take_length] at p; exact p.2)
theorem lcJ_tup {a : Addr} {xs : List V} {j : Nat} {te : TE} {vs : List Nat} {σ : L2.St} (v : V → V) (hx : SqT K H a xs) (hn : xs.length ≤ 100000) (σ' : V → L2.St) (hσ : ∀ x, (wipe σ vs).set j (some x) = σ' x) (hw : ∀ x, wipe ((wipe σ vs).set j (some x)) vs = wipe σ vs)
    (he : ∀ (x : V) (H1 : Hp) (Q' : VK), Ex H H1 → x ∈ xs → (∀ H2, Ex H1 H2 → Q' (v x) H2) → te (σ' x) H1 Q')
    (hq : ∀ p H2, H p = none → Ex H H2 → H2 p = some (.lst (xs.map v)) → Q (.ref p) H2) : LcJ (Itt K a) (gName j) tYes te vs σ H Q := fun D hD =>
  lc_tup (xs := xs) (Pv := fun i H' => Ex H H' ∧ H' D = some (.lst ((xs.take i).map v))) ⟨Ex.new hD, upd_same⟩ (fun i H' _ p => ex_t p.1 hx) (fun i x H' hi p => ⟨hw _, by
    show te ((wipe σ vs).set j _) H' _
    rw [hσ]
    refine he x H' _ p.1 (List.mem_of_getElem? hi) fun H2 e2 => ⟨(xs.take i).map v, e2 D _ p.2, sz_lt (by rw [List.length_map, List.length_take]; have := (List.getElem?_eq_some_iff.mp hi).1; omega), Ex.mut (p.1.trans e2) hD, ?_⟩
    rw [List.take_add_one, hi, List.map_append]
    exact upd_same⟩) fun H' p => hq D H' hD p.1 (by rw [List.take_length] at p; exact p.2)
/-! what is walked -/
def SeqLi (K : PySem.W.Frag) (R : It → Hp → Prop) (x : V) (H1 : Hp) : Prop := ∃ a, x = .ref a ∧ (∃ xs, SqL K H1 a xs) ∧ R (Itl K a) H1
def SeqTi (K : PySem.W.Frag) (R : It → Hp → Prop) (x : V) (H1 : Hp) : Prop := ∃ a, x = .ref a ∧ (∃ xs, SqT K H1 a xs) ∧ R (Itt K a) H1
theorem i_seqL {tl : TE} {σ : L2.St} {R : It → Hp → Prop} (h : tl σ H fun x H1 => SeqLi K R x H1) : iSeq K tl σ H R := .inl h
theorem i_seqT {tl : TE} {σ : L2.St} {R : It → Hp → Prop} (h : tl σ H fun x H1 => SeqTi K R x H1) : iSeq K tl σ H R := .inr h
theorem i_xL {a : Addr} {xs : List V} {R : It → Hp → Prop} (hx : SqL K H a xs) (h : R (Itl K a) H) : SeqLi K R (.ref a) H := ⟨a, rfl, ⟨xs, hx⟩, h⟩
theorem i_xT {a : Addr} {xs : List V} {R : It → Hp → Prop} (hx : SqT K H a xs) (h : R (Itt K a) H) : SeqTi K R (.ref a) H := ⟨a, rfl, ⟨xs, hx⟩, h⟩
def Rng1 (R : It → Hp → Prop) (vs : List V) (H1 : Hp) : Prop := ∃ j : Int, vs = [.int j] ∧ -(2 ^ 62) ≤ j ∧ j < 2 ^ 62 ∧ R (Itr 0 j.toNat) H1
def Rng2 (R : It → Hp → Prop) (vs : List V) (H1 : Hp) : Prop := ∃ i j : Int, vs = [.int i, .int j] ∧ (-(2 ^ 62) ≤ i ∧ i < 2 ^ 62 ∧ -(2 ^ 62) ≤ j ∧ j < 2 ^ 62) ∧ R (Itr i (j - i).toNat) H1
theorem i_r1 {ta : TA} {σ : L2.St} {R : It → Hp → Prop} (h : ta σ H fun vs H1 => Rng1 R vs H1) : iRng1 ta σ H R := h
theorem i_r2 {ta : TA} {σ : L2.St} {R : It → Hp → Prop} (h : ta σ H fun vs H1 => Rng2 R vs H1) : iRng2 ta σ H R := h
theorem i_x1 {j : Int} {R : It → Hp → Prop} (hj : -1000000000 ≤ j ∧ j ≤ 1000000000) (h : R (Itr 0 j.toNat) H) : Rng1 R [V.int j] H := ⟨j, rfl, by omega, by omega, h⟩
theorem i_x2 {i j : Int} {R : It → Hp → Prop} (hij : -1000000000 ≤ i ∧ i ≤ 1000000000 ∧ -1000000000 ≤ j ∧ j ≤ 1000000000) (h : R (Itr i (j - i).toNat) H) : Rng2 R [V.int i, V.int j] H := ⟨i, j, rfl, by omega, h⟩
/-! loops, J named -/
def ForJ (J : It) (g : TG) (tb : TS) (D : Ends) (σ : L2.St) (H1 : Hp) : Prop := ∃ W : Nat → Nat → L2.St → Hp → Prop, (∃ m, W 0 m σ H1) ∧ ∀ i m σ H, W i m σ H →
  (J.stop i H ∧ D.nx σ H) ∨ (J.go i H ∧ ∃ N : L2.St → Hp → Prop, (∀ σ' H', N σ' H' → ∃ m', m' < m ∧ W (i + 1) m' σ' H') ∧ ∀ x H', J.yld i H x H' → g x σ H' fun σ2 H2 => tb { D with nx := N, ct := N, bk := D.nx } σ2 H2)
theorem w_forJ {wi : TI} {g : TG} {tb : TS} {D : Ends} {σ : L2.St} (h : wi σ H fun J H1 => ForJ J g tb D σ H1) : tFor wi g tb D σ H := h
end
end M

/-! ### part D: the rules with the written part said -/
namespace M
open PySem PySem.Spec PyProof.Rows L2 Evl
section
variable {X : Cx} (K : PySem.W.Frag)
theorem kIx (h : X.K = K := by rfl) : IxR X (rIx K) := by subst h; exact ix_seq
theorem kAdd (h : X.K = K := by rfl) : OpR X (binaryOp .Add) (rAdd K) := by subst h; exact xAdd
theorem kMul (h : X.K = K := by rfl) : OpR X (binaryOp .Mult) (rMul K) := by subst h; exact xMul
theorem kEq {j : Nat} (hr : Room j X.A) (h : X.K = K := by rfl) : OpR X (compareOp .Eq) (rEqU K) := by subst h; exact xEq hr
theorem kNe {j : Nat} (hr : Room j X.A) (h : X.K = K := by rfl) : OpR X (compareOp .NotEq) (rNeU K) := by subst h; exact xNe hr
theorem kSl (h : X.K = K := by rfl) : SlR X (rSl K) := by subst h; exact xSl
theorem kLen (h : X.K = K := by rfl) : CallR X (.builtin "len") (rLenU K) := by subst h; exact xLen
theorem kLst (h : X.K = K := by rfl) : CallR X (.type "list") (rLstU K) := by subst h; exact xLst
theorem kTup (h : X.K = K := by rfl) : CallR X (.type "tuple") (rTupU K) := by subst h; exact xTup
theorem kAll (hc : X.calm = true) (h : X.K = K := by rfl) : CallR X (.builtin "all") (rAll K) := by subst h; exact cr_all hc
theorem kAny (hc : X.calm = true) (h : X.K = K := by rfl) : CallR X (.builtin "any") (rAny K) := by subst h; exact cr_any hc
theorem kSum (hc : X.calm = true) (h : X.K = K := by rfl) : CallR X (.builtin "sum") (rSum K) := by subst h; exact cr_sum hc
theorem kIsi (h : X.K = K := by rfl) : CallR X (.builtin "isinstance") (rIsi K) := by subst h; exact call_isi
theorem kIsiT (h : X.K = K := by rfl) : CallR X (.builtin "isinstance") (rIsiT K) := by subst h; exact call_isiT
theorem kSeq {tg l : Expr} {tl : TE} (hl : PE X l tl) (h : X.K = K := by rfl) : PI X tg l (iSeq K tl) := by subst h; exact pi_seq hl
theorem kFld {o : Expr} {f : Str} {pos : Pos} {ta : TE} (ha : PE X o ta) (hb : attributeBase o f X.env (eval o X.env) = eval o X.env) (h : X.K = K := by rfl) : PE X (.Attribute o f pos) (tFld K ta f) := by subst h; exact pe_fld ha hb
theorem kGtup {es : List Expr} {k : Nat} {t : TGs} {n : Nat} {pos : Pos} (hc : X.calm = true) (h : PGs X es t)
    (hn : (assignEach es X.env).length = n := by rfl) (hst : (assignEach es X.env).findIdx? (·.1) = none := by rfl) (hK : X.K = K := by rfl) : PG X (.Tuple es k pos) (gTup K n t) := by subst hK; exact pg_tup hc h hn hst
theorem kBM {e0 : Expr} {to : TE} {t : TA} {T : String} {r : V → List V → Hp → VK → Prop} (h0 : PE X e0 (tBM X.K T r to t)) (h : X.K = K := by rfl) : PE X e0 (tBM K T r to t) := by subst h; exact h0
theorem kFldS {st : Stmt} {ta tv : TE} {f : Str} (h0 : PS X st (sFld X.K ta tv f)) (h : X.K = K := by rfl) : PS X st (sFld K ta tv f) := by subst h; exact h0
/-! truth of any value, named -/
end
def TruX (K : PySem.W.Frag) (x : V) (H : Hp) (Q : Bool → Hp → Prop) : Prop := ∃ k, TruV K x H k ∧ Q k H
def tTru (K : PySem.W.Frag) (te : TE) : TT := fun σ H Q => te σ H fun x H' => TruX K x H' Q
section
variable {X : Cx} (K : PySem.W.Frag)
theorem kTru {a : Expr} {ta : TE} (ha : PE X a ta) (he : ∀ whole, isTrue a X.env whole = (do let v ← whole; standAt a.pos; holding [v] (truthy v))) (h : X.K = K := by rfl) : PT X a (tTru K ta) := by subst h; exact pt_truth ha he
end
section
variable {K : PySem.W.Frag} {σ : L2.St} {H : Hp} {te : TE} {Q : Bool → Hp → Prop}
theorem w_tru (h : te σ H fun x H' => TruX K x H' Q) : tTru K te σ H Q := h
theorem r_truB {b : Bool} (h : Q b H) : TruX K (.bl b) H Q := ⟨b, rfl, h⟩
theorem r_truI {i : Int} (h : Q (!decide (i = 0)) H) : TruX K (.int i) H Q := ⟨(i != 0), rfl, by
  have e : (i != 0) = (!decide (i = 0)) := by
    by_cases c : i = 0
    · subst c; rfl
    · simp [c]
  rw [e]; exact h⟩
theorem r_truN (h : Q false H) : TruX K .non H Q := ⟨false, rfl, h⟩
/-- all of a list of truths -/
theorem all_range {n : Nat} {p : Nat → Prop} [DecidablePred p] : ((List.range n).map fun i => decide (p i)).all id = decide (∀ i, i < n → p i) := by
  rw [Bool.eq_iff_iff]
  simp
theorem map_bl_range {n : Nat} {p : Nat → Prop} [DecidablePred p] : (List.range n).map (fun i => V.bl (decide (p i))) = ((List.range n).map fun i => decide (p i)).map V.bl := by
  rw [List.map_map]; rfl
end
end M

/-! ### part E: data without lists; comprehensions that make data -/
namespace M
open PySem PySem.Spec PyProof.Rows L2 Evl
mutual
def imm : PyData → Bool
  | .list _ => false
  | .dict _ => false
  | .tuple xs => immAll xs
  | _ => true
def immAll : List PyData → Bool
  | [] => true
  | x :: xs => imm x && immAll xs
end
/-- tuples stand -/
def TEx (H H' : Hp) : Prop := ∀ a xs, Rd H a (.tup xs) → Rd H' a (.tup xs)
theorem TEx.of {H H' : Hp} (e : Ex H H') : TEx H H' := fun _ _ h => ex_rd e h
theorem TEx.trans {H H1 H2 : Hp} (a : TEx H H1) (b : TEx H1 H2) : TEx H H2 := fun x o h => b x o (a x o h)
theorem TEx.refl (H : Hp) : TEx H H := fun _ _ h => h
theorem TEx.upd {H : Hp} {p : Addr} {xs : List V} {o : HO} (h : H p = some (.lst xs)) : TEx H (upd H p o) := fun a ys q => by
  have hne : a ≠ p := by
    rintro rfl
    rcases q with q | ⟨o', q⟩ <;> rw [h] at q <;> cases q
  rcases q with q | ⟨o', q⟩
  · exact .inl (by rw [upd_ne hne]; exact q)
  · exact .inr ⟨o', by rw [upd_ne hne]; exact q⟩
section
variable {K : PySem.W.Frag} {H H' : Hp}
theorem tex_t (e : TEx H H') {a : Addr} {xs : List V} (h : SqT K H a xs) : SqT K H' a xs := by
  rcases h with h | h
  · exact .inl (e a xs h)
  · exact .inr h
mutual
theorem dp_tex (e : TEx H H') : ∀ {d : PyData} {v : V}, imm d = true → Dp K H v d → Dp K H' v d
  | _, _, _, .non => .non
  | _, _, _, .bl b => .bl b
  | _, _, _, .int i => .int i
  | _, _, _, .str x => .str x
  | _, _, h, .lst _ _ => nomatch h
  | _, _, h, .tup s a => .tup (tex_t e s) (dpAll_tex e h a)
theorem dpAll_tex (e : TEx H H') : ∀ {ds : List PyData} {vs : List V}, immAll ds = true → DpAll K H vs ds → DpAll K H' vs ds
  | _, _, _, .nil => .nil
  | _, _, h, .cons a r => .cons (dp_tex e (Bool.and_eq_true_iff.mp h).1 a) (dpAll_tex e (Bool.and_eq_true_iff.mp h).2 r)
end
theorem dpAll_len : ∀ {vs : List V} {ds : List PyData}, DpAll K H vs ds → vs.length = ds.length
  | _, _, .nil => rfl
  | _, _, .cons _ r => congrArg Nat.succ (dpAll_len r)
theorem dpAll_app : ∀ {vs ws : List V} {ds es : List PyData}, DpAll K H vs ds → DpAll K H ws es → DpAll K H (vs ++ ws) (ds ++ es)
  | _, _, _, _, .nil, h => h
  | _, _, _, _, .cons a r, h => .cons a (dpAll_app r h)
theorem dpAll_get : ∀ {vs : List V} {ds : List PyData} {i : Nat} {x : V}, DpAll K H vs ds → vs[i]? = some x → ∃ d, ds[i]? = some d ∧ Dp K H x d
  | _, _, 0, _, .cons a _, e => by simp at e; subst e; exact ⟨_, rfl, a⟩
  | _, _, i + 1, x, .cons _ r, e => by
    obtain ⟨d, h1, h2⟩ := dpAll_get (i := i) (x := x) r (by simpa using e)
    exact ⟨d, by simpa using h1, h2⟩
theorem immAll_app : ∀ {ds es : List PyData}, immAll ds = true → immAll es = true → immAll (ds ++ es) = true
  | [], _, _, h => h
  | _ :: _, _, h, h' => Bool.and_eq_true_iff.mpr ⟨(Bool.and_eq_true_iff.mp h).1, immAll_app (Bool.and_eq_true_iff.mp h).2 h'⟩
theorem immAll_map {f : Nat → PyData} (h : ∀ i, imm (f i) = true) : ∀ l : List Nat, immAll (l.map f) = true
  | [] => rfl
  | i :: l => Bool.and_eq_true_iff.mpr ⟨h i, immAll_map h l⟩
variable {Q : VK}
/-- over a list: item i gives data f i (without lists) -/
theorem lcD_list {a : Addr} {xs : List V} {j : Nat} {te : TE} {vs : List Nat} {σ : L2.St} (f : Nat → PyData) (hf : ∀ i, imm (f i) = true) (hx : SqL K H a xs) (hn : xs.length ≤ 100000) (σ' : V → L2.St) (hσ : ∀ x, (wipe σ vs).set j (some x) = σ' x) (hw : ∀ x, wipe ((wipe σ vs).set j (some x)) vs = wipe σ vs)
    (he : ∀ (i : Nat) (x : V) (H1 : Hp) (Q' : VK), Ex H H1 → xs[i]? = some x → (∀ y H2, Ex H1 H2 → Dp K H2 y (f i) → Q' y H2) → te (σ' x) H1 Q')
    (hq : ∀ p H2 ys, H p = none → Ex H H2 → H2 p = some (.lst ys) → DpAll K H2 ys ((List.range xs.length).map f) → Q (.ref p) H2) : LcJ (Itl K a) (gName j) tYes te vs σ H Q := fun D hD =>
  lc_list (xs := xs) (Pv := fun i H' => Ex H H' ∧ ∃ ys, H' D = some (.lst ys) ∧ DpAll K H' ys ((List.range i).map f)) ⟨Ex.new hD, [], upd_same, .nil⟩ (fun i H' _ p => ex_l p.1 hx) (fun i x H' hi ⟨p1, ys, p2, p3⟩ => ⟨hw x, by
    show te ((wipe σ vs).set j _) H' _
    rw [hσ]
    have hi' := (List.getElem?_eq_some_iff.mp hi).1
    refine he i x H' _ p1 hi fun y H2 e2 d2 => ⟨ys, e2 D _ p2, sz_lt (by rw [dpAll_len p3, List.length_map, List.length_range]; omega), Ex.mut (p1.trans e2) hD, ys ++ [y], upd_same, ?_⟩
    have t := TEx.upd (o := .lst (ys ++ [y])) (e2 D _ p2)
    rw [List.range_succ, List.map_append]
    exact dpAll_app (dpAll_tex t (immAll_map hf _) (dpAll_ex e2 p3)) (.cons (dp_tex t (hf i) d2) .nil)⟩) fun H' ⟨p1, ys, p2, p3⟩ => hq D H' ys hD p1 p2 p3
theorem lcD_tup {a : Addr} {xs : List V} {j : Nat} {te : TE} {vs : List Nat} {σ : L2.St} (f : Nat → PyData) (hf : ∀ i, imm (f i) = true) (hx : SqT K H a xs) (hn : xs.length ≤ 100000) (σ' : V → L2.St) (hσ : ∀ x, (wipe σ vs).set j (some x) = σ' x) (hw : ∀ x, wipe ((wipe σ vs).set j (some x)) vs = wipe σ vs)
    (he : ∀ (i : Nat) (x : V) (H1 : Hp) (Q' : VK), Ex H H1 → xs[i]? = some x → (∀ y H2, Ex H1 H2 → Dp K H2 y (f i) → Q' y H2) → te (σ' x) H1 Q')
    (hq : ∀ p H2 ys, H p = none → Ex H H2 → H2 p = some (.lst ys) → DpAll K H2 ys ((List.range xs.length).map f) → Q (.ref p) H2) : LcJ (Itt K a) (gName j) tYes te vs σ H Q := fun D hD =>
  lc_tup (xs := xs) (Pv := fun i H' => Ex H H' ∧ ∃ ys, H' D = some (.lst ys) ∧ DpAll K H' ys ((List.range i).map f)) ⟨Ex.new hD, [], upd_same, .nil⟩ (fun i H' _ p => ex_t p.1 hx) (fun i x H' hi ⟨p1, ys, p2, p3⟩ => ⟨hw x, by
    show te ((wipe σ vs).set j _) H' _
    rw [hσ]
    have hi' := (List.getElem?_eq_some_iff.mp hi).1
    refine he i x H' _ p1 hi fun y H2 e2 d2 => ⟨ys, e2 D _ p2, sz_lt (by rw [dpAll_len p3, List.length_map, List.length_range]; omega), Ex.mut (p1.trans e2) hD, ys ++ [y], upd_same, ?_⟩
    have t := TEx.upd (o := .lst (ys ++ [y])) (e2 D _ p2)
    rw [List.range_succ, List.map_append]
    exact dpAll_app (dpAll_tex t (immAll_map hf _) (dpAll_ex e2 p3)) (.cons (dp_tex t (hf i) d2) .nil)⟩) fun H' ⟨p1, ys, p2, p3⟩ => hq D H' ys hD p1 p2 p3
/-! deep: tuples in the place of lists -/
end
mutual
def dDeep : PyData → PyData
  | .list xs => .tuple (dDeepAll xs)
  | .tuple xs => .tuple (dDeepAll xs)
  | .none => .none
  | .bool b => .bool b
  | .int i => .int i
  | .str s => .str s
  | .dict _ => .none
def dDeepAll : List PyData → List PyData
  | [] => []
  | x :: xs => dDeep x :: dDeepAll xs
end
mutual
theorem imm_deep : ∀ d, imm (dDeep d) = true
  | .list xs => immAll_deep xs
  | .tuple xs => immAll_deep xs
  | .none => rfl
  | .bool _ => rfl
  | .int _ => rfl
  | .str _ => rfl
  | .dict _ => rfl
theorem immAll_deep : ∀ ds, immAll (dDeepAll ds) = true
  | [] => rfl
  | x :: xs => Bool.and_eq_true_iff.mpr ⟨imm_deep x, immAll_deep xs⟩
end
theorem dDeepAll_eq : ∀ ds, dDeepAll ds = ds.map dDeep
  | [] => rfl
  | x :: xs => by show dDeep x :: dDeepAll xs = _; rw [dDeepAll_eq xs]; rfl
theorem dDeep_ints (ns : List Int) : dDeepAll (ns.map .int) = ns.map .int := by
  rw [dDeepAll_eq, List.map_map]; rfl
mutual
/-- depth at most n, each row at most so long -/
def shp : Nat → PyData → Bool
  | 0, .list _ => false
  | 0, .tuple _ => false
  | n + 1, .list xs => decide (xs.length ≤ 50000) && shpAll n xs
  | n + 1, .tuple xs => decide (xs.length ≤ 50000) && shpAll n xs
  | _, .dict _ => false
  | _, _ => true
def shpAll : Nat → List PyData → Bool
  | _, [] => true
  | n, x :: xs => shp n x && shpAll n xs
end
theorem shpAll_get {n : Nat} : ∀ {ds : List PyData} {i : Nat} {d : PyData}, shpAll n ds = true → ds[i]? = some d → shp n d = true
  | _ :: _, 0, _, h, e => by
    simp at e; subst e
    unfold shpAll at h
    exact (Bool.and_eq_true_iff.mp h).1
  | _ :: _, i + 1, d, h, e => by
    unfold shpAll at h
    exact shpAll_get (i := i) (d := d) (Bool.and_eq_true_iff.mp h).2 (by simpa using e)
theorem shpAll_ints : ∀ ns : List Int, shpAll 0 (ns.map .int) = true
  | [] => rfl
  | n :: ns => by show (shp 0 (.int n) && shpAll 0 (ns.map .int)) = true; rw [shpAll_ints ns]; rfl
end M

/-! ### part F: a list or a tuple -/
namespace M
open PySem PySem.Spec PyProof.Rows L2 Evl
def SqE (K : PySem.W.Frag) (H : Hp) (a : Addr) (xs : List V) : Prop := SqL K H a xs ∨ SqT K H a xs
section
variable {K : PySem.W.Frag} {H H' : Hp} {Q : VK}
theorem ex_e {a : Addr} {xs : List V} (e : Ex H H') (h : SqE K H a xs) : SqE K H' a xs := h.elim (fun h => .inl (ex_l e h)) (fun h => .inr (ex_t e h))
theorem r_lenEI {a : Addr} {xs : List Int} (h : SqE K H a (vI xs)) (q : Q (.int (xs.length : Int)) H) : rLenU K [.ref a] H Q := h.elim (fun h => r_lenLI h q) (fun h => r_lenTI h q)
theorem r_ixEI {a : Addr} {xs : List Int} {i : Int} (h : SqE K H a (vI xs)) (h0 : 0 ≤ i) (h1 : i < xs.length) (q : Q (.int (gI xs i)) H) : rIx K (.ref a) (.int i) H Q := h.elim (fun h => r_ixLI h h0 h1 q) (fun h => r_ixTI h h0 h1 q)
theorem r_ixEN {a : Addr} {xs : List Int} {i : Int} (h : SqE K H a (vI xs)) (h0 : i < 0) (h1 : -(xs.length : Int) ≤ i) (q : Q (.int (gI xs (i + xs.length))) H) : rIx K (.ref a) (.int i) H Q := h.elim (fun h => r_ixLN h h0 h1 q) (fun h => r_ixTN h h0 h1 q)
end
end M

/-! ### part G: fields, instances made, methods, properties, instances called, own == -/
namespace M
open PySem PySem.Spec PyProof.Rows L2 Evl
def GetF (K : PySem.W.Frag) (f : Str) (x : V) (H : Hp) (Q : VK) : Prop := ∃ a C dx fs v, x = .ref a ∧ H a = some (.ins C dx fs) ∧ Cls K C ∧ NoAttr K C f ∧ fs.lookup f = some v ∧ Q v H
def PutF (K : PySem.W.Frag) (f : Str) (y x : V) (H : Hp) (R : Hp → Prop) : Prop := ∃ a C dx fs, x = .ref a ∧ H a = some (.ins C dx fs) ∧ Cls K C ∧ NoAttr K C f ∧ fs.length < 1000 ∧ R (upd H a (.ins C dx (putF f y fs)))
section
variable {K : PySem.W.Frag} {σ : L2.St} {H : Hp} {Q : VK} {D : Ends} {ta tv : TE} {f : Str}
theorem w_fld (h : ta σ H fun x H1 => GetF K f x H1 Q) : tFld K ta f σ H Q := h
theorem w_fldS (h : tv σ H fun y H1 => ta σ H1 fun x H2 => PutF K f y x H2 fun H3 => D.nx σ H3) : sFld K ta tv f D σ H := h
theorem r_getF {a C dx : Addr} {fs : List (Str × V)} {v : V} (h : H a = some (.ins C dx fs)) (c : Cls K C) (n : NoAttr K C f) (e : fs.lookup f = some v) (q : Q v H) : GetF K f (.ref a) H Q := ⟨a, C, dx, fs, v, rfl, h, c, n, e, q⟩
theorem r_putF {a C dx : Addr} {fs : List (Str × V)} {y : V} {R : Hp → Prop} (h : H a = some (.ins C dx fs)) (c : Cls K C) (n : NoAttr K C f) (hl : fs.length < 1000) (q : R (upd H a (.ins C dx (putF f y fs)))) : PutF K f y (.ref a) H R := ⟨a, C, dx, fs, rfl, h, c, n, hl, q⟩
end
/-- a class made by its name: dvs the defaults that fill up -/
structure Mkc (P : Program) (w : World) (K : PySem.W.Frag) (mg : Str → Option Value) (base : Heap) (CX : CXT) (k : Nat) (x : Str) (C : Addr) (sp : Sp) (dvs : List V) : Prop where
  ex : ∃ (f : Addr) (fd : FuncData) (ps : List Str) (ds : List Value), Mk K C f ∧ FnOk P w K mg base CX k f fd ps sp ∧ mg x = some (.ref C) ∧ Binds K fd ps ds ∧ Vals dvs ds
section
variable {X : Cx} {CX : CXT} {k j : Nat} {C : Addr} {x m : Str} {sp : Sp} {dvs : List V} {E : XK} {p pos apos : Pos} {e o : Expr} {es : List Expr} {ta : TE} {t : TA}
theorem pmk (c : Mkc X.prog X.w X.K X.mg X.base CX k x C sp dvs) (hr : Room j X.A) (hk : k + 1 ≤ j) (hx : Passes CX X E) (hg : Gl X x) (ha : PA X (e :: es) t)
    (hdb : (x == ("__debug__" : Str)) = false := by decide) (he : starEach (e :: es) X.env = (false, eval e X.env) :: starEach es X.env := by rfl) (hpl : (backTo pos (starEach es X.env)).any (·.1) = false := by rfl) :
    PE X (.Call (.Name x p) (e :: es) [] pos) (tMake C sp dvs E t) := by
  obtain ⟨f, fd, ps, ds, M, F, hm, hb, hd⟩ := c.ex
  exact pe_make M F (hr.mono hk) hg hm hb hd hx ha hdb he hpl
theorem pmt {pl : Sem Bool} (c : Mt X.prog X.w X.K X.mg X.base CX k C m sp) (hr : Room j X.A) (hk : k ≤ j) (hx : Passes CX X E) (ho : PE X o ta) (ha : PA X (e :: es) t)
    (he : starEach (e :: es) X.env = (false, eval e X.env) :: starEach es X.env := by rfl) (hpl : (backTo pos (starEach es X.env)).any (·.1) = false := by rfl)
    (ht : eval (.Call (.Attribute o m apos) (e :: es) [] pos) X.env = (do let ov ← eval o X.env; standAt apos.atName; let (f, first) ← holding [ov] (getMethod ov m pl); callWith pos f first (backTo pos (starEach (e :: es) X.env)) (backToKw pos (keywordEach [] X.env))) := by rfl) :
    PE X (.Call (.Attribute o m apos) (e :: es) [] pos) (tMeth C m sp [] E ta t) := by
  obtain ⟨f, fd, ps, cl, hm, F, hb⟩ := c.ex
  exact pe_meth ho cl hm F (hr.mono hk) hb .nil hx ha he hpl ht
theorem pmt0 {pl : Sem Bool} (c : Mt X.prog X.w X.K X.mg X.base CX k C m sp) (hr : Room j X.A) (hk : k ≤ j) (hx : Passes CX X E) (ho : PE X o ta)
    (ht : eval (.Call (.Attribute o m apos) [] [] pos) X.env = (do let ov ← eval o X.env; standAt apos.atName; let (f, first) ← holding [ov] (getMethod ov m pl); callWith pos f first (backTo pos (starEach [] X.env)) (backToKw pos (keywordEach [] X.env))) := by rfl) :
    PE X (.Call (.Attribute o m apos) [] [] pos) (tMeth C m sp [] E ta tNil) := by
  obtain ⟨f, fd, ps, cl, hm, F, hb⟩ := c.ex
  exact pe_meth0 ho cl hm F (hr.mono hk) hb .nil hx ht
end
/-- a property of the class at C -/
structure Prp (P : Program) (w : World) (K : PySem.W.Frag) (mg : Str → Option Value) (base : Heap) (k : Nat) (C : Addr) (m : Str) (sp : Sp) : Prop where
  ex : ∃ (p g : Addr) (fd : FuncData) (ps : List Str), Cls K C ∧ PropOf K C m p g ∧ FnOk P w K mg base CX0 k g fd ps sp ∧ Binds K fd ps []
def PropI (C : Addr) (sp : Sp) (x : V) (H1 : Hp) (Q : VK) (E : XK) : Prop := ∃ a dx fs, x = .ref a ∧ H1 a = some (.ins C dx fs) ∧ sp (.ref a :: []) H1 Q E
section
variable {X : Cx} {k j : Nat} {C : Addr} {m : Str} {sp : Sp} {E : XK} {pos : Pos} {e : Expr} {ta : TE} {σ : L2.St} {H : Hp} {Q : VK}
theorem ppr (c : Prp X.prog X.w X.K X.mg X.base k C m sp) (hr : Room j X.A) (hk : k + 1 ≤ j) (he : PE X e ta) (hab : attributeBase e m X.env (eval e X.env) = eval e X.env) : PE X (.Attribute e m pos) (tProp C sp [] E0 ta) := by
  obtain ⟨p, g, fd, ps, cl, hp, F, hb⟩ := c.ex
  exact pe_prop he cl hp F (hr.mono hk) hb .nil pass0 hab
theorem w_prop (h : ta σ H fun x H1 => PropI C sp x H1 Q E) : tProp C sp [] E ta σ H Q := h
theorem r_prop {F} {a dx : Addr} {fs : List (Str × V)} (h : H a = some (.ins C dx fs)) (q : F (.ref a) H Q E) : PropI C (sp1 F) (.ref a) H Q E := ⟨a, dx, fs, rfl, h, _, rfl, q⟩
def MethI (C : Addr) (m : Str) (sp : Sp) (E : XK) (t : TA) (σ : L2.St) (x : V) (H1 : Hp) (Q : VK) : Prop := ∃ a dx fs, x = .ref a ∧ H1 a = some (.ins C dx fs) ∧ fs.lookup m = none ∧ t σ H1 fun vs H2 => sp (x :: (vs ++ [])) H2 Q E
theorem w_meth {t : TA} (h : ta σ H fun x H1 => MethI C m sp E t σ x H1 Q) : tMeth C m sp [] E ta t σ H Q := h
theorem r_meth {t : TA} {a dx : Addr} {fs : List (Str × V)} (h : H a = some (.ins C dx fs)) (n : fs.lookup m = none) (q : t σ H fun vs H2 => sp (.ref a :: (vs ++ [])) H2 Q E) : MethI C m sp E t σ (.ref a) H Q := ⟨a, dx, fs, rfl, h, n, q⟩
def MakeI (C : Addr) (sp : Sp) (dvs : List V) (E : XK) (vs : List V) (H1 : Hp) (Q : VK) : Prop := ∀ (x dx : Addr), H1 x = none → H1 dx = none → dx ≠ x → sp (.ref x :: (vs ++ dvs)) (upd (upd H1 dx (.own x)) x (.ins C dx [])) (fun v H2 => v = .non ∧ Q (.ref x) H2) E
theorem w_make {t : TA} {dvs : List V} (h : t σ H fun vs H1 => MakeI C sp dvs E vs H1 Q) : tMake C sp dvs E t σ H Q := h
/-- an instance called -/
structure Cli (P : Program) (w : World) (K : PySem.W.Frag) (mg : Str → Option Value) (base : Heap) (k : Nat) (C : Addr) (sp : Sp) : Prop where
  ex : ∃ (g : Addr) (fd : FuncData) (ps : List Str), StX.CallO K C g ∧ FnOk P w K mg base CX0 k g fd ps sp ∧ Binds K fd ps []
def CallI (C : Addr) (sp : Sp) (E : XK) (t : TA) (σ : L2.St) (y : V) (H1 : Hp) (Q : VK) : Prop := ∃ a, y = V.ref a ∧ t σ H1 fun vs H2 => (∃ dx fs, H2 a = some (.ins C dx fs)) ∧ sp (V.ref a :: vs) H2 Q E
def tCallI (C : Addr) (sp : Sp) (E : XK) (tf : TE) (t : TA) : TE := fun σ H Q => tf σ H fun y H1 => CallI C sp E t σ y H1 Q
end
section
variable {X : Cx} {k j : Nat} {C : Addr} {sp : Sp} {pos : Pos} {fe e : Expr} {es : List Expr} {tf : TE} {t : TA}
theorem pcl (c : Cli X.prog X.w X.K X.mg X.base k C sp) (hr : Room j X.A) (hk : k ≤ j) (hf : PE X fe tf) (ha : PA X (e :: es) t)
    (ht : eval (.Call fe (e :: es) [] pos) X.env = (do callWith pos (← eval fe X.env) [] (backTo pos (starEach (e :: es) X.env)) (backToKw pos (keywordEach [] X.env))) := by rfl)
    (he : starEach (e :: es) X.env = (false, eval e X.env) :: starEach es X.env := by rfl) (hpl : (backTo pos (starEach es X.env)).any (·.1) = false := by rfl) : PE X (.Call fe (e :: es) [] pos) (StX.tCallO X C sp E0 tf t) := by
  obtain ⟨g, fd, ps, co, F, hb⟩ := c.ex
  exact StX.pe_callO hf co ((F.raw hb .nil).imp fun vs H Q E h => by rw [List.append_nil]; exact h) (hr.mono hk) pass0 ha ht he hpl
def CallOI (X : Cx) (C : Addr) (sp : Sp) (t : TA) (σ : L2.St) (y : V) (H1 : Hp) (Q : VK) : Prop := ∃ a, y = V.ref a ∧ t σ H1 fun vs H2 => StX.InsC X H2 a C ∧ sp (V.ref a :: vs) H2 Q E0
variable {σ : L2.St} {H : Hp} {Q : VK}
theorem w_callO (h : tf σ H fun y H1 => CallOI X C sp t σ y H1 Q) : StX.tCallO X C sp E0 tf t σ H Q := h
def CallOJ (X : Cx) (C a : Addr) (sp : Sp) (vs : List V) (H2 : Hp) (Q : VK) : Prop := StX.InsC X H2 a C ∧ sp (V.ref a :: vs) H2 Q E0
theorem w_callOI {a : Addr} (h : t σ H fun vs H2 => CallOJ X C a sp vs H2 Q) : CallOI X C sp t σ (.ref a) H Q := ⟨a, rfl, h⟩
theorem r_callO1 {F} {a dx : Addr} {fs : List (Str × V)} {x : V} (hi : H a = some (.ins C dx fs)) (h : F (.ref a) x H Q E0) : CallOJ X C a (sp2 F) [x] H Q := ⟨.inr ⟨dx, fs, hi⟩, _, _, rfl, h⟩
end
/-! own == : x an instance of the class at C, y any value whose type is known -/
section
variable {X : Cx} {n : Nat} {C : Addr} {sp : Sp}
def rOwnEq (K : PySem.W.Frag) (C : Addr) (sp : Sp) : R2 := fun x y H Q => ∃ a dx fs t, x = .ref a ∧ H a = some (.ins C dx fs) ∧ TyX K H y t ∧ PySem.W.notFirst K C t = true ∧ sp [x, y] H (fun v H' => (∃ b, v = .bl b) ∧ Q v H') E0
end
section
variable {X : Cx} {n : Nat} {C : Addr} {sp : Sp}
/-- what == needs of the class at C -/
structure EqOf (P : Program) (w : World) (K : PySem.W.Frag) (mg : Str → Option Value) (base : Heap) (k : Nat) (C : Addr) (sp : Sp) : Prop where
  ex : ∃ (g : Addr) (fd : FuncData) (ps : List Str), PySem.W.findIn K (.ref C) "__eq__" = some (some (.ref g)) ∧ PySem.W.isFn K (.ref g) = true ∧ FnOk P w K mg base CX0 k g fd ps sp ∧ Binds K fd ps []
theorem op_ownEq {j : Nat} (c : EqOf X.prog X.w X.K X.mg X.base n C sp) (hr : Room j X.A) (hn : n ≤ j) : OpR X (compareOp .Eq) (rOwnEq X.K C sp) := by
  obtain ⟨g, fd, ps, hs, hf, F, hb⟩ := c.ex
  intro pins s σ H x y v u Q I rx ry h
  obtain ⟨a, dx, fs, t, rfl, ha, ty, hnf, q⟩ := h
  cases (show v = Value.ref a from rx)
  obtain ⟨mA, O, _⟩ := ins_get I.hok ha
  obtain ⟨od, J, _⟩ := O.look
  obtain ⟨m, hF⟩ := I.fr
  obtain ⟨Pk, kit, hk, _⟩ := kit_of I ry ty
  show wpAny _ _ (richCompare .Eq (.ref a) u) _ _ _
  refine PySem.W.cmp_K (op := .Eq) (tb := t) (hr.mono hn).units0 hF I.ok.mod.kin J (kit.ty _ _ I.kIn hk) hnf hs hf ?_
  refine wpAny_mono (run_fn (us := [.ref a, u]) (vs := [.ref a, y]) (dvs := []) (ds := []) F (hr.mono hn) hb .nil pass0 I (.cons rfl (.cons ry .nil)) q) (fun z s' hz => ?_) fun _ _ x => x
  obtain ⟨zv, H', I', rz, ⟨b, hb⟩, qz⟩ := hz
  subst hb
  cases (show z = Value.bool b from rz)
  exact ⟨.bl b, H', I', rfl, qz⟩
def rEqO (K : PySem.W.Frag) (C : Addr) (sp : Sp) : R2 := fun x y H Q => rEqU K x y H Q ∨ rOwnEq K C sp x y H Q
theorem kEqO (K : PySem.W.Frag) {j : Nat} (c : EqOf X.prog X.w X.K X.mg X.base n C sp) (hr : Room j X.A) (hn : n ≤ j) (h : X.K = K := by rfl) : OpR X (compareOp .Eq) (rEqO K C sp) := by subst h; exact (xEq hr).or (op_ownEq c hr hn)
end
section
variable {K : PySem.W.Frag} {C : Addr} {sp : Sp} {H : Hp} {Q : VK} {x y : V}
theorem w_eqO (h : rEqU K x y H Q) : rEqO K C sp x y H Q := .inl h
theorem r_ownEq {F} {a dx : Addr} {fs : List (Str × V)} {t : Value} (ha : H a = some (.ins C dx fs)) (ty : TyX K H y t) (hn : PySem.W.notFirst K C t = true) (q : F (.ref a) y H (fun v H' => (∃ b, v = .bl b) ∧ Q v H') E0) : rEqO K C (sp2 F) (.ref a) y H Q :=
  .inr ⟨a, dx, fs, t, rfl, ha, ty, hn, _, _, rfl, q⟩
end
end M

/-! ### part H: the head's facts, functions by any address -/
namespace M
open PySem PySem.Spec PyProof.Rows L2 Evl
/-- a def: where its function stands -/
structure DX where
  adr : PySem.W.Frag → Addr
  name : Str
  qual : Str
  params : Arguments
  body : List Stmt
  scope : Scope
  dfl : List He.Dv := []
  clo : Bool := false
/-- the parts of a function; of a closure the names alone -/
def fnA (K : PySem.W.Frag) (a : Addr) (c : Bool) : He.FnW := match K.lookup a with
  | some ⟨_, _, .func q, _⟩ => some (q.name, q.qualname, q.params, q.body, q.scope, q.globals, (if c = true then q.closure.map fun p => (p.1, 0) else q.closure), q.builtins)
  | _ => none
def DX.val (d : DX) : He.FnW := some (d.name, d.qual, d.params, .stmts d.body, d.scope, mainGlobals, (if d.clo = true then [("__class__", 0)] else []), builtinsNs)
def DX.dvs (K : PySem.W.Frag) (d : DX) : List V := d.dfl.map (He.Dv.v K)
def DX.ok (K : PySem.W.Frag) (d : DX) : Bool := PySem.W.keepIn K (.ref (d.adr K)) && (match K.lookup (d.adr K) with
  | some ⟨_, _, .func q, _⟩ => PySem.W.codeIn K q.code d.qual && He.dflB K q.defaults (d.dvs K)
  | _ => false)
theorem DX.fun_ {K : PySem.W.Frag} {d : DX} (n : d.clo = false) (e : fnA K (d.adr K) d.clo = d.val) (c : d.ok K = true) : ∃ fd, FunD K d.name d.qual d.params d.body d.scope (d.dvs K) [] (d.adr K) fd := by
  have c0 := Bool.and_eq_true_iff.mp c
  have c1 := c0.2
  unfold fnA DX.val at e
  rw [n] at e
  simp only [Bool.false_eq_true, if_false] at e
  cases q : K.lookup (d.adr K) with
  | none => rw [q] at c1; cases c1
  | some o =>
    obtain ⟨oc, od, dt, osl⟩ := o
    rw [q] at c1 e
    cases dt with
    | func fd =>
      obtain ⟨m1, m2, m3, m4, m5, m6, m7, m8, m9, m10, m11, m12, m13, m14, m15⟩ := fd
      have e2 : (some (m1, m2, m3, m4, m5, m6, m7, m15) : He.FnW) = some (d.name, d.qual, d.params, .stmts d.body, d.scope, mainGlobals, [], builtinsNs) := e
      simp only [Option.some.injEq, Prod.mk.injEq] at e2
      obtain ⟨g1, g2, g3, g4, g5, g6, g7, g8⟩ := e2
      subst g1 g2 g3 g4 g5 g6 g7 g8
      have c2 := Bool.and_eq_true_iff.mp (show (PySem.W.codeIn K m13 d.qual && He.dflB K m8 (d.dvs K)) = true from c1)
      exact ⟨_, ⟨oc, od, m8, m9, m10, m11, m12, m13, m14, osl, rfl, q, c2.1, He.dflB_ok c2.2, .inl rfl⟩, c0.1⟩
    | _ => cases c1
/-- a def that names super(), as it stands -/
structure FunS (K : PySem.W.Frag) (x qual : Str) (params : Arguments) (body : List Stmt) (scope : Scope) (f : Addr) (fd : FuncData) (cc cda : Addr) : Prop where
  ex : ∃ (oc : Value) (od : Option Addr) (dV kV doc pm : Value) (an : Option Addr) (ct : Value) (osl : Array (Option Value)),
    fd = PySem.W.ksFn x qual params body scope dV kV doc pm an (.ref cda) ct cc ∧ K.lookup f = some ⟨oc, od, .func fd, osl⟩ ∧ PySem.W.codeIn K (.ref cda) qual = true ∧ DflV K dV []
  kp : PySem.W.keepIn K (.ref f) = true
def cellOf (K : PySem.W.Frag) (a : Addr) : Addr := match K.lookup a with
  | some ⟨_, _, .func q, _⟩ => (match q.closure with
    | (_, c) :: _ => c
    | _ => 0)
  | _ => 0
def codeOf (K : PySem.W.Frag) (a : Addr) : Addr := match K.lookup a with
  | some ⟨_, _, .func q, _⟩ => (match q.code with
    | .ref c => c
    | _ => 0)
  | _ => 0
theorem DX.funS_ {K : PySem.W.Frag} {d : DX} (n : d.clo = true) (nd : d.dvs K = []) (e : fnA K (d.adr K) d.clo = d.val) (c : d.ok K = true) : ∃ fd, FunS K d.name d.qual d.params d.body d.scope (d.adr K) fd (cellOf K (d.adr K)) (codeOf K (d.adr K)) := by
  have c0 := Bool.and_eq_true_iff.mp c
  have c1 := c0.2
  unfold fnA DX.val at e
  rw [n] at e
  simp only [if_true] at e
  unfold cellOf codeOf
  cases q : K.lookup (d.adr K) with
  | none => rw [q] at c1; cases c1
  | some o =>
    obtain ⟨oc, od, dt, osl⟩ := o
    rw [q] at c1 e
    cases dt with
    | func fd =>
      obtain ⟨m1, m2, m3, m4, m5, m6, m7, m8, m9, m10, m11, m12, m13, m14, m15⟩ := fd
      have e2 : (some (m1, m2, m3, m4, m5, m6, (m7.map fun p => ((p.1, 0) : Str × Addr)), m15) : He.FnW) = (some (d.name, d.qual, d.params, FuncBody.stmts d.body, d.scope, mainGlobals, [(("__class__" : Str), (0 : Addr))], builtinsNs) : He.FnW) := e
      simp only [Option.some.injEq, Prod.mk.injEq] at e2
      obtain ⟨g1, g2, g3, g4, g5, g6, g7, g8⟩ := e2
      have c2 := Bool.and_eq_true_iff.mp (show (PySem.W.codeIn K m13 d.qual && He.dflB K m8 (d.dvs K)) = true from c1)
      obtain ⟨cda, rfl⟩ : ∃ c, m13 = .ref c := by
        have := c2.1
        unfold PySem.W.codeIn at this
        split at this
        · exact ⟨_, rfl⟩
        · cases this
      have h7 : ∃ c, m7 = [(("__class__" : Str), c)] := by
        rcases m7 with _ | ⟨⟨z1, z2⟩, _ | ⟨y, m7⟩⟩
        · exact absurd (congrArg List.length g7) (by simp)
        · have g8 : z1 = ("__class__" : Str) := congrArg Prod.fst (List.cons.inj g7).1
          exact ⟨z2, by rw [g8]⟩
        · exact absurd (congrArg List.length g7) (by simp)
      obtain ⟨z2, h7⟩ := h7
      subst g1 g2 g3 g4 g5 g6 g8 h7
      have dd := He.dflB_ok c2.2
      rw [nd] at dd
      exact ⟨_, ⟨oc, od, m8, m9, m10, m11, m12, m14, osl, rfl, q, c2.1, dd⟩, c0.1⟩
    | _ => cases c1
abbrev AlM : Type := Bool × List He.FnW
def obsM (fa : List He.Fa) (fn : List DX) (ex : PySem.W.Frag → Bool) (K : PySem.W.Frag) : AlM := ((fa.all fun f => f.ok K) && ((fn.all fun d => d.ok K) && ex K), fn.map fun d => fnA K (d.adr K) d.clo)
def valM (fn : List DX) : AlM := (true, fn.map DX.val)
def SaysM (fa : List He.Fa) (fn : List DX) (ex : PySem.W.Frag → Bool) (K : PySem.W.Frag) : Prop := obsM fa fn ex K = valM fn
/-- the cells of closures, too, and the table of the statics -/
def asX (g : Addr → Option Obj) (n : Nat) : List Addr := cStatics :: (He.asD g n ++ (He.asD g n).flatMap fun a => match g a with
  | some ⟨_, _, .func q, _⟩ => q.closure.map fun p => p.2
  | _ => [])
def obsMG (n : Nat) (fa : List He.Fa) (fn : List DX) (ex : PySem.W.Frag → Bool) (g : Addr → Option Obj) : AlM := obsM fa fn ex (He.frG g (asX g n))
def hookM (n : Nat) (fa : List He.Fa) (fn : List DX) (ex : PySem.W.Frag → Bool) : PySem.W.Hook where
  α := AlM
  obs := fun s => obsMG n fa fn ex s.heap.get?
  val := fun _ => valM fn
  says := fun _ h => ∃ K : PySem.W.Frag, K.In h ∧ SaysM fa fn ex K
  of := fun _ _ e => ⟨_, He.frG_in, e⟩
  keeps := fun _ _ _ ⟨K, hK, c⟩ k => ⟨K, PySem.W.Frag.In.keeps hK k, c⟩
theorem obsMG_eq {n : Nat} {fa : List He.Fa} {fn : List DX} {ex : PySem.W.Frag → Bool} {g : Addr → Option Obj} {s : Shared} (h : ∀ a, g a = s.heap.get? a) : obsMG n fa fn ex g = (hookM n fa fn ex).obs s := by
  rw [show g = s.heap.get? from funext h] <;> rfl
section
variable {fa : List He.Fa} {fn : List DX} {ex : PySem.W.Frag → Bool} {K : PySem.W.Frag}
theorem SaysM.fact (c : SaysM fa fn ex K) (i : Nat) {f : He.Fa} (h : fa[i]? = some f := by rfl) : f.ok K = true :=
  List.all_eq_true.mp (Bool.and_eq_true_iff.mp (show ((fa.all fun f => f.ok K) && ((fn.all fun d => d.ok K) && ex K)) = true from congrArg Prod.fst c)).1 f (List.mem_of_getElem? h)
theorem SaysM.more (c : SaysM fa fn ex K) : ex K = true :=
  (Bool.and_eq_true_iff.mp (Bool.and_eq_true_iff.mp (show ((fa.all fun f => f.ok K) && ((fn.all fun d => d.ok K) && ex K)) = true from congrArg Prod.fst c)).2).2
theorem SaysM.look (c : SaysM fa fn ex K) (i : Nat) {d : DX} (h : fn[i]? = some d := by rfl) : fnA K (d.adr K) d.clo = d.val ∧ d.ok K = true := by
  have c2 := (Bool.and_eq_true_iff.mp (Bool.and_eq_true_iff.mp (show ((fa.all fun f => f.ok K) && ((fn.all fun d => d.ok K) && ex K)) = true from congrArg Prod.fst c)).2).1
  have e : fn.map (fun d => fnA K (d.adr K) d.clo) = fn.map DX.val := congrArg Prod.snd c
  have e2 : (fn.map fun d => fnA K (d.adr K) d.clo)[i]? = (fn.map DX.val)[i]? := by rw [e]
  rw [List.getElem?_map, List.getElem?_map, h] at e2
  exact ⟨Option.some.inj e2, List.all_eq_true.mp c2 d (List.mem_of_getElem? h)⟩
theorem SaysM.def_ (c : SaysM fa fn ex K) (i : Nat) {d : DX} (h : fn[i]? = some d := by rfl) (n : d.clo = false := by rfl) : ∃ fd, FunD K d.name d.qual d.params d.body d.scope (d.dvs K) [] (d.adr K) fd :=
  let ⟨e, c2⟩ := c.look i h
  DX.fun_ n e c2
theorem SaysM.defS (c : SaysM fa fn ex K) (i : Nat) {d : DX} (h : fn[i]? = some d := by rfl) (n : d.clo = true := by rfl) (nd : d.dvs K = [] := by rfl) : ∃ fd, FunS K d.name d.qual d.params d.body d.scope (d.adr K) fd (cellOf K (d.adr K)) (codeOf K (d.adr K)) :=
  let ⟨e, c2⟩ := c.look i h
  DX.funS_ n nd e c2
end
/-! facts beyond He.Fa, told by a Bool -/
/-- the property m of the class x: its object, its getter -/
def prA (x m : Str) (K : PySem.W.Frag) : Addr := He.ma K (He.ga K x) m
def prG (x m : Str) (K : PySem.W.Frag) : Addr := match PySem.W.recIn K (prA x m K) "property" with
  | some (.ref g :: _) => g
  | _ => 0
def propB (x m : Str) (K : PySem.W.Frag) : Bool := decide (PySem.W.findIn K (.ref (He.ga K x)) m = some (some (.ref (prA x m K)))) && (decide (PySem.W.specialIn K (.ref (prA x m K)) "__get__" = some (some (.builtin "property.__get__"))) &&
  (decide (PySem.W.takesIn K (.ref (prA x m K)) = some true) && (match PySem.W.recIn K (prA x m K) "property" with
    | some (.ref g :: _) => true
    | _ => false)))
theorem propB_ok {x m : Str} {K : PySem.W.Frag} (h : propB x m K = true) : PropOf K (He.ga K x) m (prA x m K) (prG x m K) := by
  obtain ⟨h1, h⟩ := Bool.and_eq_true_iff.mp h
  obtain ⟨h2, h⟩ := Bool.and_eq_true_iff.mp h
  obtain ⟨h3, h⟩ := Bool.and_eq_true_iff.mp h
  refine ⟨of_decide_eq_true h1, of_decide_eq_true h2, of_decide_eq_true h3, ?_⟩
  unfold prG
  split at h
  · rename_i g r e
    rw [e]
    exact ⟨_, rfl⟩
  · cases h
/-- an empty tuple stands at an address of the written part -/
def tup0B (K : PySem.W.Frag) (a : Addr) : Bool := match K.lookup a with
  | some ⟨.type c, _, .seq its _, _⟩ => decide (c = "tuple") && decide (its.size = 0)
  | _ => false
theorem tup0B_ok {K : PySem.W.Frag} {a : Addr} (h : tup0B K a = true) (H : Hp) : SqT K H a [] := by
  unfold tup0B at h
  split at h
  · rename_i c od its n sl e
    obtain ⟨h1, h2⟩ := Bool.and_eq_true_iff.mp h
    have h3 : its = #[] := Array.eq_empty_of_size_eq_zero (of_decide_eq_true h2)
    subst h3
    exact .inr ⟨_, #[], n, e, congrArg Value.type (of_decide_eq_true h1), rfl, by decide, .nil⟩
  · cases h
/-- an instance of the class may be called -/
def callB (x : Str) (K : PySem.W.Frag) : Bool := decide (PySem.W.findIn K (.ref (He.ga K x)) "__call__" = some (some (.ref (He.ma K (He.ga K x) "__call__")))) && (PySem.W.isFn K (.ref (He.ma K (He.ga K x) "__call__")) && PySem.W.fnIn K (He.ma K (He.ga K x) "__call__"))
theorem callB_ok {x : Str} {K : PySem.W.Frag} (h : callB x K = true) : StX.CallO K (He.ga K x) (He.ma K (He.ga K x) "__call__") := by
  obtain ⟨h1, h⟩ := Bool.and_eq_true_iff.mp h
  obtain ⟨h2, h3⟩ := Bool.and_eq_true_iff.mp h
  exact ⟨of_decide_eq_true h1, h2, h3⟩
/-- the class of an instance, for isinstance and ==: what TyOf asks -/
def insB (x : Str) (K : PySem.W.Frag) : Bool := decide (PySem.W.findIn K (.ref (He.ga K x)) "__class__" = some (some (.builtin "object.__class__"))) && (decide (PySem.W.specialIn K (.builtin "object.__class__") "__get__" = some (some (.builtin "getset_descriptor.__get__"))) &&
  (decide (PySem.W.takesIn K (.builtin "object.__class__") = some true) && decide (PySem.W.mroIn K (He.ga K x) (.type "object") = some true)))
theorem insB_ok {x : Str} {K : PySem.W.Frag} (h : insB x K = true) (c : Cls K (He.ga K x)) {H : Hp} {a dx : Addr} {fs : List (Str × V)} (e : H a = some (.ins (He.ga K x) dx fs)) : TyX K H (.ref a) (.ref (He.ga K x)) := by
  obtain ⟨h1, h⟩ := Bool.and_eq_true_iff.mp h
  obtain ⟨h2, h⟩ := Bool.and_eq_true_iff.mp h
  obtain ⟨h3, h4⟩ := Bool.and_eq_true_iff.mp h
  exact .base (.ins e c (of_decide_eq_true h1) (of_decide_eq_true h2) (of_decide_eq_true h3) (of_decide_eq_true h4))
/-- isinstance's answers of the class, == of others -/
def kitB (x : Str) (n : String) (b : Bool) (K : PySem.W.Frag) : Bool := decide (PySem.W.kitOne K (.type n) (.ref (He.ga K x)) = some b)
def kitSB (x : Str) (K : PySem.W.Frag) : Bool := decide (PySem.W.kitOne K (.ref (He.ga K x)) (.ref (He.ga K x)) = some true)
def nfB (x : Str) (n : String) (K : PySem.W.Frag) : Bool := PySem.W.notFirst K (He.ga K x) (.type n)
end M

/-! ### part I: a source of draws; frames -/
namespace M
open PySem PySem.Spec PyProof.Rows L2 Evl
/-- all but what stands at a is as it was -/
def Fr (a : Addr) (H H' : Hp) : Prop := ∀ b o, b ≠ a → H b = some o → H' b = some o
theorem Fr.refl (a : Addr) (H : Hp) : Fr a H H := fun _ _ _ h => h
theorem Fr.trans {a : Addr} {H H1 H2 : Hp} (x : Fr a H H1) (y : Fr a H1 H2) : Fr a H H2 := fun b o n h => y b o n (x b o n h)
theorem Fr.of {a : Addr} {H H' : Hp} (e : Ex H H') : Fr a H H' := fun b o _ h => e b o h
theorem Fr.upd {a : Addr} {H : Hp} {o : HO} : Fr a H (upd H a o) := fun b o n h => by rw [upd_ne n]; exact h
/-- a list of three: the digits that are left, the seed, the count -/
def SrcAt (H : Hp) (a : Addr) : Prop := ∃ d s c : Int, H a = some (.lst [.int d, .int s, .int c]) ∧ 0 ≤ d ∧ 0 ≤ s ∧ s < 2147483629 ∧ 0 ≤ c
theorem SrcAt.ex {H H' : Hp} {a : Addr} (e : Ex H H') (h : SrcAt H a) : SrcAt H' a := by
  obtain ⟨d, s, c, h1, h2⟩ := h
  exact ⟨d, s, c, e _ _ h1, h2⟩
theorem SrcAt.ne {H : Hp} {a b : Addr} (h : SrcAt H a) (n : H b = none) : b ≠ a := by
  obtain ⟨d, s, c, h1, _⟩ := h
  rintro rfl
  rw [n] at h1; cases h1
/-- a change of the source alone leaves the tuples -/
theorem Fr.tex {a : Addr} {H H' : Hp} (f : Fr a H H') (h : SrcAt H a) : TEx H H' := fun b xs q => by
  obtain ⟨d, s, c, h1, _⟩ := h
  have hb : b ≠ a := by
    rintro rfl
    rcases q with q | ⟨o', q⟩ <;> rw [h1] at q <;> cases q
  rcases q with q | ⟨o', q⟩
  · exact .inl (f b _ hb q)
  · exact .inr ⟨o', f b _ hb q⟩
theorem fr_t {K : PySem.W.Frag} {a b : Addr} {H H' : Hp} {xs : List V} (f : Fr a H H') (h : SrcAt H a) (s : SqT K H b xs) : SqT K H' b xs := tex_t (f.tex h) s
theorem fr_dp {K : PySem.W.Frag} {a : Addr} {H H' : Hp} {v : V} {d : PyData} (f : Fr a H H') (h : SrcAt H a) (hi : imm d = true) (s : Dp K H v d) : Dp K H' v d := dp_tex (f.tex h) hi s
section
variable {H : Hp} {v : V}
theorem r_set {p : Addr} {xs : List V} {k : Int} {j : Nat} {R : Hp → Prop} (h : H p = some (.lst xs)) (hj : ixN xs.length k = some j) (q : R (upd H p (.lst (xs.set j v)))) : rSetL (.ref p) (.int k) v H R := ⟨p, xs, k, j, rfl, rfl, h, hj, q⟩
theorem r_app {K : PySem.W.Frag} {p : Addr} {xs : List V} {Q : VK} (h : H p = some (.lst xs)) (hz : xs.length < sizeLine) (q : Q .non (upd H p (.lst (xs ++ [v])))) : rAppend (.ref p) [v] H Q := ⟨p, xs, v, rfl, rfl, h, hz, q⟩
end
/-- a built-in method of a list: its receiver stands -/
def BmI (K : PySem.W.Frag) (T : String) (r : V → List V → Hp → VK → Prop) (t : TA) (σ : L2.St) (x : V) (H1 : Hp) (Q : VK) : Prop := tyV K T x H1 ∧ t σ H1 fun xs H2 => r x xs H2 Q
theorem w_bm {K : PySem.W.Frag} {T : String} {r : V → List V → Hp → VK → Prop} {to : TE} {t : TA} {σ : L2.St} {H : Hp} {Q : VK} (h : to σ H fun x H1 => BmI K T r t σ x H1 Q) : tBM K T r to t σ H Q := h
theorem r_bmL {K : PySem.W.Frag} {r : V → List V → Hp → VK → Prop} {t : TA} {σ : L2.St} {p : Addr} {xs : List V} {H : Hp} {Q : VK} (h : SqL K H p xs) (q : t σ H fun vs H2 => r (.ref p) vs H2 Q) : BmI K "list" r t σ (.ref p) H Q := ⟨.inl ⟨rfl, xs, h⟩, q⟩
section
variable {H : Hp} {Q : VK}
theorem r_shr {i j : Int} (h0 : 0 ≤ j) (h : Q (.int (i / 2 ^ j.toNat)) H) : rShr (.int i) (.int j) H Q := ⟨i, j, rfl, rfl, h0, h⟩
theorem r_shl {i j : Int} (hc : CShl i j) (h : Q (.int (i * 2 ^ j.toNat)) H) : rShl (.int i) (.int j) H Q := ⟨i, j, rfl, rfl, hc, h⟩
theorem r_pow {i j : Int} (hc : CPow i j) (h : Q (.int (i ^ j.toNat)) H) : rPow (.int i) (.int j) H Q := ⟨i, j, rfl, rfl, hc, h⟩
end
end M

/-! ### part J: a def whose last statement is super().__init__(..) -/
namespace M
open PySem PySem.Spec PyProof.Rows L2 Evl
namespace MS
open NdefX ClX
theorem execs_app (a b : List Stmt) (env : Env) : execs (a ++ b) env = (do match ← execs a env with | .next => execs b env | f => pure f) := by
  induction a with
  | nil => rw [List.nil_append, execs_nil, pure_bind]
  | cons st a ih =>
    rw [List.cons_append, execs_cons, execs_cons, bind_assoc]
    congr 1
    funext f
    cases f with
    | next => exact ih
    | _ => rw [pure_bind]
/-- what super().__init__ needs of the text: the class at D, its cell cc, the code object cda, the next __init__ at f2 -/
structure SupOf (P : Program) (K : PySem.W.Frag) (mg : Str → Option Value) (D cc cda f2 : Addr) : Prop where
  cell : ∃ cl cld csl, K.lookup cc = some ⟨cl, cld, .cell (some (.ref D)), csl⟩
  cls : ∃ cd, PySem.W.clsIn K D = some cd
  sub : PySem.W.mroIn K D (.ref D) = some true
  code : ∃ ccl cdd vs ccs file tf, K.lookup cda = some ⟨ccl, cdd, .fields vs, ccs⟩ ∧ vs[2]? = some (.str file tf) ∧ ((P.main.file : Str) == file) = true
  gl : mg "super" = none
  any : PySem.W.nsIn K cStatics "thirdparty.any" = some none
  nx : PySem.W.ks_superIn K D D "__init__" = some (some (.ref f2))
  ty : PySem.W.typeIn K (.ref f2) = some (.type "function")
  fi : PySem.W.fnIn K f2 = true
  top : (P.main.scope.names.lookup ("super" : Str)).isSome = false
section
variable {X : Cx} {pins : List (Addr × Obj)} {σ : L2.St} {H : Hp} {s : Shared} {D cc cda f f2 x dx : Addr} {fs : List (Str × V)} {sp2 : Sp} {k2 : Nat} {R : Hp → Prop}
theorem super_stmt {pl : Sem Bool} {ta : TE} {body : List Stmt} {p0 p1 p2 p3 p4 : Pos} {arg : Expr} {fd : FuncData} {of : Obj} {ar : Arg} (U : SupOf X.prog X.K X.mg D cc cda f2) (F2 : FnR X.prog X.w X.K X.mg X.base CX0 k2 f2 sp2) (hr : Room k2 X.A)
    (hks : X.env.kindOf "super" = some .globalImplicit) (hkc : X.env.kindOf "__class__" = some .free) (hfu : X.env.func = some f) (hf : X.K.lookup f = some of) (hfd : of.data = .func fd)
    (hp : (fd.params.posonlyargs ++ fd.params.args).head? = some ar) (har : X.env.scope.names.lookup ar.arg = some .local) (hN : X.N[0]? = some ar.arg) (hco : X.env.code = .ref cda) (hcl : X.env.cells.lookup ("__class__" : Str) = some cc)
    (ha : PE X arg ta) (I : Inv X pins σ H s) (hσ : σ[0]? = some (some (.ref x))) (hx : H x = some (.ins D dx fs))
    (h : ta σ H fun v H2 => sp2 [.ref x, v] H2 (fun _ H3 => R H3) E0)
    (he : starEach [arg] X.env = (false, eval arg X.env) :: starEach [] X.env := by rfl) (hpl : (backTo p3 (starEach ([] : List Expr) X.env)).any (·.1) = false := by rfl)
    (ht : eval (.Call (.Attribute (.Call (.Name "super" p0) [] [] p1) "__init__" p2) [arg] [] p3) X.env = (do
      let ov ← attributeBase (.Call (.Name "super" p0) [] [] p1) "__init__" X.env (eval (.Call (.Name "super" p0) [] [] p1) X.env)
      standAt p2.atName
      let (f, first) ← holding [ov] (getMethod ov "__init__" pl)
      callWith p3 f first (backTo p3 (starEach [arg] X.env)) []) := by rfl)
    (hi : interactive X.env = false := by rfl) (hs : swapsWith (.Call (.Attribute (.Call (.Name "super" p0) [] [] p1) "__init__" p2) [arg] [] p3) none p4.line X.env = pure false := by rfl) :
    PySem.wpAt (model X.prog X.w) X.A (.func body X.env) (exec (.Expr (.Call (.Attribute (.Call (.Name "super" p0) [] [] p1) "__init__" p2) [arg] [] p3) p4) X.env) (fun fl s' => fl = .next ∧ ∃ H', Inv X pins σ H' s' ∧ R H') X.xe s := by
  obtain ⟨cl, cld, csl, hcell⟩ := U.cell
  obtain ⟨cd, hD⟩ := U.cls
  obtain ⟨ccl, cdd, vs, ccs, file, tf, hcode, hvs, hfile⟩ := U.code
  have KX := I.kIn
  obtain ⟨oD, hD1, hD2⟩ : ∃ oD, s.heap.get? D = some oD ∧ oD.data = .cls cd := by
    have hD' := hD
    unfold PySem.W.clsIn at hD'
    split at hD'
    · rename_i c d cd' sl ho
      cases hD'
      exact ⟨_, KX _ _ ho, rfl⟩
    · cases hD'
  obtain ⟨mA, O, _⟩ := ins_get I.hok hx
  obtain ⟨od, J, _⟩ := O.look
  refine ks_wpAt_Expr_any ?_ hi hs
  refine ks_wpAt_MethodCall (pl := pl) ?_ ht
  refine ks_wpAt_super_base (env := X.env) hks hkc rfl hfu (KX _ _ hf) hfd hp hco (KX _ _ hcode) rfl hvs hfile U.top ?_
  obtain ⟨mb, h1, h2⟩ := I.mod.blt
  refine PySem.W.ks_loadName_global I.ok.kind hks (Calls.loadGlobal_builtin (by rw [I.ok.glob]; exact I.mod.glob.keeps I.bk) U.gl (by rw [I.ok.blt]; exact h1.keeps I.bk) ((h2 "super" (by decide)).trans (by decide +kernel)) ⟨rfl, ?_⟩)
  refine wpAny_loadName_free I.ok.kind hkc hcl ⟨_, KX _ _ hcell, rfl⟩ ?_
  obtain ⟨m, hn, hl⟩ := id I.loc
  obtain ⟨u, ru, lo⟩ := hl 0 ar.arg (.ref x) hN hσ (.inl har)
  cases (show u = Value.ref x from ru)
  have hm : m ar.arg = some (.ref x) := by
    rcases lo with ⟨_, hm⟩ | ⟨hk, _⟩
    · exact hm
    · rcases hk with hk | hk
      · have : X.env.scope.names.lookup ar.arg = some .cell := hk
        rw [har] at this; cases this
      · have : X.env.scope.names.lookup ar.arg = some .free := hk
        rw [har] at this; cases this
  refine wpAny_loadName_local I.ok.kind har hn hm ?_
  refine ks_wpAny_isType_cls hD1 hD2 ⟨rfl, ?_⟩
  obtain ⟨hh, g, d, t, os⟩ := s
  refine ks_wpAny_call_super hD1 hD2 J.at_ J.cls (fun c e => ?_) (PySem.W.looks_mroIn KX U.sub) (fun h' e k => ?_)
  · have := J.no
    unfold PySem.W.notCls at this
    rw [e] at this
    exact Bool.noConfusion this
  have I1 := pin_new (t' := t) I k (Nat.le_refl _) e (fun v z => by cases z)
  have KX1 := I1.kIn
  have hnx := U.nx
  unfold PySem.W.ks_superIn at hnx
  rw [hD] at hnx
  obtain ⟨of2, hof, hofc⟩ : ∃ of, h'.get? f2 = some of ∧ of.cls = .type "function" := by
    have ht' : (X.K.lookup f2).map (·.cls) = some (.type "function") := U.ty
    cases z : X.K.lookup f2 with
    | none => rw [z] at ht'; cases ht'
    | some of => rw [z] at ht'; exact ⟨of, KX1 _ _ z, Option.some.inj ht'⟩
  refine ks_wpAny_getMethod_super (l₀ := cd.mro) e (PySem.W.looks_opaque KX1 U.any) ?_ rfl KX1 hnx hof hofc (PySem.W.ks_ne KX J hD) (by decide) ?_
  · exact fun A Q E s k q => wpAny_bind ((PySem.W.looks_clsIn KX1 hD) A _ E s k (wpAny_pure q))
  have I2 := met_new (g := f2) (C := x) I1
  have h' : tCons ta tNil σ H (fun vs H2 => sp2 (.ref x :: vs) H2 (fun _ H3 => R H3) E0) := h
  refine callwith_cm I2 (base_none I1 (Nat.le_refl _)) U.fi (thn ((pa_cons ha pa_nil he).run p3 _ _ σ H _ I2 h') fun us s3 ⟨vs', H2, I3, rv, q2⟩ => ⟨⟨pin_at I3, I3.kIn⟩, ?_⟩) he hpl
  refine thn (run_cm F2 hr pass0 I3 rv q2) fun u s4 ⟨w, H3, I4, _, q3⟩ => ⟨rfl, H3, unpin I4, q3⟩
end
/-- a def whose last statement is super().__init__(arg) keeps its promise -/
theorem fnsup {P : Program} {w : World} {K : PySem.W.Frag} {mg : Str → Option Value} {base : Heap} {name qual self : Str} {params : Arguments} {body pre : List Stmt} {scope : Scope} {f cc cda D f2 : Addr} {fd : FuncData} {N ps : List Str} {k k2 : Nat} {sp sp2 : Sp} {arg : Expr} {p0 p1 p2 p3 p4 : Pos} {ar : Arg}
    (F : FunS K name qual params body scope f fd cc cda) (U : SupOf P K mg D cc cda f2) (F2 : FnR P w K mg base CX0 k2 f2 sp2) (hk : k2 ≤ k)
    (hbody : body = pre ++ [.Expr (.Call (.Attribute (.Call (.Name "super" p0) [] [] p1) "__init__" p2) [arg] [] p3) p4])
    (S : NScope N (self :: ps) ["__class__"] scope) (hks : scope.names.lookup ("super" : Str) = some .globalImplicit)
    (hp : (params.posonlyargs ++ params.args).head? = some ar) (hs : ar.arg = self) (hN : N[0]? = some self)
    (len : ∀ vs H Q E, sp vs H Q E → vs.length = (self :: ps).length)
    (hgo : ∀ (A : Around) (outer : List Env) (s : Shared) (H : Hp) (vs : List V) (Q : VK) (E : XK), Room k (A.deeper (envF ⟨name, qual, params, body, scope, [("__class__", cc)], cda⟩ f s.heap.objs.size)) → sp vs H Q E →
      ∃ t ta, PSs (ncx CX0 P w K mg base N ⟨name, qual, params, body, scope, [("__class__", cc)], cda⟩ f A outer s H E).nox pre t ∧ PE (ncx CX0 P w K mg base N ⟨name, qual, params, body, scope, [("__class__", cc)], cda⟩ f A outer s H E).nox arg ta ∧
        t { nx := fun σ H' => ∃ x dx fs, σ[0]? = some (some (.ref x)) ∧ H' x = some (.ins D dx fs) ∧ ta σ H' fun v H2 => sp2 [.ref x, v] H2 (fun _ H3 => Q .non H3) E0, rt := fun _ _ => False } (startF N vs [some (.ref D)]) H)
    (hst : ∀ (X : Cx), starEach [arg] X.env = (false, eval arg X.env) :: starEach [] X.env := by intro _; rfl) (hpl : ∀ (X : Cx), (backTo p3 (starEach ([] : List Expr) X.env)).any (·.1) = false := by intro _; rfl)
    {pl : Cx → Sem Bool}
    (ht : ∀ (X : Cx), eval (.Call (.Attribute (.Call (.Name "super" p0) [] [] p1) "__init__" p2) [arg] [] p3) X.env = (do
      let ov ← attributeBase (.Call (.Name "super" p0) [] [] p1) "__init__" X.env (eval (.Call (.Name "super" p0) [] [] p1) X.env)
      standAt p2.atName
      let (f, first) ← holding [ov] (getMethod ov "__init__" (pl X))
      callWith p3 f first (backTo p3 (starEach [arg] X.env)) []) := by intro _; rfl)
    (hsw : ∀ (X : Cx), swapsWith (.Call (.Attribute (.Call (.Name "super" p0) [] [] p1) "__init__" p2) [arg] [] p3) none p4.line X.env = pure false := by intro _; rfl) :
    FnOk P w K mg base CX0 (k + 1) f fd (self :: ps) sp := by
  obtain ⟨oc, od, dV, kV, doc, pm, an, ct, osl, rfl, lk, hcd, _⟩ := F.ex
  refine ⟨len, fun A outer s H args us vs Q E hr e0 hb r hsp => ?_⟩
  have KX : K.In s.heap := e0.mod.kin.keeps fun b o e => (e0.bs b o e).1
  have hl := len _ _ _ _ hsp
  have lim : s.heap.NoLimit := e0.mod.nolimit.keeps fun b o e => (e0.bs b o e).1
  obtain ⟨cl, cld, csl, hcell⟩ := U.cell
  refine codeAny_call_function hr.depth (KX _ _ lk) rfl S.co S.gen rfl (PySem.W.codeRec_of KX hcd) (hb _ _ _ _ ?_)
  refine wpAny_newFunctionEnv S.nocell (fun ⟨n, _⟩ hy => S.par n (List.of_mem_zip hy).1) (fun h₁ hns hsb => ⟨lim.fresh _ hsb, ?_⟩) S.kind
  show codeAny _ _ (.func body (envF ⟨name, qual, params, body, scope, [("__class__", cc)], cda⟩ f s.heap.objs.size)) _ _
  refine ks_codeAny_funcAt ?_
  have kp : ∀ b o, s.heap.get? b = some o → h₁.get? b = some o := fun b o e => hsb.extBut b o (Nat.ne_of_lt (Heap.lt_size e)) (Heap.get?_push_of_some _ e)
  have hcc : H cc = none := (e0.bs _ _ (e0.mod.kin _ _ hcell)).2
  have look1 : ∀ y c, List.lookup y [(("__class__" : Str), cc)] = some c → y = "__class__" ∧ c = cc := fun y c e => by
    unfold List.lookup at e
    split at e
    · rename_i q
      cases e
      exact ⟨beq_iff_eq.mp q, rfl⟩
    · cases e
  have C : CellsAt [(("__class__" : Str), cc)] ["__class__"] [some (.ref D)] s.heap H := by
    refine ⟨rfl, fun y c e => ?_, fun x y c e e' => ?_, fun i y e => ?_⟩
    · obtain ⟨_, rfl⟩ := look1 y c e
      exact ⟨hcc, _, ⟨_, KX _ _ hcell, rfl⟩⟩
    · exact (look1 _ _ e).1.trans (look1 _ _ e').1.symm
    · rcases i with _ | i
      · cases e
        refine ⟨cc, by unfold List.lookup; rw [beq_self_eq_true], fun v e => ?_⟩
        cases e
        exact ⟨.ref D, rfl, ⟨_, KX _ _ hcell, rfl⟩⟩
      · cases e
  have hroom := hr.deeper (envF ⟨name, qual, params, body, scope, [("__class__", cc)], cda⟩ f s.heap.objs.size)
  obtain ⟨t, ta, h1, h2, h3⟩ := hgo A outer s H vs Q E hroom hsp
  have I : Inv (ncx CX0 P w K mg base N ⟨name, qual, params, body, scope, [("__class__", cc)], cda⟩ f A outer s H E) [] (startF N vs [some (.ref D)]) H { s with heap := h₁, toks := s.toks + ((self :: ps).zip us).length } := inv_startN S hr.hd e0 hl r C hns kp
  have ebody : execs body (envF ⟨name, qual, params, body, scope, [("__class__", cc)], cda⟩ f s.heap.objs.size) = execs (pre ++ [.Expr (.Call (.Attribute (.Call (.Name "super" p0) [] [] p1) "__init__" p2) [arg] [] p3) p4]) (envF ⟨name, qual, params, body, scope, [("__class__", cc)], cda⟩ f s.heap.objs.size) := congrArg (fun b => execs b _) hbody
  rw [ebody, execs_app]
  refine _root_.PySem.wpAt_bind (_root_.PySem.wpAt_of_wpAny (wpAny_mono (h1.nox.run [] _ _ H _ I h3) (fun fl s' hs' => ?_) fun e s' he => he))
  have fin : ∀ {σ' : L2.St} {H' : Hp} {v : V} {u : Value} {s' : Shared}, Inv (ncx CX0 P w K mg base N ⟨name, qual, params, body, scope, [("__class__", cc)], cda⟩ f A outer s H E) [] σ' H' s' → L2.RelV v u → Q v H' → CE outer P w H s Q u s' :=
    fun {σ' H' v u s'} J rv q => ⟨v, H', J.os, J.bare, J.base, J.hok, rv, q⟩
  cases fl with
  | ret u =>
    obtain ⟨_, _, _, _, _, q⟩ := hs'
    exact q.elim
  | next =>
    obtain ⟨σ', H', J, x, dx, fs, hσ, hx, hta⟩ := hs'
    refine ks_wpAt_execs_cons (ks_wpAt_mono (super_stmt (X := ncx CX0 P w K mg base N ⟨name, qual, params, body, scope, [("__class__", cc)], cda⟩ f A outer s H E) (f := f) (cda := cda) (cc := cc) (D := D) (R := fun H3 => Q .non H3) U F2 (hroom.mono hk) hks (S.frk _ List.mem_cons_self) rfl lk rfl hp (by rw [hs]; exact S.par _ List.mem_cons_self) (by rw [hs]; exact hN) rfl (by show List.lookup ("__class__" : Str) [(("__class__" : Str), cc)] = some cc; unfold List.lookup; rw [beq_self_eq_true]) h2.nox J hσ hx hta (hst _) (hpl _) (ht _) (by show interactive (envF ⟨name, qual, params, body, scope, [("__class__", cc)], cda⟩ f s.heap.objs.size) = false; unfold interactive; rw [show (envF ⟨name, qual, params, body, scope, [("__class__", cc)], cda⟩ f s.heap.objs.size).scope.kind = .function from S.kind]; first | rfl | decide) (hsw _)) (fun fl2 s2 h4 => ?_) fun e s2 h4 => h4)
    obtain ⟨rfl, H3, J3, q3⟩ := h4
    exact _root_.PySem.wpAt_of_wpAny (wpAny_pure (fin (v := .non) (u := Value.none) J3 rfl q3))
  | brk =>
    obtain ⟨_, _, _, q⟩ := hs'
    exact q.elim
  | cont =>
    obtain ⟨_, _, _, q⟩ := hs'
    exact q.elim
end MS
open MS
/-- what the text must have for super().__init__, told by a Bool -/
def cellB (K : PySem.W.Frag) (c D : Addr) : Bool := match K.lookup c with
  | some ⟨_, _, .cell (some (.ref d)), _⟩ => d == D
  | _ => false
theorem cellB_ok {K : PySem.W.Frag} {c D : Addr} (h : cellB K c D = true) : ∃ cl cld csl, K.lookup c = some ⟨cl, cld, .cell (some (.ref D)), csl⟩ := by
  unfold cellB at h
  split at h
  · rename_i e
    rw [beq_iff_eq.mp h] at e
    exact ⟨_, _, _, e⟩
  · cases h
def codeB (mf : Str) (K : PySem.W.Frag) (c : Addr) : Bool := match K.lookup c with
  | some ⟨_, _, .fields vs, _⟩ => (match (vs[2]? : Option Value) with
    | some (Value.str f _) => mf == f
    | _ => false)
  | _ => false
theorem codeB_ok {mf : Str} {K : PySem.W.Frag} {c : Addr} (h : codeB mf K c = true) : ∃ ccl cdd vs ccs file tf, K.lookup c = some ⟨ccl, cdd, .fields vs, ccs⟩ ∧ vs[2]? = some (.str file tf) ∧ (mf == file) = true := by
  unfold codeB at h
  split at h
  · rename_i e
    split at h
    · rename_i e2
      exact ⟨_, _, _, _, _, _, e, e2, h⟩
    · cases h
  · cases h
def someNone (o : Option (Option Value)) : Bool := match o with
  | some none => true
  | _ => false
theorem someNone_ok {o : Option (Option Value)} (h : someNone o = true) : o = some none := by
  unfold someNone at h
  split at h
  · rfl
  · cases h
def supB0 (mf : Str) (K : PySem.W.Frag) (D f f2 : Addr) : Bool := cellB K (cellOf K f) D && ((PySem.W.clsIn K D).isSome && (decide (PySem.W.mroIn K D (.ref D) = some true) && (codeB mf K (codeOf K f) && (someNone (PySem.W.nsIn K cStatics "thirdparty.any") &&
  (He.eqO (PySem.W.ks_superIn K D D "__init__") (some (some (.ref f2))) && (decide (PySem.W.typeIn K (.ref f2) = some (.type "function")) && PySem.W.fnIn K f2))))))
theorem supB0_ok {P : Program} {K : PySem.W.Frag} {mg : Str → Option Value} {D f f2 : Addr} (mf : Str) (pf : ((P.main.file : Str) == mf) = true) (top : (P.main.scope.names.lookup ("super" : Str)).isSome = false) (gl : mg "super" = none) (h : supB0 mf K D f f2 = true) : SupOf P K mg D (cellOf K f) (codeOf K f) f2 := by
  unfold supB0 at h
  simp only [Bool.and_eq_true] at h
  obtain ⟨h1, h2, h3, h4, h5, h6, h7, h8⟩ := h
  refine ⟨cellB_ok h1, Option.isSome_iff_exists.mp h2, of_decide_eq_true h3, ?_, gl, someNone_ok h5, He.eqO_ok h6, of_decide_eq_true h7, h8, top⟩
  rw [beq_iff_eq.mp pf]
  exact codeB_ok h4
theorem FunS.bindsN {K : PySem.W.Frag} {x qual : Str} {params : Arguments} {body : List Stmt} {scope : Scope} {f cc cda : Addr} {fd : FuncData} {ps : List Str} (F : FunS K x qual params body scope f fd cc cda)
    (h : ∀ (kV doc pm : Value) (an : Option Addr) (cdv ct : Value) (us : List Value), us.length = ps.length → bindArgs (PySem.W.ksFn x qual params body scope .none kV doc pm an cdv ct cc) ⟨us, []⟩ = pure (ps.zip us)) : Binds K fd ps [] := by
  obtain ⟨oc, od, dV, kV, doc, pm, an, ct, osl, rfl, lk, hcd, hD⟩ := F.ex
  rcases hD with ⟨_, rfl⟩ | ⟨e, _⟩
  · exact .all (h kV doc pm an (.ref cda) ct)
  · exact absurd rfl e
end M

/-! ### part K: the greatest of three ints, the least of a list, truth of an instance -/
namespace M
open PySem PySem.Spec PyProof.Rows L2 Evl
section
variable {X : Cx} {H : Hp} {Q : VK}
def rMax3U : List V → Hp → VK → Prop := fun xs H Q => ∃ i j k, xs = [.int i, .int j, .int k] ∧ Q (.int (max (max i j) k)) H
theorem xMax3 (hc : X.calm = true) : CallR X (.builtin "max") rMax3U := by
  intro pins s σ H xs us Q I r h
  obtain ⟨i, j, k, rfl, q⟩ := h
  have m2 : ∀ a b : Int, nuMax2 (.int a) (.int b) = some (.int (max a b)) := fun a b => by
    show Option.map _ (some (decide (a < b))) = _
    by_cases c : a < b
    · rw [decide_eq_true c, Int.max_eq_right (by omega)]; rfl
    · rw [decide_eq_false c, Int.max_eq_left (by omega)]; rfl
  exact call_max3Nu hc pins s σ H _ us Q I r ⟨_, _, _, _, rfl, by unfold nuMax3; rw [m2]; exact m2 _ _, q⟩
theorem r_max3 {i j k : Int} (q : Q (.int (max (max i j) k)) H) : rMax3U [.int i, .int j, .int k] H Q := ⟨i, j, k, rfl, q⟩
theorem kMinL (K : PySem.W.Frag) (hc : X.calm = true) (h : X.K = K := by rfl) : CallR X (.builtin "min") (rMin K) := by subst h; exact cr_min hc
theorem kMaxL (K : PySem.W.Frag) (hc : X.calm = true) (h : X.K = K := by rfl) : CallR X (.builtin "max") (rMax K) := by subst h; exact cr_max hc
theorem r_minL {K : PySem.W.Frag} {a : Addr} {ns : List Int} (h : SqL K H a (vI ns)) (hn : 0 < ns.length) (q : ∀ m, m ∈ ns → (∀ y, y ∈ ns → m ≤ y) → Q (.int m) H) : rMin K [.ref a] H Q := ⟨a, ns, rfl, h, hn, q⟩
theorem r_maxL {K : PySem.W.Frag} {a : Addr} {ns : List Int} (h : SqL K H a (vI ns)) (hn : 0 < ns.length) (q : ∀ m, m ∈ ns → (∀ y, y ∈ ns → y ≤ m) → Q (.int m) H) : rMax K [.ref a] H Q := ⟨a, ns, rfl, h, hn, q⟩
end
end M

/-! ### part L: static methods of a class -/
namespace M
open PySem PySem.Spec PyProof.Rows L2 Evl
def smF (x m : Str) (K : PySem.W.Frag) : Addr := match PySem.W.recIn K (He.ma K (He.ga K x) m) "staticmethod" with
  | some (.ref f :: _) => f
  | _ => 0
structure SMet (K : PySem.W.Frag) (C : Addr) (m : Str) (p g : Addr) : Prop where
  rd : ClX.CRead K C (.type "type")
  at_ : PySem.W.findCls K (.ref C) (.type "type") m = some (.get (.builtin "staticmethod.__get__") (.ref p) .none (.ref C))
  rc : ∃ rest, PySem.W.recIn K p "staticmethod" = some (.ref g :: rest)
  kp : PySem.W.keepIn K (.ref g) = true
def smB (x m : Str) (K : PySem.W.Frag) : Bool := (match PySem.W.findCls K (.ref (He.ga K x)) (.type "type") m with
    | some (.get (.builtin g) (.ref p) .none (.ref D)) => decide (g = "staticmethod.__get__") && (decide (p = He.ma K (He.ga K x) m) && decide (D = He.ga K x))
    | _ => false) && ((match PySem.W.recIn K (He.ma K (He.ga K x) m) "staticmethod" with
    | some (.ref _ :: _) => true
    | _ => false) && (PySem.W.keepIn K (.ref (smF x m K)) && (PySem.W.readsIn K (He.ga K x) (.type "type") && He.eqO (PySem.W.specialIn K (.ref (He.ga K x)) "__getattribute__") (some (some (.builtin "type.__getattribute__"))))))
theorem smB_ok {x m : Str} {K : PySem.W.Frag} (h : smB x m K = true) : SMet K (He.ga K x) m (He.ma K (He.ga K x) m) (smF x m K) := by
  obtain ⟨h1, h⟩ := Bool.and_eq_true_iff.mp h
  obtain ⟨h2, h⟩ := Bool.and_eq_true_iff.mp h
  obtain ⟨h3, h⟩ := Bool.and_eq_true_iff.mp h
  obtain ⟨h4, h5⟩ := Bool.and_eq_true_iff.mp h
  refine ⟨⟨h4, He.eqO_ok h5⟩, ?_, ?_, h3⟩
  · clear h2 h3
    split at h1
    · rename_i g p D e
      obtain ⟨k1, k⟩ := Bool.and_eq_true_iff.mp h1
      obtain ⟨k2, k3⟩ := Bool.and_eq_true_iff.mp k
      rw [e, of_decide_eq_true k1, of_decide_eq_true k2, of_decide_eq_true k3]
    · cases h1
  · unfold smF
    split at h2
    · rename_i f r e
      exact ⟨r, by rw [e]⟩
    · cases h2
/-- C.m(..), m a staticmethod of the class at C -/
def tSMeth (C : Addr) (sp : Sp) (E : XK) (ta : TE) (t : TA) : TE := fun σ H Q => ta σ H fun x H1 => x = .ref C ∧ t σ H1 fun vs H2 => sp vs H2 Q E
theorem w_smeth {C : Addr} {sp : Sp} {E : XK} {t : TA} {σ : L2.St} {H : Hp} {Q : VK} (h : t σ H fun vs H2 => sp vs H2 Q E) : tSMeth C sp E (tC (.ref C)) t σ H Q := ⟨rfl, h⟩
structure Stm (P : Program) (w : World) (K : PySem.W.Frag) (mg : Str → Option Value) (base : Heap) (k : Nat) (C : Addr) (m : Str) (sp : Sp) : Prop where
  ex : ∃ (p g : Addr) (fd : FuncData) (ps : List Str), SMet K C m p g ∧ FnOk P w K mg base CX0 k g fd ps sp ∧ Binds K fd ps []
section
variable {X : Cx} {CX : CXT} {k j : Nat} {C p g : Addr} {sp : Sp} {E : XK} {o e : Expr} {es : List Expr} {m : Str} {pos apos : Pos} {ta : TE} {t : TA} {pl : Sem Bool}
theorem pe_smeth (he : PE X o ta) (c : SMet X.K C m p g) (F : FnR X.prog X.w X.K X.mg X.base CX k g sp) (hr : Room k X.A) (hx : Passes CX X E) (ha : PA X (e :: es) t)
    (hst : starEach (e :: es) X.env = (false, eval e X.env) :: starEach es X.env := by rfl) (hpl : (backTo pos (starEach es X.env)).any (·.1) = false := by rfl)
    (ht : eval (.Call (.Attribute o m apos) (e :: es) [] pos) X.env = (do
      let ov ← eval o X.env
      standAt apos.atName
      let (f, first) ← holding [ov] (getMethod ov m pl)
      callWith pos f first (backTo pos (starEach (e :: es) X.env)) (backToKw pos (keywordEach [] X.env))) := by rfl) :
    PE X (.Call (.Attribute o m apos) (e :: es) [] pos) (tSMeth C sp E ta t) := by
  refine ⟨fun pins s σ H Q I h => ?_⟩
  refine PySem.W.methodCall_KW (pl := pl) (thn (he.run pins s σ H _ I h) fun u s1 ⟨x, H1, I1, rx, ex, q⟩ => ?_) ht
  subst ex
  obtain rfl : u = Value.ref C := rx
  obtain ⟨rest, hp⟩ := c.rc
  refine PySem.W.method_cls I1.kIn c.rd.ga (PySem.W.cls_bind I1.kIn c.rd.rd c.at_ ?_)
  refine wpAny_call (PySem.W.sm_get (s := { s1 with toks := s1.toks + 1 }) I1.kIn hp (PySem.W.handed_on rfl ?_))
  have I2 := I1.tok (s1.toks + 1)
  refine PySem.W.callWith_K (h₀ := X.base) I.ok.mod.kin c.kp (thn (ha.run pos pins _ σ H1 _ I2 q) fun us s3 ⟨vs, H2, I3, rv, q2⟩ => ⟨I3.kIn, ?_⟩) hst hpl
  exact wpAny_call (run_fnR F hr hx I3 rv q2)
theorem psm (c : Stm X.prog X.w X.K X.mg X.base k C m sp) (hr : Room j X.A) (hk : k ≤ j) (he : PE X o ta) (ha : PA X (e :: es) t)
    (hst : starEach (e :: es) X.env = (false, eval e X.env) :: starEach es X.env := by rfl) (hpl : (backTo pos (starEach es X.env)).any (·.1) = false := by rfl)
    (ht : eval (.Call (.Attribute o m apos) (e :: es) [] pos) X.env = (do
      let ov ← eval o X.env
      standAt apos.atName
      let (f, first) ← holding [ov] (getMethod ov m pl)
      callWith pos f first (backTo pos (starEach (e :: es) X.env)) (backToKw pos (keywordEach [] X.env))) := by rfl) :
    PE X (.Call (.Attribute o m apos) (e :: es) [] pos) (tSMeth C sp E0 ta t) := by
  obtain ⟨p, g, fd, ps, sm, F, hb⟩ := c.ex
  exact pe_smeth (pl := pl) he sm ((F.raw hb .nil).imp fun vs H Q E h => by rw [List.append_nil]; exact h) (hr.mono hk) pass0 ha hst hpl ht
end
end M

namespace M
open PySem PySem.Spec PyProof.Rows L2 Evl MS
--@import HandS.Text
--@import HandS.Iter
--@import HandS.Walk
/-! texts: comparing, joining, splitting, reading and writing numbers, walking the signs -/
def rLeU : R2 := fun x y H Q => rI0 (fun i j => .bl (decide (i ≤ j))) x y H Q ∨ ∃ i j, x = .str i ∧ y = .str j ∧ Q (.bl (!decide (j.cps.toList < i.cps.toList))) H
theorem xLeS {X : Cx} : OpR X (compareOp .LtE) rLeU := op_le.or op_le_str
def rJoin (K : PySem.W.Frag) : V → List V → Hp → VK → Prop := fun x xs H Q => ∃ a p, ∃ ys : List Str, x = .str a ∧ xs = [.ref p] ∧ (SqL K H p (ys.map V.str) ∨ SqT K H p (ys.map V.str)) ∧ (ys.map (·.length)).sum + ys.length * a.length ≤ 16777216 ∧ Q (.str (Txt.join a ys)) H
def rSplit : V → List V → Hp → VK → Prop := fun x xs H Q => ∃ a b, x = .str a ∧ xs = [.str b] ∧ (b.length == 0) = false ∧ a.length + 2 ≤ sizeLine ∧ rNewStrs (Txt.split a b) H Q
section
variable {X : Cx} {o e : Expr} {to te : TE} {apos pos : Pos}
theorem kJoin (K : PySem.W.Frag) (ho : PE X o to) (he : PE X e te) (hs : starEach [e] X.env = [(false, eval e X.env)] := by rfl) (hbase : attributeBase o "join" X.env (eval o X.env) = eval o X.env := by rfl) (hline : (apos.endLine == pos.line) = true := by rfl) (h : X.K = K := by rfl) :
    PE X (.Call (.Attribute o "join" apos) [e] [] pos) (tM1 (rJoin K) to te) := by subst h; exact pe_join ho he hs hbase hline
theorem xSplit (ho : PE X o to) (he : PE X e te) (hs : starEach [e] X.env = [(false, eval e X.env)] := by rfl) (hbase : attributeBase o "split" X.env (eval o X.env) = eval o X.env := by rfl) (hline : (apos.endLine == pos.line) = true := by rfl) :
    PE X (.Call (.Attribute o "split" apos) [e] [] pos) (tM1 rSplit to te) := pe_split ho he hs hbase hline
end
def rIntS : List V → Hp → VK → Prop := fun xs H Q => ∃ a n, xs = [.str a] ∧ PySem.intText? a = some n ∧ a.length ≤ 640 ∧ Q (.int n) H
theorem xIntS {X : Cx} : CallR X (.type "int") rIntS := call_int_str
def rStrI : List V → Hp → VK → Prop := fun xs H Q => ∃ i, xs = [.int i] ∧ i.natAbs.log2 < 1920 ∧ Q (.str (toString i)) H
theorem xStrI {X : Cx} : CallR X (.type "str") rStrI := call_str_int
def rLenS : List V → Hp → VK → Prop := fun xs H Q => ∃ z, xs = [.str z] ∧ z.length ≤ sizeLine ∧ Q (.int z.length) H
theorem xLenS {X : Cx} : CallR X (.builtin "len") rLenS := call_len_str
theorem kFldAug (K : PySem.W.Frag) {X : Cx} {o value : Expr} {f : Str} {op : Operator} {pos tpos : Pos} {ta tv : TE} {rd : V → V → Hp → VK → Prop} (ha : PE X o ta) (hv : PE X value tv) (hop : InOp X op rd) (h : X.K = K := by rfl) : PS X (.AugAssign (.Attribute o f tpos) op value pos) (sFldAug K ta tv rd f) := by
  subst h
  exact ps_fldaug ha hv hop
section
variable {K : PySem.W.Frag} {H : Hp} {Q : VK} {σ : L2.St}
theorem r_leUI {i j : Int} (h : Q (.bl (decide (i ≤ j))) H) : rLeU (.int i) (.int j) H Q := .inl ⟨i, j, rfl, rfl, h⟩
theorem r_leUS {i j : Str} (h : Q (.bl (!decide (j.cps.toList < i.cps.toList))) H) : rLeU (.str i) (.str j) H Q := .inr ⟨i, j, rfl, rfl, h⟩
theorem w_m1 {r : V → List V → Hp → VK → Prop} {to te : TE} (h : to σ H fun x H1 => (∃ a, x = .str a) ∧ te σ H1 fun y H2 => r x [y] H2 Q) : tM1 r to te σ H Q := h
theorem r_joinL {a : Str} {p : Addr} {ys : List Str} (h : SqL K H p (ys.map V.str)) (hz : (ys.map (·.length)).sum + ys.length * a.length ≤ 16777216) (q : Q (.str (Txt.join a ys)) H) : rJoin K (.str a) [.ref p] H Q := ⟨a, p, ys, rfl, rfl, .inl h, hz, q⟩
theorem r_split {a b : Str} (hb : (b.length == 0) = false) (hz : a.length + 2 ≤ sizeLine) (q : ∀ p H1, H p = none → Ex H H1 → H1 p = some (.lst ((Txt.split a b).map V.str)) → Q (.ref p) H1) : rSplit (.str a) [.str b] H Q :=
  ⟨a, b, rfl, rfl, hb, hz, fun p hp => q p _ hp (Ex.new hp) upd_same⟩
theorem r_strI {i : Int} (hz : i.natAbs.log2 < 1920) (q : Q (.str (toString i)) H) : rStrI [.int i] H Q := ⟨i, rfl, hz, q⟩
theorem r_intS {a : Str} {n : Int} (hn : PySem.intText? a = some n) (hz : a.length ≤ 640) (q : Q (.int n) H) : rIntS [.str a] H Q := ⟨a, n, rfl, hn, hz, q⟩
theorem r_lenS {a : Str} (hz : a.length ≤ sizeLine) (q : Q (.int a.length) H) : rLenS [.str a] H Q := ⟨a, rfl, hz, q⟩
theorem r_ixS {z : Str} {i : Int} {c : Nat} (hz : z.length ≤ sizeLine) (ha : atI z.cps.toList i = some c) (q : Q (.str ⟨#[c]⟩) H) : rIx K (.str z) (.int i) H Q := .inr (.inr ⟨z, i, c, rfl, rfl, hz, ha, q⟩)
theorem w_fldAug {a C dx dx' : Addr} {fs fs' : List (Str × V)} {ta tv : TE} {rd : V → V → Hp → VK → Prop} {f : Str} {D : Ends}
    (h : ta σ H fun x H1 => ∃ a C dx fs v, x = .ref a ∧ H1 a = some (.ins C dx fs) ∧ Cls K C ∧ NoAttr K C f ∧ fs.lookup f = some v ∧ tv σ H1 fun y H2 => rd v y H2 fun z H3 => ∃ dx' fs', H3 a = some (.ins C dx' fs') ∧ fs'.length < 1000 ∧ D.nx σ (upd H3 a (.ins C dx' (putF f z fs')))) : sFldAug K ta tv rd f D σ H := h
theorem i_str {te : TE} {R : It → Hp → Prop} (h : te σ H fun v H1 => ∃ x, v = .str x ∧ R (Its x) H1) : iStr te σ H R := h
/-- a comprehension over a text's signs -/
theorem lcJ_str {z : Str} {j : Nat} {te : TE} {vs : List Nat} (v : Nat → V) (hn : z.cps.size ≤ 100000) (σ' : V → L2.St) (hσ : ∀ x, (wipe σ vs).set j (some x) = σ' x) (hw : ∀ x, wipe ((wipe σ vs).set j (some x)) vs = wipe σ vs)
    (he : ∀ (c : Nat) (H1 : Hp) (Q' : VK), Ex H H1 → c ∈ z.cps.toList → (∀ H2, Ex H1 H2 → Q' (v c) H2) → te (σ' (.str ⟨#[c]⟩)) H1 Q')
    (hq : ∀ p H2, H p = none → Ex H H2 → H2 p = some (.lst (z.cps.toList.map v)) → Q (.ref p) H2) : LcJ (Its z) (gName j) tYes te vs σ H Q := fun D hD => by
  have hsz : z.cps.toList.length = z.cps.size := Array.length_toList
  have key := lc_it (J := Its z) (n := z.cps.size) (G := fun _ => True) (Y := fun i H x H' => H' = H ∧ ∃ c, z.cps[i]? = some c ∧ x = .str ⟨#[c]⟩) ⟨fun _ _ hi _ => hi, fun _ _ => Nat.le_refl _, fun _ _ _ _ _ _ y => y⟩
    (g := gName j) (tt := tYes) (te := te) (vs := vs) (σ := σ) (H1 := H) (D := D) (Qd := Q (.ref D)) (fun i H' => Ex H H' ∧ H' D = some (.lst ((z.cps.toList.take i).map v))) ⟨Ex.new hD, upd_same⟩ (fun _ _ _ _ => trivial) ?_ (fun H' p => hq D H' hD p.1 (by
      have e := p.2
      rwa [← hsz, List.take_length] at e))
  · exact key
  · rintro i x H' H'' hi p ⟨rfl, c, hc, rfl⟩
    refine ⟨hw _, ?_⟩
    show te ((wipe σ vs).set j _) H'' _
    rw [hσ]
    have hcl : z.cps.toList[i]? = some c := by rw [Array.getElem?_toList]; exact hc
    refine he c H'' _ p.1 (List.mem_of_getElem? hcl) fun H2 e2 => ⟨(z.cps.toList.take i).map v, e2 D _ p.2, sz_lt (by rw [List.length_map, List.length_take]; omega), Ex.mut (p.1.trans e2) hD, ?_⟩
    rw [List.take_add_one, hcl, List.map_append]
    exact upd_same
end

end M
namespace M
open PySem PySem.Spec PyProof.Rows L2 Evl MS
def top (i : Nat) : Stmt := PySem.Challenge.pw_rosterneed_k10_whole_tables_read.main.body.getD i (.Pass ⟨0, 0, 0, 0⟩)
def mainFile : Str := PySem.Challenge.pw_rosterneed_k10_whole_tables_read.main.file
abbrev s_is_integer : Stmt := top 10
def d_is_integer : DX := ⟨fun K => He.ga K "is_integer", "is_integer", "is_integer", defArgs s_is_integer, defBody s_is_integer, defScope s_is_integer, [], false⟩
abbrev s_is_count : Stmt := top 11
def d_is_count : DX := ⟨fun K => He.ga K "is_count", "is_count", "is_count", defArgs s_is_count, defBody s_is_count, defScope s_is_count, [], false⟩
abbrev s_is_listed : Stmt := top 12
def d_is_listed : DX := ⟨fun K => He.ga K "is_listed", "is_listed", "is_listed", defArgs s_is_listed, defBody s_is_listed, defScope s_is_listed, [], false⟩
abbrev s_is_counts : Stmt := top 13
def d_is_counts : DX := ⟨fun K => He.ga K "is_counts", "is_counts", "is_counts", defArgs s_is_counts, defBody s_is_counts, defScope s_is_counts, [], false⟩
abbrev s_deep : Stmt := top 14
def d_deep : DX := ⟨fun K => He.ga K "deep", "deep", "deep", defArgs s_deep, defBody s_deep, defScope s_deep, [], false⟩
abbrev s_common_divisor : Stmt := top 18
def d_common_divisor : DX := ⟨fun K => He.ga K "common_divisor", "common_divisor", "common_divisor", defArgs s_common_divisor, defBody s_common_divisor, defScope s_common_divisor, [], false⟩
abbrev s_end_of : Stmt := top 21
def d_end_of : DX := ⟨fun K => He.ga K "end_of", "end_of", "end_of", defArgs s_end_of, defBody s_end_of, defScope s_end_of, [], false⟩
abbrev s_value_at : Stmt := top 22
def d_value_at : DX := ⟨fun K => He.ga K "value_at", "value_at", "value_at", defArgs s_value_at, defBody s_value_at, defScope s_value_at, [], false⟩
abbrev s_short_loop : Stmt := top 23
def d_short_loop : DX := ⟨fun K => He.ga K "short_loop", "short_loop", "short_loop", defArgs s_short_loop, defBody s_short_loop, defScope s_short_loop, [], false⟩
abbrev s_plain_form : Stmt := top 24
def d_plain_form : DX := ⟨fun K => He.ga K "plain_form", "plain_form", "plain_form", defArgs s_plain_form, defBody s_plain_form, defScope s_plain_form, [], false⟩
abbrev s_formed : Stmt := top 25
def d_formed : DX := ⟨fun K => He.ga K "formed", "formed", "formed", defArgs s_formed, defBody s_formed, defScope s_formed, [], false⟩
abbrev s_until_never : Stmt := top 26
def d_until_never : DX := ⟨fun K => He.ga K "until_never", "until_never", "until_never", defArgs s_until_never, defBody s_until_never, defScope s_until_never, [], false⟩
abbrev s_first_beyond : Stmt := top 27
def d_first_beyond : DX := ⟨fun K => He.ga K "first_beyond", "first_beyond", "first_beyond", defArgs s_first_beyond, defBody s_first_beyond, defScope s_first_beyond, [], false⟩
abbrev s_behind_raw : Stmt := top 28
def d_behind_raw : DX := ⟨fun K => He.ga K "behind_raw", "behind_raw", "behind_raw", defArgs s_behind_raw, defBody s_behind_raw, defScope s_behind_raw, [], false⟩
abbrev s_is_rising : Stmt := top 35
def d_is_rising : DX := ⟨fun K => He.ga K "is_rising", "is_rising", "is_rising", defArgs s_is_rising, defBody s_is_rising, defScope s_is_rising, [], false⟩
abbrev s_checked_table : Stmt := top 36
def d_checked_table : DX := ⟨fun K => He.ga K "checked_table", "checked_table", "checked_table", defArgs s_checked_table, defBody s_checked_table, defScope s_checked_table, [], false⟩
abbrev s_table_from : Stmt := top 38
def d_table_from : DX := ⟨fun K => He.ga K "table_from", "table_from", "table_from", defArgs s_table_from, defBody s_table_from, defScope s_table_from, [], false⟩
abbrev s_write_table : Stmt := top 41
def d_write_table : DX := ⟨fun K => He.ga K "write_table", "write_table", "write_table", defArgs s_write_table, defBody s_write_table, defScope s_write_table, [], false⟩
abbrev s_number_of : Stmt := top 42
def d_number_of : DX := ⟨fun K => He.ga K "number_of", "number_of", "number_of", defArgs s_number_of, defBody s_number_of, defScope s_number_of, [], false⟩
abbrev s_read_table : Stmt := top 44
def d_read_table : DX := ⟨fun K => He.ga K "read_table", "read_table", "read_table", defArgs s_read_table, defBody s_read_table, defScope s_read_table, [], false⟩
abbrev s__law_source : Stmt := top 46
def d__law_source : DX := ⟨fun K => He.ga K "_law_source", "_law_source", "_law_source", defArgs s__law_source, defBody s__law_source, defScope s__law_source, [], false⟩
abbrev s__law_pick : Stmt := top 47
def d__law_pick : DX := ⟨fun K => He.ga K "_law_pick", "_law_pick", "_law_pick", defArgs s__law_pick, defBody s__law_pick, defScope s__law_pick, [], false⟩
abbrev s__law_is_integer : Stmt := top 48
def d__law_is_integer : DX := ⟨fun K => He.ga K "_law_is_integer", "_law_is_integer", "_law_is_integer", defArgs s__law_is_integer, defBody s__law_is_integer, defScope s__law_is_integer, [], false⟩
abbrev s__law_is_count : Stmt := top 49
def d__law_is_count : DX := ⟨fun K => He.ga K "_law_is_count", "_law_is_count", "_law_is_count", defArgs s__law_is_count, defBody s__law_is_count, defScope s__law_is_count, [], false⟩
abbrev s__law_rising : Stmt := top 50
def d__law_rising : DX := ⟨fun K => He.ga K "_law_rising", "_law_rising", "_law_rising", defArgs s__law_rising, defBody s__law_rising, defScope s__law_rising, [], false⟩
abbrev s__law_raw : Stmt := top 51
def d__law_raw : DX := ⟨fun K => He.ga K "_law_raw", "_law_raw", "_law_raw", defArgs s__law_raw, defBody s__law_raw, defScope s__law_raw, [], false⟩
abbrev s__law_end : Stmt := top 52
def d__law_end : DX := ⟨fun K => He.ga K "_law_end", "_law_end", "_law_end", defArgs s__law_end, defBody s__law_end, defScope s__law_end, [], false⟩
abbrev s__law_at : Stmt := top 53
def d__law_at : DX := ⟨fun K => He.ga K "_law_at", "_law_at", "_law_at", defArgs s__law_at, defBody s__law_at, defScope s__law_at, [], false⟩
abbrev s__law_gcd : Stmt := top 54
def d__law_gcd : DX := ⟨fun K => He.ga K "_law_gcd", "_law_gcd", "_law_gcd", defArgs s__law_gcd, defBody s__law_gcd, defScope s__law_gcd, [], false⟩
abbrev s__law_plain : Stmt := top 55
def d__law_plain : DX := ⟨fun K => He.ga K "_law_plain", "_law_plain", "_law_plain", defArgs s__law_plain, defBody s__law_plain, defScope s__law_plain, [], false⟩
abbrev s__law_fit : Stmt := top 56
def d__law_fit : DX := ⟨fun K => He.ga K "_law_fit", "_law_fit", "_law_fit", defArgs s__law_fit, defBody s__law_fit, defScope s__law_fit, [], false⟩
abbrev s__law_counts : Stmt := top 57
def d__law_counts : DX := ⟨fun K => He.ga K "_law_counts", "_law_counts", "_law_counts", defArgs s__law_counts, defBody s__law_counts, defScope s__law_counts, [], false⟩
abbrev s__law_behind : Stmt := top 58
def d__law_behind : DX := ⟨fun K => He.ga K "_law_behind", "_law_behind", "_law_behind", defArgs s__law_behind, defBody s__law_behind, defScope s__law_behind, [], false⟩
abbrev s__law_same : Stmt := top 59
def d__law_same : DX := ⟨fun K => He.ga K "_law_same", "_law_same", "_law_same", defArgs s__law_same, defBody s__law_same, defScope s__law_same, [], false⟩
abbrev s__law_table : Stmt := top 60
def d__law_table : DX := ⟨fun K => He.ga K "_law_table", "_law_table", "_law_table", defArgs s__law_table, defBody s__law_table, defScope s__law_table, [], false⟩
abbrev s__law_great : Stmt := top 61
def d__law_great : DX := ⟨fun K => He.ga K "_law_great", "_law_great", "_law_great", defArgs s__law_great, defBody s__law_great, defScope s__law_great, [], false⟩
abbrev s__law_text : Stmt := top 62
def d__law_text : DX := ⟨fun K => He.ga K "_law_text", "_law_text", "_law_text", defArgs s__law_text, defBody s__law_text, defScope s__law_text, [], false⟩
abbrev s__law_telling : Stmt := top 63
def d__law_telling : DX := ⟨fun K => He.ga K "_law_telling", "_law_telling", "_law_telling", defArgs s__law_telling, defBody s__law_telling, defScope s__law_telling, [], false⟩
abbrev s_law : Stmt := top 64
def d_law : DX := ⟨fun K => He.ga K "law", "law", "law", defArgs s_law, defBody s_law, defScope s_law, [], false⟩
abbrev s_Table_init : Stmt := inClass (top 37) 0
def d_Table_init : DX := ⟨fun K => He.ma K (He.ga K "Table") "__init__", "__init__", "Table.__init__", defArgs s_Table_init, defBody s_Table_init, defScope s_Table_init, [.adr (He.dflAt ("Table", some "__init__") 0), .int 0], false⟩
abbrev s_Table_call : Stmt := inClass (top 37) 3
def d_Table_call : DX := ⟨fun K => He.ma K (He.ga K "Table") "__call__", "__call__", "Table.__call__", defArgs s_Table_call, defBody s_Table_call, defScope s_Table_call, [], false⟩
abbrev s_Table_end : Stmt := inClass (top 37) 4
def d_Table_end : DX := ⟨fun K => prG "Table" "end" K, "end", "Table.end", defArgs s_Table_end, defBody s_Table_end, defScope s_Table_end, [], false⟩
abbrev s_Table_raw : Stmt := inClass (top 37) 2
def d_Table_raw : DX := ⟨fun K => He.ma K (He.ga K "Table") "raw", "raw", "Table.raw", defArgs s_Table_raw, defBody s_Table_raw, defScope s_Table_raw, [], false⟩
abbrev s_Table_eq : Stmt := inClass (top 37) 7
def d_Table_eq : DX := ⟨fun K => He.ma K (He.ga K "Table") "__eq__", "__eq__", "Table.__eq__", defArgs s_Table_eq, defBody s_Table_eq, defScope s_Table_eq, [], false⟩
abbrev s_Table_mul : Stmt := inClass (top 37) 8
def d_Table_mul : DX := ⟨fun K => He.ma K (He.ga K "Table") "__mul__", "__mul__", "Table.__mul__", defArgs s_Table_mul, defBody s_Table_mul, defScope s_Table_mul, [], false⟩
abbrev s_Words_init : Stmt := inClass (top 43) 0
def d_Words_init : DX := ⟨fun K => He.ma K (He.ga K "Words") "__init__", "__init__", "Words.__init__", defArgs s_Words_init, defBody s_Words_init, defScope s_Words_init, [], false⟩
abbrev s_Words_ahead : Stmt := inClass (top 43) 1
def d_Words_ahead : DX := ⟨fun K => He.ma K (He.ga K "Words") "ahead", "ahead", "Words.ahead", defArgs s_Words_ahead, defBody s_Words_ahead, defScope s_Words_ahead, [], false⟩
abbrev s_Words_step : Stmt := inClass (top 43) 2
def d_Words_step : DX := ⟨fun K => He.ma K (He.ga K "Words") "step", "step", "Words.step", defArgs s_Words_step, defBody s_Words_step, defScope s_Words_step, [], false⟩
abbrev s_Words_take_counts : Stmt := inClass (top 43) 3
def d_Words_take_counts : DX := ⟨fun K => He.ma K (He.ga K "Words") "take_counts", "take_counts", "Words.take_counts", defArgs s_Words_take_counts, defBody s_Words_take_counts, defScope s_Words_take_counts, [], false⟩
abbrev s_Words_take_rise : Stmt := inClass (top 43) 4
def d_Words_take_rise : DX := ⟨fun K => He.ma K (He.ga K "Words") "take_rise", "take_rise", "Words.take_rise", defArgs s_Words_take_rise, defBody s_Words_take_rise, defScope s_Words_take_rise, [], false⟩
abbrev s_Words_close : Stmt := inClass (top 43) 5
def d_Words_close : DX := ⟨fun K => He.ma K (He.ga K "Words") "close", "close", "Words.close", defArgs s_Words_close, defBody s_Words_close, defScope s_Words_close, [], false⟩
def fn0 : List DX := [d_is_integer, d_is_count, d_is_listed, d_is_counts, d_deep, d_common_divisor, d_end_of, d_value_at, d_short_loop, d_plain_form, d_formed, d_until_never]
def fn1 : List DX := [d_first_beyond, d_behind_raw, d_is_rising, d_checked_table, d_table_from, d_write_table, d_number_of, d_read_table, d__law_source, d__law_pick, d__law_is_integer, d__law_is_count]
def fn2 : List DX := [d__law_rising, d__law_raw, d__law_end, d__law_at, d__law_gcd, d__law_plain, d__law_fit, d__law_counts, d__law_behind, d__law_same, d__law_table, d__law_great]
def fn3 : List DX := [d__law_text, d__law_telling, d_law, d_Table_init, d_Table_call, d_Table_end, d_Table_raw, d_Table_eq, d_Table_mul, d_Words_init, d_Words_ahead, d_Words_step]
def fn4 : List DX := [d_Words_take_counts, d_Words_take_rise, d_Words_close]
def fn : List DX := fn0 ++ fn1 ++ fn2 ++ fn3 ++ fn4
def fa0 : List He.Fa := [.free "abs", .free "all", .free "any", .free "bool", .free "int", .free "isinstance", .free "len", .free "list", .free "max", .free "min", .free "range", .free "str"]
def fa1 : List He.Fa := [.free "tuple", .glo "is_integer", .glo "is_count", .glo "is_listed", .glo "is_counts", .glo "deep", .glo "common_divisor", .glo "end_of", .glo "value_at", .glo "short_loop", .glo "plain_form", .glo "formed"]
def fa2 : List He.Fa := [.glo "until_never", .glo "first_beyond", .glo "behind_raw", .glo "is_rising", .glo "checked_table", .glo "table_from", .glo "write_table", .glo "number_of", .glo "read_table", .glo "_law_source", .glo "_law_pick", .glo "_law_is_integer"]
def fa3 : List He.Fa := [.glo "_law_is_count", .glo "_law_rising", .glo "_law_raw", .glo "_law_end", .glo "_law_at", .glo "_law_gcd", .glo "_law_plain", .glo "_law_fit", .glo "_law_counts", .glo "_law_behind", .glo "_law_same", .glo "_law_table"]
def fa4 : List He.Fa := [.glo "_law_great", .glo "_law_text", .glo "_law_telling", .glo "law", .meth "Table" "__init__", .meth "Table" "__call__", .meth "Table" "raw", .meth "Table" "__eq__", .meth "Table" "__mul__", .meth "Words" "__init__", .meth "Words" "ahead", .meth "Words" "step"]
def fa5 : List He.Fa := [.meth "Words" "take_counts", .meth "Words" "take_rise", .meth "Words" "close", .glo "Table", .cls "Table", .mkr "Table", .noat "Table" "head", .noat "Table" "loop", .noat "Table" "rise", .glo "Words", .cls "Words", .mkr "Words"]
def fa6 : List He.Fa := [.noat "Words" "words", .noat "Words" "place", .int "MOST_FIGURES" 60]
def fa : List He.Fa := fa0 ++ fa1 ++ fa2 ++ fa3 ++ fa4 ++ fa5 ++ fa6
def exL0 : List (PySem.W.Frag → Bool) := [(propB "Table" "end"), (insB "Table"), (kitSB "Table"), (fun K => PySem.W.notFirst K (He.ga K "Table") (.ref (He.ga K "Table"))), (fun K => He.eqO (PySem.W.findIn K (.ref (He.ga K "Table")) "__ne__") (some (some (.builtin "object.__ne__")))), (fun K => decide (PySem.W.mroIn K (He.ga K "Table") (.type "object") = some true)), (kitB "Table" "tuple" false), (nfB "Table" "tuple"), (kitB "Table" "list" false), (nfB "Table" "list"), (kitB "Table" "int" false), (nfB "Table" "int")]
def exL1 : List (PySem.W.Frag → Bool) := [(kitB "Table" "NoneType" false), (nfB "Table" "NoneType"), (kitB "Table" "str" false), (nfB "Table" "str"), (kitB "Table" "bool" false), (nfB "Table" "bool"), (insB "Words"), (kitSB "Words"), (fun K => PySem.W.notFirst K (He.ga K "Words") (.ref (He.ga K "Words"))), (fun K => He.eqO (PySem.W.findIn K (.ref (He.ga K "Words")) "__ne__") (some (some (.builtin "object.__ne__")))), (fun K => decide (PySem.W.mroIn K (He.ga K "Words") (.type "object") = some true)), (kitB "Words" "tuple" false)]
def exL2 : List (PySem.W.Frag → Bool) := [(nfB "Words" "tuple"), (kitB "Words" "list" false), (nfB "Words" "list"), (kitB "Words" "int" false), (nfB "Words" "int"), (kitB "Words" "NoneType" false), (nfB "Words" "NoneType"), (kitB "Words" "str" false), (nfB "Words" "str"), (kitB "Words" "bool" false), (nfB "Words" "bool"), (callB "Table")]
def exL3 : List (PySem.W.Frag → Bool) := [(fun K => tup0B K (He.dflAt ("Table", some "__init__") 0 K)), (fun K => PySem.W.selfFirst K (He.ga K "Table"))]
def exL : List (PySem.W.Frag → Bool) := exL0 ++ exL1 ++ exL2 ++ exL3
def exB (K : PySem.W.Frag) : Bool := exL.all fun f => f K
/-- what the top has left -/
structure Env (P : Program) (K : PySem.W.Frag) (mg : Str → Option Value) : Prop where
  ex : ∃ h : Heap, K.In h ∧ h.Ns mainGlobals mg
  c : SaysM fa fn exB K
  pf : ((P.main.file : Str) == mainFile) = true ∧ (P.main.scope.names.lookup ("super" : Str)).isSome = false
theorem Env.x {P : Program} {K : PySem.W.Frag} {mg : Str → Option Value} (E : Env P K mg) (i : Nat) {f : PySem.W.Frag → Bool} (h : exL[i]? = some f) : f K = true := List.all_eq_true.mp (show (exL.all fun f => f K) = true from E.c.more) f (List.mem_of_getElem? h)
theorem Env.f_abs {P : Program} {K : PySem.W.Frag} {mg : Str → Option Value} (E : Env P K mg) : mg "abs" = none := by obtain ⟨h, X, G⟩ := E.ex; exact He.free_ok X G (E.c.fact 0 (f := .free "abs") rfl)
theorem Env.f_all {P : Program} {K : PySem.W.Frag} {mg : Str → Option Value} (E : Env P K mg) : mg "all" = none := by obtain ⟨h, X, G⟩ := E.ex; exact He.free_ok X G (E.c.fact 1 (f := .free "all") rfl)
theorem Env.f_any {P : Program} {K : PySem.W.Frag} {mg : Str → Option Value} (E : Env P K mg) : mg "any" = none := by obtain ⟨h, X, G⟩ := E.ex; exact He.free_ok X G (E.c.fact 2 (f := .free "any") rfl)
theorem Env.f_bool {P : Program} {K : PySem.W.Frag} {mg : Str → Option Value} (E : Env P K mg) : mg "bool" = none := by obtain ⟨h, X, G⟩ := E.ex; exact He.free_ok X G (E.c.fact 3 (f := .free "bool") rfl)
theorem Env.f_int {P : Program} {K : PySem.W.Frag} {mg : Str → Option Value} (E : Env P K mg) : mg "int" = none := by obtain ⟨h, X, G⟩ := E.ex; exact He.free_ok X G (E.c.fact 4 (f := .free "int") rfl)
theorem Env.f_isinstance {P : Program} {K : PySem.W.Frag} {mg : Str → Option Value} (E : Env P K mg) : mg "isinstance" = none := by obtain ⟨h, X, G⟩ := E.ex; exact He.free_ok X G (E.c.fact 5 (f := .free "isinstance") rfl)
theorem Env.f_len {P : Program} {K : PySem.W.Frag} {mg : Str → Option Value} (E : Env P K mg) : mg "len" = none := by obtain ⟨h, X, G⟩ := E.ex; exact He.free_ok X G (E.c.fact 6 (f := .free "len") rfl)
theorem Env.f_list {P : Program} {K : PySem.W.Frag} {mg : Str → Option Value} (E : Env P K mg) : mg "list" = none := by obtain ⟨h, X, G⟩ := E.ex; exact He.free_ok X G (E.c.fact 7 (f := .free "list") rfl)
theorem Env.f_max {P : Program} {K : PySem.W.Frag} {mg : Str → Option Value} (E : Env P K mg) : mg "max" = none := by obtain ⟨h, X, G⟩ := E.ex; exact He.free_ok X G (E.c.fact 8 (f := .free "max") rfl)
theorem Env.f_min {P : Program} {K : PySem.W.Frag} {mg : Str → Option Value} (E : Env P K mg) : mg "min" = none := by obtain ⟨h, X, G⟩ := E.ex; exact He.free_ok X G (E.c.fact 9 (f := .free "min") rfl)
theorem Env.f_range {P : Program} {K : PySem.W.Frag} {mg : Str → Option Value} (E : Env P K mg) : mg "range" = none := by obtain ⟨h, X, G⟩ := E.ex; exact He.free_ok X G (E.c.fact 10 (f := .free "range") rfl)
theorem Env.f_str {P : Program} {K : PySem.W.Frag} {mg : Str → Option Value} (E : Env P K mg) : mg "str" = none := by obtain ⟨h, X, G⟩ := E.ex; exact He.free_ok X G (E.c.fact 11 (f := .free "str") rfl)
theorem Env.f_tuple {P : Program} {K : PySem.W.Frag} {mg : Str → Option Value} (E : Env P K mg) : mg "tuple" = none := by obtain ⟨h, X, G⟩ := E.ex; exact He.free_ok X G (E.c.fact 12 (f := .free "tuple") rfl)
theorem Env.g_is_integer {P : Program} {K : PySem.W.Frag} {mg : Str → Option Value} (E : Env P K mg) : mg "is_integer" = some (.ref (He.ga K "is_integer")) := by obtain ⟨h, X, G⟩ := E.ex; exact He.glo_ok X G (E.c.fact 13 (f := .glo "is_integer") rfl)
theorem Env.g_is_count {P : Program} {K : PySem.W.Frag} {mg : Str → Option Value} (E : Env P K mg) : mg "is_count" = some (.ref (He.ga K "is_count")) := by obtain ⟨h, X, G⟩ := E.ex; exact He.glo_ok X G (E.c.fact 14 (f := .glo "is_count") rfl)
theorem Env.g_is_listed {P : Program} {K : PySem.W.Frag} {mg : Str → Option Value} (E : Env P K mg) : mg "is_listed" = some (.ref (He.ga K "is_listed")) := by obtain ⟨h, X, G⟩ := E.ex; exact He.glo_ok X G (E.c.fact 15 (f := .glo "is_listed") rfl)
theorem Env.g_is_counts {P : Program} {K : PySem.W.Frag} {mg : Str → Option Value} (E : Env P K mg) : mg "is_counts" = some (.ref (He.ga K "is_counts")) := by obtain ⟨h, X, G⟩ := E.ex; exact He.glo_ok X G (E.c.fact 16 (f := .glo "is_counts") rfl)
theorem Env.g_deep {P : Program} {K : PySem.W.Frag} {mg : Str → Option Value} (E : Env P K mg) : mg "deep" = some (.ref (He.ga K "deep")) := by obtain ⟨h, X, G⟩ := E.ex; exact He.glo_ok X G (E.c.fact 17 (f := .glo "deep") rfl)
theorem Env.g_common_divisor {P : Program} {K : PySem.W.Frag} {mg : Str → Option Value} (E : Env P K mg) : mg "common_divisor" = some (.ref (He.ga K "common_divisor")) := by obtain ⟨h, X, G⟩ := E.ex; exact He.glo_ok X G (E.c.fact 18 (f := .glo "common_divisor") rfl)
theorem Env.g_end_of {P : Program} {K : PySem.W.Frag} {mg : Str → Option Value} (E : Env P K mg) : mg "end_of" = some (.ref (He.ga K "end_of")) := by obtain ⟨h, X, G⟩ := E.ex; exact He.glo_ok X G (E.c.fact 19 (f := .glo "end_of") rfl)
theorem Env.g_value_at {P : Program} {K : PySem.W.Frag} {mg : Str → Option Value} (E : Env P K mg) : mg "value_at" = some (.ref (He.ga K "value_at")) := by obtain ⟨h, X, G⟩ := E.ex; exact He.glo_ok X G (E.c.fact 20 (f := .glo "value_at") rfl)
theorem Env.g_short_loop {P : Program} {K : PySem.W.Frag} {mg : Str → Option Value} (E : Env P K mg) : mg "short_loop" = some (.ref (He.ga K "short_loop")) := by obtain ⟨h, X, G⟩ := E.ex; exact He.glo_ok X G (E.c.fact 21 (f := .glo "short_loop") rfl)
theorem Env.g_plain_form {P : Program} {K : PySem.W.Frag} {mg : Str → Option Value} (E : Env P K mg) : mg "plain_form" = some (.ref (He.ga K "plain_form")) := by obtain ⟨h, X, G⟩ := E.ex; exact He.glo_ok X G (E.c.fact 22 (f := .glo "plain_form") rfl)
theorem Env.g_formed {P : Program} {K : PySem.W.Frag} {mg : Str → Option Value} (E : Env P K mg) : mg "formed" = some (.ref (He.ga K "formed")) := by obtain ⟨h, X, G⟩ := E.ex; exact He.glo_ok X G (E.c.fact 23 (f := .glo "formed") rfl)
theorem Env.g_until_never {P : Program} {K : PySem.W.Frag} {mg : Str → Option Value} (E : Env P K mg) : mg "until_never" = some (.ref (He.ga K "until_never")) := by obtain ⟨h, X, G⟩ := E.ex; exact He.glo_ok X G (E.c.fact 24 (f := .glo "until_never") rfl)
theorem Env.g_first_beyond {P : Program} {K : PySem.W.Frag} {mg : Str → Option Value} (E : Env P K mg) : mg "first_beyond" = some (.ref (He.ga K "first_beyond")) := by obtain ⟨h, X, G⟩ := E.ex; exact He.glo_ok X G (E.c.fact 25 (f := .glo "first_beyond") rfl)
theorem Env.g_behind_raw {P : Program} {K : PySem.W.Frag} {mg : Str → Option Value} (E : Env P K mg) : mg "behind_raw" = some (.ref (He.ga K "behind_raw")) := by obtain ⟨h, X, G⟩ := E.ex; exact He.glo_ok X G (E.c.fact 26 (f := .glo "behind_raw") rfl)
theorem Env.g_is_rising {P : Program} {K : PySem.W.Frag} {mg : Str → Option Value} (E : Env P K mg) : mg "is_rising" = some (.ref (He.ga K "is_rising")) := by obtain ⟨h, X, G⟩ := E.ex; exact He.glo_ok X G (E.c.fact 27 (f := .glo "is_rising") rfl)
theorem Env.g_checked_table {P : Program} {K : PySem.W.Frag} {mg : Str → Option Value} (E : Env P K mg) : mg "checked_table" = some (.ref (He.ga K "checked_table")) := by obtain ⟨h, X, G⟩ := E.ex; exact He.glo_ok X G (E.c.fact 28 (f := .glo "checked_table") rfl)
theorem Env.g_table_from {P : Program} {K : PySem.W.Frag} {mg : Str → Option Value} (E : Env P K mg) : mg "table_from" = some (.ref (He.ga K "table_from")) := by obtain ⟨h, X, G⟩ := E.ex; exact He.glo_ok X G (E.c.fact 29 (f := .glo "table_from") rfl)
theorem Env.g_write_table {P : Program} {K : PySem.W.Frag} {mg : Str → Option Value} (E : Env P K mg) : mg "write_table" = some (.ref (He.ga K "write_table")) := by obtain ⟨h, X, G⟩ := E.ex; exact He.glo_ok X G (E.c.fact 30 (f := .glo "write_table") rfl)
theorem Env.g_number_of {P : Program} {K : PySem.W.Frag} {mg : Str → Option Value} (E : Env P K mg) : mg "number_of" = some (.ref (He.ga K "number_of")) := by obtain ⟨h, X, G⟩ := E.ex; exact He.glo_ok X G (E.c.fact 31 (f := .glo "number_of") rfl)
theorem Env.g_read_table {P : Program} {K : PySem.W.Frag} {mg : Str → Option Value} (E : Env P K mg) : mg "read_table" = some (.ref (He.ga K "read_table")) := by obtain ⟨h, X, G⟩ := E.ex; exact He.glo_ok X G (E.c.fact 32 (f := .glo "read_table") rfl)
theorem Env.g__law_source {P : Program} {K : PySem.W.Frag} {mg : Str → Option Value} (E : Env P K mg) : mg "_law_source" = some (.ref (He.ga K "_law_source")) := by obtain ⟨h, X, G⟩ := E.ex; exact He.glo_ok X G (E.c.fact 33 (f := .glo "_law_source") rfl)
theorem Env.g__law_pick {P : Program} {K : PySem.W.Frag} {mg : Str → Option Value} (E : Env P K mg) : mg "_law_pick" = some (.ref (He.ga K "_law_pick")) := by obtain ⟨h, X, G⟩ := E.ex; exact He.glo_ok X G (E.c.fact 34 (f := .glo "_law_pick") rfl)
theorem Env.g__law_is_integer {P : Program} {K : PySem.W.Frag} {mg : Str → Option Value} (E : Env P K mg) : mg "_law_is_integer" = some (.ref (He.ga K "_law_is_integer")) := by obtain ⟨h, X, G⟩ := E.ex; exact He.glo_ok X G (E.c.fact 35 (f := .glo "_law_is_integer") rfl)
theorem Env.g__law_is_count {P : Program} {K : PySem.W.Frag} {mg : Str → Option Value} (E : Env P K mg) : mg "_law_is_count" = some (.ref (He.ga K "_law_is_count")) := by obtain ⟨h, X, G⟩ := E.ex; exact He.glo_ok X G (E.c.fact 36 (f := .glo "_law_is_count") rfl)
theorem Env.g__law_rising {P : Program} {K : PySem.W.Frag} {mg : Str → Option Value} (E : Env P K mg) : mg "_law_rising" = some (.ref (He.ga K "_law_rising")) := by obtain ⟨h, X, G⟩ := E.ex; exact He.glo_ok X G (E.c.fact 37 (f := .glo "_law_rising") rfl)
theorem Env.g__law_raw {P : Program} {K : PySem.W.Frag} {mg : Str → Option Value} (E : Env P K mg) : mg "_law_raw" = some (.ref (He.ga K "_law_raw")) := by obtain ⟨h, X, G⟩ := E.ex; exact He.glo_ok X G (E.c.fact 38 (f := .glo "_law_raw") rfl)
theorem Env.g__law_end {P : Program} {K : PySem.W.Frag} {mg : Str → Option Value} (E : Env P K mg) : mg "_law_end" = some (.ref (He.ga K "_law_end")) := by obtain ⟨h, X, G⟩ := E.ex; exact He.glo_ok X G (E.c.fact 39 (f := .glo "_law_end") rfl)
theorem Env.g__law_at {P : Program} {K : PySem.W.Frag} {mg : Str → Option Value} (E : Env P K mg) : mg "_law_at" = some (.ref (He.ga K "_law_at")) := by obtain ⟨h, X, G⟩ := E.ex; exact He.glo_ok X G (E.c.fact 40 (f := .glo "_law_at") rfl)
theorem Env.g__law_gcd {P : Program} {K : PySem.W.Frag} {mg : Str → Option Value} (E : Env P K mg) : mg "_law_gcd" = some (.ref (He.ga K "_law_gcd")) := by obtain ⟨h, X, G⟩ := E.ex; exact He.glo_ok X G (E.c.fact 41 (f := .glo "_law_gcd") rfl)
theorem Env.g__law_plain {P : Program} {K : PySem.W.Frag} {mg : Str → Option Value} (E : Env P K mg) : mg "_law_plain" = some (.ref (He.ga K "_law_plain")) := by obtain ⟨h, X, G⟩ := E.ex; exact He.glo_ok X G (E.c.fact 42 (f := .glo "_law_plain") rfl)
theorem Env.g__law_fit {P : Program} {K : PySem.W.Frag} {mg : Str → Option Value} (E : Env P K mg) : mg "_law_fit" = some (.ref (He.ga K "_law_fit")) := by obtain ⟨h, X, G⟩ := E.ex; exact He.glo_ok X G (E.c.fact 43 (f := .glo "_law_fit") rfl)
theorem Env.g__law_counts {P : Program} {K : PySem.W.Frag} {mg : Str → Option Value} (E : Env P K mg) : mg "_law_counts" = some (.ref (He.ga K "_law_counts")) := by obtain ⟨h, X, G⟩ := E.ex; exact He.glo_ok X G (E.c.fact 44 (f := .glo "_law_counts") rfl)
theorem Env.g__law_behind {P : Program} {K : PySem.W.Frag} {mg : Str → Option Value} (E : Env P K mg) : mg "_law_behind" = some (.ref (He.ga K "_law_behind")) := by obtain ⟨h, X, G⟩ := E.ex; exact He.glo_ok X G (E.c.fact 45 (f := .glo "_law_behind") rfl)
theorem Env.g__law_same {P : Program} {K : PySem.W.Frag} {mg : Str → Option Value} (E : Env P K mg) : mg "_law_same" = some (.ref (He.ga K "_law_same")) := by obtain ⟨h, X, G⟩ := E.ex; exact He.glo_ok X G (E.c.fact 46 (f := .glo "_law_same") rfl)
theorem Env.g__law_table {P : Program} {K : PySem.W.Frag} {mg : Str → Option Value} (E : Env P K mg) : mg "_law_table" = some (.ref (He.ga K "_law_table")) := by obtain ⟨h, X, G⟩ := E.ex; exact He.glo_ok X G (E.c.fact 47 (f := .glo "_law_table") rfl)
theorem Env.g__law_great {P : Program} {K : PySem.W.Frag} {mg : Str → Option Value} (E : Env P K mg) : mg "_law_great" = some (.ref (He.ga K "_law_great")) := by obtain ⟨h, X, G⟩ := E.ex; exact He.glo_ok X G (E.c.fact 48 (f := .glo "_law_great") rfl)
theorem Env.g__law_text {P : Program} {K : PySem.W.Frag} {mg : Str → Option Value} (E : Env P K mg) : mg "_law_text" = some (.ref (He.ga K "_law_text")) := by obtain ⟨h, X, G⟩ := E.ex; exact He.glo_ok X G (E.c.fact 49 (f := .glo "_law_text") rfl)
theorem Env.g__law_telling {P : Program} {K : PySem.W.Frag} {mg : Str → Option Value} (E : Env P K mg) : mg "_law_telling" = some (.ref (He.ga K "_law_telling")) := by obtain ⟨h, X, G⟩ := E.ex; exact He.glo_ok X G (E.c.fact 50 (f := .glo "_law_telling") rfl)
theorem Env.g_law {P : Program} {K : PySem.W.Frag} {mg : Str → Option Value} (E : Env P K mg) : mg "law" = some (.ref (He.ga K "law")) := by obtain ⟨h, X, G⟩ := E.ex; exact He.glo_ok X G (E.c.fact 51 (f := .glo "law") rfl)
theorem Env.m_Table_init {P : Program} {K : PySem.W.Frag} {mg : Str → Option Value} (E : Env P K mg) : Meth K (He.ga K "Table") "__init__" (He.ma K (He.ga K "Table") "__init__") := He.meth_ok (E.c.fact 52 (f := .meth "Table" "__init__") rfl)
theorem Env.m_Table_call {P : Program} {K : PySem.W.Frag} {mg : Str → Option Value} (E : Env P K mg) : Meth K (He.ga K "Table") "__call__" (He.ma K (He.ga K "Table") "__call__") := He.meth_ok (E.c.fact 53 (f := .meth "Table" "__call__") rfl)
theorem Env.p_Table_end {P : Program} {K : PySem.W.Frag} {mg : Str → Option Value} (E : Env P K mg) : PropOf K (He.ga K "Table") "end" (prA "Table" "end" K) (prG "Table" "end" K) := propB_ok (E.x 0 (f := propB "Table" "end") rfl)
theorem Env.m_Table_raw {P : Program} {K : PySem.W.Frag} {mg : Str → Option Value} (E : Env P K mg) : Meth K (He.ga K "Table") "raw" (He.ma K (He.ga K "Table") "raw") := He.meth_ok (E.c.fact 54 (f := .meth "Table" "raw") rfl)
theorem Env.m_Table_eq {P : Program} {K : PySem.W.Frag} {mg : Str → Option Value} (E : Env P K mg) : Meth K (He.ga K "Table") "__eq__" (He.ma K (He.ga K "Table") "__eq__") := He.meth_ok (E.c.fact 55 (f := .meth "Table" "__eq__") rfl)
theorem Env.m_Table_mul {P : Program} {K : PySem.W.Frag} {mg : Str → Option Value} (E : Env P K mg) : Meth K (He.ga K "Table") "__mul__" (He.ma K (He.ga K "Table") "__mul__") := He.meth_ok (E.c.fact 56 (f := .meth "Table" "__mul__") rfl)
theorem Env.m_Words_init {P : Program} {K : PySem.W.Frag} {mg : Str → Option Value} (E : Env P K mg) : Meth K (He.ga K "Words") "__init__" (He.ma K (He.ga K "Words") "__init__") := He.meth_ok (E.c.fact 57 (f := .meth "Words" "__init__") rfl)
theorem Env.m_Words_ahead {P : Program} {K : PySem.W.Frag} {mg : Str → Option Value} (E : Env P K mg) : Meth K (He.ga K "Words") "ahead" (He.ma K (He.ga K "Words") "ahead") := He.meth_ok (E.c.fact 58 (f := .meth "Words" "ahead") rfl)
theorem Env.m_Words_step {P : Program} {K : PySem.W.Frag} {mg : Str → Option Value} (E : Env P K mg) : Meth K (He.ga K "Words") "step" (He.ma K (He.ga K "Words") "step") := He.meth_ok (E.c.fact 59 (f := .meth "Words" "step") rfl)
theorem Env.m_Words_take_counts {P : Program} {K : PySem.W.Frag} {mg : Str → Option Value} (E : Env P K mg) : Meth K (He.ga K "Words") "take_counts" (He.ma K (He.ga K "Words") "take_counts") := He.meth_ok (E.c.fact 60 (f := .meth "Words" "take_counts") rfl)
theorem Env.m_Words_take_rise {P : Program} {K : PySem.W.Frag} {mg : Str → Option Value} (E : Env P K mg) : Meth K (He.ga K "Words") "take_rise" (He.ma K (He.ga K "Words") "take_rise") := He.meth_ok (E.c.fact 61 (f := .meth "Words" "take_rise") rfl)
theorem Env.m_Words_close {P : Program} {K : PySem.W.Frag} {mg : Str → Option Value} (E : Env P K mg) : Meth K (He.ga K "Words") "close" (He.ma K (He.ga K "Words") "close") := He.meth_ok (E.c.fact 62 (f := .meth "Words" "close") rfl)
theorem Env.g_Table {P : Program} {K : PySem.W.Frag} {mg : Str → Option Value} (E : Env P K mg) : mg "Table" = some (.ref (He.ga K "Table")) := by obtain ⟨h, X, G⟩ := E.ex; exact He.glo_ok X G (E.c.fact 63 (f := .glo "Table") rfl)
theorem Env.c_Table {P : Program} {K : PySem.W.Frag} {mg : Str → Option Value} (E : Env P K mg) : Cls K (He.ga K "Table") := He.cls_ok (E.c.fact 64 (f := .cls "Table") rfl)
theorem Env.mk_Table {P : Program} {K : PySem.W.Frag} {mg : Str → Option Value} (E : Env P K mg) : Mk K (He.ga K "Table") (He.ma K (He.ga K "Table") "__init__") := He.mkr_ok (E.c.fact 65 (f := .mkr "Table") rfl)
theorem Env.na_Table_head {P : Program} {K : PySem.W.Frag} {mg : Str → Option Value} (E : Env P K mg) : NoAttr K (He.ga K "Table") "head" := He.noat_ok (E.c.fact 66 (f := .noat "Table" "head") rfl)
theorem Env.na_Table_loop {P : Program} {K : PySem.W.Frag} {mg : Str → Option Value} (E : Env P K mg) : NoAttr K (He.ga K "Table") "loop" := He.noat_ok (E.c.fact 67 (f := .noat "Table" "loop") rfl)
theorem Env.na_Table_rise {P : Program} {K : PySem.W.Frag} {mg : Str → Option Value} (E : Env P K mg) : NoAttr K (He.ga K "Table") "rise" := He.noat_ok (E.c.fact 68 (f := .noat "Table" "rise") rfl)
theorem Env.ins_Table {P : Program} {K : PySem.W.Frag} {mg : Str → Option Value} (E : Env P K mg) : insB "Table" K = true := (E.x 1 (f := insB "Table") rfl)
theorem Env.kit_Table_self {P : Program} {K : PySem.W.Frag} {mg : Str → Option Value} (E : Env P K mg) : PySem.W.kitOne K (.ref (He.ga K "Table")) (.ref (He.ga K "Table")) = some true := of_decide_eq_true (E.x 2 (f := kitSB "Table") rfl)
theorem Env.nf_Table_self {P : Program} {K : PySem.W.Frag} {mg : Str → Option Value} (E : Env P K mg) : PySem.W.notFirst K (He.ga K "Table") (.ref (He.ga K "Table")) = true := (E.x 3 (f := fun K => PySem.W.notFirst K (He.ga K "Table") (.ref (He.ga K "Table"))) rfl)
theorem Env.ne_Table {P : Program} {K : PySem.W.Frag} {mg : Str → Option Value} (E : Env P K mg) : PySem.W.findIn K (.ref (He.ga K "Table")) "__ne__" = some (some (.builtin "object.__ne__")) := He.eqO_ok (E.x 4 (f := fun K => He.eqO (PySem.W.findIn K (.ref (He.ga K "Table")) "__ne__") (some (some (.builtin "object.__ne__")))) rfl)
theorem Env.mo_Table {P : Program} {K : PySem.W.Frag} {mg : Str → Option Value} (E : Env P K mg) : PySem.W.mroIn K (He.ga K "Table") (.type "object") = some true := of_decide_eq_true (E.x 5 (f := fun K => decide (PySem.W.mroIn K (He.ga K "Table") (.type "object") = some true)) rfl)
theorem Env.kit_Table_tuple {P : Program} {K : PySem.W.Frag} {mg : Str → Option Value} (E : Env P K mg) : PySem.W.kitOne K (.type "tuple") (.ref (He.ga K "Table")) = some false := of_decide_eq_true (E.x 6 (f := kitB "Table" "tuple" false) rfl)
theorem Env.nf_Table_tuple {P : Program} {K : PySem.W.Frag} {mg : Str → Option Value} (E : Env P K mg) : PySem.W.notFirst K (He.ga K "Table") (.type "tuple") = true := (E.x 7 (f := nfB "Table" "tuple") rfl)
theorem Env.kit_Table_list {P : Program} {K : PySem.W.Frag} {mg : Str → Option Value} (E : Env P K mg) : PySem.W.kitOne K (.type "list") (.ref (He.ga K "Table")) = some false := of_decide_eq_true (E.x 8 (f := kitB "Table" "list" false) rfl)
theorem Env.nf_Table_list {P : Program} {K : PySem.W.Frag} {mg : Str → Option Value} (E : Env P K mg) : PySem.W.notFirst K (He.ga K "Table") (.type "list") = true := (E.x 9 (f := nfB "Table" "list") rfl)
theorem Env.kit_Table_int {P : Program} {K : PySem.W.Frag} {mg : Str → Option Value} (E : Env P K mg) : PySem.W.kitOne K (.type "int") (.ref (He.ga K "Table")) = some false := of_decide_eq_true (E.x 10 (f := kitB "Table" "int" false) rfl)
theorem Env.nf_Table_int {P : Program} {K : PySem.W.Frag} {mg : Str → Option Value} (E : Env P K mg) : PySem.W.notFirst K (He.ga K "Table") (.type "int") = true := (E.x 11 (f := nfB "Table" "int") rfl)
theorem Env.kit_Table_NoneType {P : Program} {K : PySem.W.Frag} {mg : Str → Option Value} (E : Env P K mg) : PySem.W.kitOne K (.type "NoneType") (.ref (He.ga K "Table")) = some false := of_decide_eq_true (E.x 12 (f := kitB "Table" "NoneType" false) rfl)
theorem Env.nf_Table_NoneType {P : Program} {K : PySem.W.Frag} {mg : Str → Option Value} (E : Env P K mg) : PySem.W.notFirst K (He.ga K "Table") (.type "NoneType") = true := (E.x 13 (f := nfB "Table" "NoneType") rfl)
theorem Env.kit_Table_str {P : Program} {K : PySem.W.Frag} {mg : Str → Option Value} (E : Env P K mg) : PySem.W.kitOne K (.type "str") (.ref (He.ga K "Table")) = some false := of_decide_eq_true (E.x 14 (f := kitB "Table" "str" false) rfl)
theorem Env.nf_Table_str {P : Program} {K : PySem.W.Frag} {mg : Str → Option Value} (E : Env P K mg) : PySem.W.notFirst K (He.ga K "Table") (.type "str") = true := (E.x 15 (f := nfB "Table" "str") rfl)
theorem Env.kit_Table_bool {P : Program} {K : PySem.W.Frag} {mg : Str → Option Value} (E : Env P K mg) : PySem.W.kitOne K (.type "bool") (.ref (He.ga K "Table")) = some false := of_decide_eq_true (E.x 16 (f := kitB "Table" "bool" false) rfl)
theorem Env.nf_Table_bool {P : Program} {K : PySem.W.Frag} {mg : Str → Option Value} (E : Env P K mg) : PySem.W.notFirst K (He.ga K "Table") (.type "bool") = true := (E.x 17 (f := nfB "Table" "bool") rfl)
theorem Env.g_Words {P : Program} {K : PySem.W.Frag} {mg : Str → Option Value} (E : Env P K mg) : mg "Words" = some (.ref (He.ga K "Words")) := by obtain ⟨h, X, G⟩ := E.ex; exact He.glo_ok X G (E.c.fact 69 (f := .glo "Words") rfl)
theorem Env.c_Words {P : Program} {K : PySem.W.Frag} {mg : Str → Option Value} (E : Env P K mg) : Cls K (He.ga K "Words") := He.cls_ok (E.c.fact 70 (f := .cls "Words") rfl)
theorem Env.mk_Words {P : Program} {K : PySem.W.Frag} {mg : Str → Option Value} (E : Env P K mg) : Mk K (He.ga K "Words") (He.ma K (He.ga K "Words") "__init__") := He.mkr_ok (E.c.fact 71 (f := .mkr "Words") rfl)
theorem Env.na_Words_words {P : Program} {K : PySem.W.Frag} {mg : Str → Option Value} (E : Env P K mg) : NoAttr K (He.ga K "Words") "words" := He.noat_ok (E.c.fact 72 (f := .noat "Words" "words") rfl)
theorem Env.na_Words_place {P : Program} {K : PySem.W.Frag} {mg : Str → Option Value} (E : Env P K mg) : NoAttr K (He.ga K "Words") "place" := He.noat_ok (E.c.fact 73 (f := .noat "Words" "place") rfl)
theorem Env.ins_Words {P : Program} {K : PySem.W.Frag} {mg : Str → Option Value} (E : Env P K mg) : insB "Words" K = true := (E.x 18 (f := insB "Words") rfl)
theorem Env.kit_Words_self {P : Program} {K : PySem.W.Frag} {mg : Str → Option Value} (E : Env P K mg) : PySem.W.kitOne K (.ref (He.ga K "Words")) (.ref (He.ga K "Words")) = some true := of_decide_eq_true (E.x 19 (f := kitSB "Words") rfl)
theorem Env.nf_Words_self {P : Program} {K : PySem.W.Frag} {mg : Str → Option Value} (E : Env P K mg) : PySem.W.notFirst K (He.ga K "Words") (.ref (He.ga K "Words")) = true := (E.x 20 (f := fun K => PySem.W.notFirst K (He.ga K "Words") (.ref (He.ga K "Words"))) rfl)
theorem Env.ne_Words {P : Program} {K : PySem.W.Frag} {mg : Str → Option Value} (E : Env P K mg) : PySem.W.findIn K (.ref (He.ga K "Words")) "__ne__" = some (some (.builtin "object.__ne__")) := He.eqO_ok (E.x 21 (f := fun K => He.eqO (PySem.W.findIn K (.ref (He.ga K "Words")) "__ne__") (some (some (.builtin "object.__ne__")))) rfl)
theorem Env.mo_Words {P : Program} {K : PySem.W.Frag} {mg : Str → Option Value} (E : Env P K mg) : PySem.W.mroIn K (He.ga K "Words") (.type "object") = some true := of_decide_eq_true (E.x 22 (f := fun K => decide (PySem.W.mroIn K (He.ga K "Words") (.type "object") = some true)) rfl)
theorem Env.kit_Words_tuple {P : Program} {K : PySem.W.Frag} {mg : Str → Option Value} (E : Env P K mg) : PySem.W.kitOne K (.type "tuple") (.ref (He.ga K "Words")) = some false := of_decide_eq_true (E.x 23 (f := kitB "Words" "tuple" false) rfl)
theorem Env.nf_Words_tuple {P : Program} {K : PySem.W.Frag} {mg : Str → Option Value} (E : Env P K mg) : PySem.W.notFirst K (He.ga K "Words") (.type "tuple") = true := (E.x 24 (f := nfB "Words" "tuple") rfl)
theorem Env.kit_Words_list {P : Program} {K : PySem.W.Frag} {mg : Str → Option Value} (E : Env P K mg) : PySem.W.kitOne K (.type "list") (.ref (He.ga K "Words")) = some false := of_decide_eq_true (E.x 25 (f := kitB "Words" "list" false) rfl)
theorem Env.nf_Words_list {P : Program} {K : PySem.W.Frag} {mg : Str → Option Value} (E : Env P K mg) : PySem.W.notFirst K (He.ga K "Words") (.type "list") = true := (E.x 26 (f := nfB "Words" "list") rfl)
theorem Env.kit_Words_int {P : Program} {K : PySem.W.Frag} {mg : Str → Option Value} (E : Env P K mg) : PySem.W.kitOne K (.type "int") (.ref (He.ga K "Words")) = some false := of_decide_eq_true (E.x 27 (f := kitB "Words" "int" false) rfl)
theorem Env.nf_Words_int {P : Program} {K : PySem.W.Frag} {mg : Str → Option Value} (E : Env P K mg) : PySem.W.notFirst K (He.ga K "Words") (.type "int") = true := (E.x 28 (f := nfB "Words" "int") rfl)
theorem Env.kit_Words_NoneType {P : Program} {K : PySem.W.Frag} {mg : Str → Option Value} (E : Env P K mg) : PySem.W.kitOne K (.type "NoneType") (.ref (He.ga K "Words")) = some false := of_decide_eq_true (E.x 29 (f := kitB "Words" "NoneType" false) rfl)
theorem Env.nf_Words_NoneType {P : Program} {K : PySem.W.Frag} {mg : Str → Option Value} (E : Env P K mg) : PySem.W.notFirst K (He.ga K "Words") (.type "NoneType") = true := (E.x 30 (f := nfB "Words" "NoneType") rfl)
theorem Env.kit_Words_str {P : Program} {K : PySem.W.Frag} {mg : Str → Option Value} (E : Env P K mg) : PySem.W.kitOne K (.type "str") (.ref (He.ga K "Words")) = some false := of_decide_eq_true (E.x 31 (f := kitB "Words" "str" false) rfl)
theorem Env.nf_Words_str {P : Program} {K : PySem.W.Frag} {mg : Str → Option Value} (E : Env P K mg) : PySem.W.notFirst K (He.ga K "Words") (.type "str") = true := (E.x 32 (f := nfB "Words" "str") rfl)
theorem Env.kit_Words_bool {P : Program} {K : PySem.W.Frag} {mg : Str → Option Value} (E : Env P K mg) : PySem.W.kitOne K (.type "bool") (.ref (He.ga K "Words")) = some false := of_decide_eq_true (E.x 33 (f := kitB "Words" "bool" false) rfl)
theorem Env.nf_Words_bool {P : Program} {K : PySem.W.Frag} {mg : Str → Option Value} (E : Env P K mg) : PySem.W.notFirst K (He.ga K "Words") (.type "bool") = true := (E.x 34 (f := nfB "Words" "bool") rfl)
theorem Env.call_Table {P : Program} {K : PySem.W.Frag} {mg : Str → Option Value} (E : Env P K mg) : StX.CallO K (He.ga K "Table") (He.ma K (He.ga K "Table") "__call__") := callB_ok (E.x 35 (f := callB "Table") rfl)
theorem Env.k_MOST_FIGURES {P : Program} {K : PySem.W.Frag} {mg : Str → Option Value} (E : Env P K mg) : ∃ t, mg "MOST_FIGURES" = some (.int 60 t) := by obtain ⟨h, X, G⟩ := E.ex; exact He.int_ok X G (E.c.fact 74 (f := .int "MOST_FIGURES" 60) rfl)
theorem Env.t0_Table {P : Program} {K : PySem.W.Frag} {mg : Str → Option Value} (E : Env P K mg) : ∀ H, SqT K H (He.dflAt ("Table", some "__init__") 0 K) [] := tup0B_ok (E.x 36 (f := fun K => tup0B K (He.dflAt ("Table", some "__init__") 0 K)) rfl)
theorem Env.sf_Table {P : Program} {K : PySem.W.Frag} {mg : Str → Option Value} (E : Env P K mg) : PySem.W.selfFirst K (He.ga K "Table") = true := (E.x 37 (f := fun K => PySem.W.selfFirst K (He.ga K "Table")) rfl)
theorem Env.dd_is_integer {P : Program} {K : PySem.W.Frag} {mg : Str → Option Value} (E : Env P K mg) : ∃ fd, FunD K "is_integer" "is_integer" (defArgs s_is_integer) (defBody s_is_integer) (defScope s_is_integer) (d_is_integer.dvs K) [] (d_is_integer.adr K) fd := E.c.def_ 0 (d := d_is_integer) rfl
theorem Env.dd_is_count {P : Program} {K : PySem.W.Frag} {mg : Str → Option Value} (E : Env P K mg) : ∃ fd, FunD K "is_count" "is_count" (defArgs s_is_count) (defBody s_is_count) (defScope s_is_count) (d_is_count.dvs K) [] (d_is_count.adr K) fd := E.c.def_ 1 (d := d_is_count) rfl
theorem Env.dd_is_listed {P : Program} {K : PySem.W.Frag} {mg : Str → Option Value} (E : Env P K mg) : ∃ fd, FunD K "is_listed" "is_listed" (defArgs s_is_listed) (defBody s_is_listed) (defScope s_is_listed) (d_is_listed.dvs K) [] (d_is_listed.adr K) fd := E.c.def_ 2 (d := d_is_listed) rfl
theorem Env.dd_is_counts {P : Program} {K : PySem.W.Frag} {mg : Str → Option Value} (E : Env P K mg) : ∃ fd, FunD K "is_counts" "is_counts" (defArgs s_is_counts) (defBody s_is_counts) (defScope s_is_counts) (d_is_counts.dvs K) [] (d_is_counts.adr K) fd := E.c.def_ 3 (d := d_is_counts) rfl
theorem Env.dd_deep {P : Program} {K : PySem.W.Frag} {mg : Str → Option Value} (E : Env P K mg) : ∃ fd, FunD K "deep" "deep" (defArgs s_deep) (defBody s_deep) (defScope s_deep) (d_deep.dvs K) [] (d_deep.adr K) fd := E.c.def_ 4 (d := d_deep) rfl
theorem Env.dd_common_divisor {P : Program} {K : PySem.W.Frag} {mg : Str → Option Value} (E : Env P K mg) : ∃ fd, FunD K "common_divisor" "common_divisor" (defArgs s_common_divisor) (defBody s_common_divisor) (defScope s_common_divisor) (d_common_divisor.dvs K) [] (d_common_divisor.adr K) fd := E.c.def_ 5 (d := d_common_divisor) rfl
theorem Env.dd_end_of {P : Program} {K : PySem.W.Frag} {mg : Str → Option Value} (E : Env P K mg) : ∃ fd, FunD K "end_of" "end_of" (defArgs s_end_of) (defBody s_end_of) (defScope s_end_of) (d_end_of.dvs K) [] (d_end_of.adr K) fd := E.c.def_ 6 (d := d_end_of) rfl
theorem Env.dd_value_at {P : Program} {K : PySem.W.Frag} {mg : Str → Option Value} (E : Env P K mg) : ∃ fd, FunD K "value_at" "value_at" (defArgs s_value_at) (defBody s_value_at) (defScope s_value_at) (d_value_at.dvs K) [] (d_value_at.adr K) fd := E.c.def_ 7 (d := d_value_at) rfl
theorem Env.dd_short_loop {P : Program} {K : PySem.W.Frag} {mg : Str → Option Value} (E : Env P K mg) : ∃ fd, FunD K "short_loop" "short_loop" (defArgs s_short_loop) (defBody s_short_loop) (defScope s_short_loop) (d_short_loop.dvs K) [] (d_short_loop.adr K) fd := E.c.def_ 8 (d := d_short_loop) rfl
theorem Env.dd_plain_form {P : Program} {K : PySem.W.Frag} {mg : Str → Option Value} (E : Env P K mg) : ∃ fd, FunD K "plain_form" "plain_form" (defArgs s_plain_form) (defBody s_plain_form) (defScope s_plain_form) (d_plain_form.dvs K) [] (d_plain_form.adr K) fd := E.c.def_ 9 (d := d_plain_form) rfl
theorem Env.dd_formed {P : Program} {K : PySem.W.Frag} {mg : Str → Option Value} (E : Env P K mg) : ∃ fd, FunD K "formed" "formed" (defArgs s_formed) (defBody s_formed) (defScope s_formed) (d_formed.dvs K) [] (d_formed.adr K) fd := E.c.def_ 10 (d := d_formed) rfl
theorem Env.dd_until_never {P : Program} {K : PySem.W.Frag} {mg : Str → Option Value} (E : Env P K mg) : ∃ fd, FunD K "until_never" "until_never" (defArgs s_until_never) (defBody s_until_never) (defScope s_until_never) (d_until_never.dvs K) [] (d_until_never.adr K) fd := E.c.def_ 11 (d := d_until_never) rfl
theorem Env.dd_first_beyond {P : Program} {K : PySem.W.Frag} {mg : Str → Option Value} (E : Env P K mg) : ∃ fd, FunD K "first_beyond" "first_beyond" (defArgs s_first_beyond) (defBody s_first_beyond) (defScope s_first_beyond) (d_first_beyond.dvs K) [] (d_first_beyond.adr K) fd := E.c.def_ 12 (d := d_first_beyond) rfl
theorem Env.dd_behind_raw {P : Program} {K : PySem.W.Frag} {mg : Str → Option Value} (E : Env P K mg) : ∃ fd, FunD K "behind_raw" "behind_raw" (defArgs s_behind_raw) (defBody s_behind_raw) (defScope s_behind_raw) (d_behind_raw.dvs K) [] (d_behind_raw.adr K) fd := E.c.def_ 13 (d := d_behind_raw) rfl
theorem Env.dd_is_rising {P : Program} {K : PySem.W.Frag} {mg : Str → Option Value} (E : Env P K mg) : ∃ fd, FunD K "is_rising" "is_rising" (defArgs s_is_rising) (defBody s_is_rising) (defScope s_is_rising) (d_is_rising.dvs K) [] (d_is_rising.adr K) fd := E.c.def_ 14 (d := d_is_rising) rfl
theorem Env.dd_checked_table {P : Program} {K : PySem.W.Frag} {mg : Str → Option Value} (E : Env P K mg) : ∃ fd, FunD K "checked_table" "checked_table" (defArgs s_checked_table) (defBody s_checked_table) (defScope s_checked_table) (d_checked_table.dvs K) [] (d_checked_table.adr K) fd := E.c.def_ 15 (d := d_checked_table) rfl
theorem Env.dd_table_from {P : Program} {K : PySem.W.Frag} {mg : Str → Option Value} (E : Env P K mg) : ∃ fd, FunD K "table_from" "table_from" (defArgs s_table_from) (defBody s_table_from) (defScope s_table_from) (d_table_from.dvs K) [] (d_table_from.adr K) fd := E.c.def_ 16 (d := d_table_from) rfl
theorem Env.dd_write_table {P : Program} {K : PySem.W.Frag} {mg : Str → Option Value} (E : Env P K mg) : ∃ fd, FunD K "write_table" "write_table" (defArgs s_write_table) (defBody s_write_table) (defScope s_write_table) (d_write_table.dvs K) [] (d_write_table.adr K) fd := E.c.def_ 17 (d := d_write_table) rfl
theorem Env.dd_number_of {P : Program} {K : PySem.W.Frag} {mg : Str → Option Value} (E : Env P K mg) : ∃ fd, FunD K "number_of" "number_of" (defArgs s_number_of) (defBody s_number_of) (defScope s_number_of) (d_number_of.dvs K) [] (d_number_of.adr K) fd := E.c.def_ 18 (d := d_number_of) rfl
theorem Env.dd_read_table {P : Program} {K : PySem.W.Frag} {mg : Str → Option Value} (E : Env P K mg) : ∃ fd, FunD K "read_table" "read_table" (defArgs s_read_table) (defBody s_read_table) (defScope s_read_table) (d_read_table.dvs K) [] (d_read_table.adr K) fd := E.c.def_ 19 (d := d_read_table) rfl
theorem Env.dd__law_source {P : Program} {K : PySem.W.Frag} {mg : Str → Option Value} (E : Env P K mg) : ∃ fd, FunD K "_law_source" "_law_source" (defArgs s__law_source) (defBody s__law_source) (defScope s__law_source) (d__law_source.dvs K) [] (d__law_source.adr K) fd := E.c.def_ 20 (d := d__law_source) rfl
theorem Env.dd__law_pick {P : Program} {K : PySem.W.Frag} {mg : Str → Option Value} (E : Env P K mg) : ∃ fd, FunD K "_law_pick" "_law_pick" (defArgs s__law_pick) (defBody s__law_pick) (defScope s__law_pick) (d__law_pick.dvs K) [] (d__law_pick.adr K) fd := E.c.def_ 21 (d := d__law_pick) rfl
theorem Env.dd__law_is_integer {P : Program} {K : PySem.W.Frag} {mg : Str → Option Value} (E : Env P K mg) : ∃ fd, FunD K "_law_is_integer" "_law_is_integer" (defArgs s__law_is_integer) (defBody s__law_is_integer) (defScope s__law_is_integer) (d__law_is_integer.dvs K) [] (d__law_is_integer.adr K) fd := E.c.def_ 22 (d := d__law_is_integer) rfl
theorem Env.dd__law_is_count {P : Program} {K : PySem.W.Frag} {mg : Str → Option Value} (E : Env P K mg) : ∃ fd, FunD K "_law_is_count" "_law_is_count" (defArgs s__law_is_count) (defBody s__law_is_count) (defScope s__law_is_count) (d__law_is_count.dvs K) [] (d__law_is_count.adr K) fd := E.c.def_ 23 (d := d__law_is_count) rfl
theorem Env.dd__law_rising {P : Program} {K : PySem.W.Frag} {mg : Str → Option Value} (E : Env P K mg) : ∃ fd, FunD K "_law_rising" "_law_rising" (defArgs s__law_rising) (defBody s__law_rising) (defScope s__law_rising) (d__law_rising.dvs K) [] (d__law_rising.adr K) fd := E.c.def_ 24 (d := d__law_rising) rfl
theorem Env.dd__law_raw {P : Program} {K : PySem.W.Frag} {mg : Str → Option Value} (E : Env P K mg) : ∃ fd, FunD K "_law_raw" "_law_raw" (defArgs s__law_raw) (defBody s__law_raw) (defScope s__law_raw) (d__law_raw.dvs K) [] (d__law_raw.adr K) fd := E.c.def_ 25 (d := d__law_raw) rfl
theorem Env.dd__law_end {P : Program} {K : PySem.W.Frag} {mg : Str → Option Value} (E : Env P K mg) : ∃ fd, FunD K "_law_end" "_law_end" (defArgs s__law_end) (defBody s__law_end) (defScope s__law_end) (d__law_end.dvs K) [] (d__law_end.adr K) fd := E.c.def_ 26 (d := d__law_end) rfl
theorem Env.dd__law_at {P : Program} {K : PySem.W.Frag} {mg : Str → Option Value} (E : Env P K mg) : ∃ fd, FunD K "_law_at" "_law_at" (defArgs s__law_at) (defBody s__law_at) (defScope s__law_at) (d__law_at.dvs K) [] (d__law_at.adr K) fd := E.c.def_ 27 (d := d__law_at) rfl
theorem Env.dd__law_gcd {P : Program} {K : PySem.W.Frag} {mg : Str → Option Value} (E : Env P K mg) : ∃ fd, FunD K "_law_gcd" "_law_gcd" (defArgs s__law_gcd) (defBody s__law_gcd) (defScope s__law_gcd) (d__law_gcd.dvs K) [] (d__law_gcd.adr K) fd := E.c.def_ 28 (d := d__law_gcd) rfl
theorem Env.dd__law_plain {P : Program} {K : PySem.W.Frag} {mg : Str → Option Value} (E : Env P K mg) : ∃ fd, FunD K "_law_plain" "_law_plain" (defArgs s__law_plain) (defBody s__law_plain) (defScope s__law_plain) (d__law_plain.dvs K) [] (d__law_plain.adr K) fd := E.c.def_ 29 (d := d__law_plain) rfl
theorem Env.dd__law_fit {P : Program} {K : PySem.W.Frag} {mg : Str → Option Value} (E : Env P K mg) : ∃ fd, FunD K "_law_fit" "_law_fit" (defArgs s__law_fit) (defBody s__law_fit) (defScope s__law_fit) (d__law_fit.dvs K) [] (d__law_fit.adr K) fd := E.c.def_ 30 (d := d__law_fit) rfl
theorem Env.dd__law_counts {P : Program} {K : PySem.W.Frag} {mg : Str → Option Value} (E : Env P K mg) : ∃ fd, FunD K "_law_counts" "_law_counts" (defArgs s__law_counts) (defBody s__law_counts) (defScope s__law_counts) (d__law_counts.dvs K) [] (d__law_counts.adr K) fd := E.c.def_ 31 (d := d__law_counts) rfl
theorem Env.dd__law_behind {P : Program} {K : PySem.W.Frag} {mg : Str → Option Value} (E : Env P K mg) : ∃ fd, FunD K "_law_behind" "_law_behind" (defArgs s__law_behind) (defBody s__law_behind) (defScope s__law_behind) (d__law_behind.dvs K) [] (d__law_behind.adr K) fd := E.c.def_ 32 (d := d__law_behind) rfl
theorem Env.dd__law_same {P : Program} {K : PySem.W.Frag} {mg : Str → Option Value} (E : Env P K mg) : ∃ fd, FunD K "_law_same" "_law_same" (defArgs s__law_same) (defBody s__law_same) (defScope s__law_same) (d__law_same.dvs K) [] (d__law_same.adr K) fd := E.c.def_ 33 (d := d__law_same) rfl
theorem Env.dd__law_table {P : Program} {K : PySem.W.Frag} {mg : Str → Option Value} (E : Env P K mg) : ∃ fd, FunD K "_law_table" "_law_table" (defArgs s__law_table) (defBody s__law_table) (defScope s__law_table) (d__law_table.dvs K) [] (d__law_table.adr K) fd := E.c.def_ 34 (d := d__law_table) rfl
theorem Env.dd__law_great {P : Program} {K : PySem.W.Frag} {mg : Str → Option Value} (E : Env P K mg) : ∃ fd, FunD K "_law_great" "_law_great" (defArgs s__law_great) (defBody s__law_great) (defScope s__law_great) (d__law_great.dvs K) [] (d__law_great.adr K) fd := E.c.def_ 35 (d := d__law_great) rfl
theorem Env.dd__law_text {P : Program} {K : PySem.W.Frag} {mg : Str → Option Value} (E : Env P K mg) : ∃ fd, FunD K "_law_text" "_law_text" (defArgs s__law_text) (defBody s__law_text) (defScope s__law_text) (d__law_text.dvs K) [] (d__law_text.adr K) fd := E.c.def_ 36 (d := d__law_text) rfl
theorem Env.dd__law_telling {P : Program} {K : PySem.W.Frag} {mg : Str → Option Value} (E : Env P K mg) : ∃ fd, FunD K "_law_telling" "_law_telling" (defArgs s__law_telling) (defBody s__law_telling) (defScope s__law_telling) (d__law_telling.dvs K) [] (d__law_telling.adr K) fd := E.c.def_ 37 (d := d__law_telling) rfl
theorem Env.dd_law {P : Program} {K : PySem.W.Frag} {mg : Str → Option Value} (E : Env P K mg) : ∃ fd, FunD K "law" "law" (defArgs s_law) (defBody s_law) (defScope s_law) (d_law.dvs K) [] (d_law.adr K) fd := E.c.def_ 38 (d := d_law) rfl
theorem Env.dd_Table_init {P : Program} {K : PySem.W.Frag} {mg : Str → Option Value} (E : Env P K mg) : ∃ fd, FunD K "__init__" "Table.__init__" (defArgs s_Table_init) (defBody s_Table_init) (defScope s_Table_init) (d_Table_init.dvs K) [] (d_Table_init.adr K) fd := E.c.def_ 39 (d := d_Table_init) rfl
theorem Env.dd_Table_call {P : Program} {K : PySem.W.Frag} {mg : Str → Option Value} (E : Env P K mg) : ∃ fd, FunD K "__call__" "Table.__call__" (defArgs s_Table_call) (defBody s_Table_call) (defScope s_Table_call) (d_Table_call.dvs K) [] (d_Table_call.adr K) fd := E.c.def_ 40 (d := d_Table_call) rfl
theorem Env.dd_Table_end {P : Program} {K : PySem.W.Frag} {mg : Str → Option Value} (E : Env P K mg) : ∃ fd, FunD K "end" "Table.end" (defArgs s_Table_end) (defBody s_Table_end) (defScope s_Table_end) (d_Table_end.dvs K) [] (d_Table_end.adr K) fd := E.c.def_ 41 (d := d_Table_end) rfl
theorem Env.dd_Table_raw {P : Program} {K : PySem.W.Frag} {mg : Str → Option Value} (E : Env P K mg) : ∃ fd, FunD K "raw" "Table.raw" (defArgs s_Table_raw) (defBody s_Table_raw) (defScope s_Table_raw) (d_Table_raw.dvs K) [] (d_Table_raw.adr K) fd := E.c.def_ 42 (d := d_Table_raw) rfl
theorem Env.dd_Table_eq {P : Program} {K : PySem.W.Frag} {mg : Str → Option Value} (E : Env P K mg) : ∃ fd, FunD K "__eq__" "Table.__eq__" (defArgs s_Table_eq) (defBody s_Table_eq) (defScope s_Table_eq) (d_Table_eq.dvs K) [] (d_Table_eq.adr K) fd := E.c.def_ 43 (d := d_Table_eq) rfl
theorem Env.dd_Table_mul {P : Program} {K : PySem.W.Frag} {mg : Str → Option Value} (E : Env P K mg) : ∃ fd, FunD K "__mul__" "Table.__mul__" (defArgs s_Table_mul) (defBody s_Table_mul) (defScope s_Table_mul) (d_Table_mul.dvs K) [] (d_Table_mul.adr K) fd := E.c.def_ 44 (d := d_Table_mul) rfl
theorem Env.dd_Words_init {P : Program} {K : PySem.W.Frag} {mg : Str → Option Value} (E : Env P K mg) : ∃ fd, FunD K "__init__" "Words.__init__" (defArgs s_Words_init) (defBody s_Words_init) (defScope s_Words_init) (d_Words_init.dvs K) [] (d_Words_init.adr K) fd := E.c.def_ 45 (d := d_Words_init) rfl
theorem Env.dd_Words_ahead {P : Program} {K : PySem.W.Frag} {mg : Str → Option Value} (E : Env P K mg) : ∃ fd, FunD K "ahead" "Words.ahead" (defArgs s_Words_ahead) (defBody s_Words_ahead) (defScope s_Words_ahead) (d_Words_ahead.dvs K) [] (d_Words_ahead.adr K) fd := E.c.def_ 46 (d := d_Words_ahead) rfl
theorem Env.dd_Words_step {P : Program} {K : PySem.W.Frag} {mg : Str → Option Value} (E : Env P K mg) : ∃ fd, FunD K "step" "Words.step" (defArgs s_Words_step) (defBody s_Words_step) (defScope s_Words_step) (d_Words_step.dvs K) [] (d_Words_step.adr K) fd := E.c.def_ 47 (d := d_Words_step) rfl
theorem Env.dd_Words_take_counts {P : Program} {K : PySem.W.Frag} {mg : Str → Option Value} (E : Env P K mg) : ∃ fd, FunD K "take_counts" "Words.take_counts" (defArgs s_Words_take_counts) (defBody s_Words_take_counts) (defScope s_Words_take_counts) (d_Words_take_counts.dvs K) [] (d_Words_take_counts.adr K) fd := E.c.def_ 48 (d := d_Words_take_counts) rfl
theorem Env.dd_Words_take_rise {P : Program} {K : PySem.W.Frag} {mg : Str → Option Value} (E : Env P K mg) : ∃ fd, FunD K "take_rise" "Words.take_rise" (defArgs s_Words_take_rise) (defBody s_Words_take_rise) (defScope s_Words_take_rise) (d_Words_take_rise.dvs K) [] (d_Words_take_rise.adr K) fd := E.c.def_ 49 (d := d_Words_take_rise) rfl
theorem Env.dd_Words_close {P : Program} {K : PySem.W.Frag} {mg : Str → Option Value} (E : Env P K mg) : ∃ fd, FunD K "close" "Words.close" (defArgs s_Words_close) (defBody s_Words_close) (defScope s_Words_close) (d_Words_close.dvs K) [] (d_Words_close.adr K) fd := E.c.def_ 50 (d := d_Words_close) rfl

end M
namespace M
open PySem PySem.Spec PyProof.Rows L2 Evl MS
def nmL0 : List Str := ["_wall", "RosterneedError", "Unreadable", "WrongThing", "WrongWord", "BadText", "BadCount", "BadTable", "is_integer", "is_count", "is_listed", "is_counts", "deep", "at_most", "greater_of", "lesser_of", "common_divisor", "common_multiple", "end_of", "value_at", "short_loop", "plain_form", "formed", "until_never", "first_beyond"]
def nmL1 : List Str := ["behind_raw", "later_start", "joined_values", "joined_raw", "counts_below", "turned_raw", "is_rising", "checked_table", "Table", "table_from", "write_table", "number_of", "Words", "read_table", "_law_source", "_law_pick", "_law_is_integer", "_law_is_count", "_law_rising", "_law_raw", "_law_end", "_law_at", "_law_gcd", "_law_plain", "_law_fit"]
def nmL2 : List Str := ["_law_counts", "_law_behind", "_law_same", "_law_table", "_law_great", "_law_text", "_law_telling", "MOST_FIGURES"]
def nmL : List Str := nmL0 ++ nmL1 ++ nmL2
abbrev R : PySem.W.OpenRow := PySem.W.OpenLaw.row PySem.Challenge.rw_rosterneed_k10_whole_tables_read
abbrev hk : PySem.W.Hook := hookM 6 fa fn exB
def ob (s : PySem.W.SharedT) : AlM := obsMG 6 fa fn exB (HandSHeadRun.getT s)
theorem ob_eq (s : PySem.W.SharedT) : ob s = hk.obs s.abs := obsMG_eq (HandSHeadRun.getT_eq s)
theorem run (w : World) : HandSHeadRun.RunEq R (PySem.W.view R.prog [64]) hk ob 6000 nmL w := by
  intro os
  kernel_rfl
end M

namespace M
open PySem PySem.Spec PyProof.Rows L2 Evl MS
local macro_rules | `(tactic| walk_at "ex") => `(tactic| first
  | exact Ex.refl _ | with_reducible assumption | (refine' Ex.trans ?a ?b; (case b => with_reducible assumption); (case a => walk_at "ex")))
local macro_rules | `(tactic| walk_at "hp") => `(tactic| first
  | with_reducible assumption
  | (with_reducible refine' st_of ?a; (case a => with_reducible assumption))
  | (with_reducible refine' sq_of ?a; (case a => with_reducible assumption))
  | (with_reducible refine' ex_t ?a ?b; (case a => with_reducible assumption); (case b => walk_at "hp"))
  | (with_reducible refine' ex_l ?a ?b; (case a => with_reducible assumption); (case b => walk_at "hp"))
  | (with_reducible refine' ex_e ?a ?b; (case a => with_reducible assumption); (case b => walk_at "hp")))
local macro_rules | `(tactic| walk_at "om") => `(tactic| first
  | with_reducible assumption | omega | (simp only [List.length_map, List.length_nil, List.length_cons, List.length_append, List.length_range] <;> omega))
local macro_rules | `(tactic| walk_at "sz") => `(tactic| first
  | (refine sz_of ?_; omega) | exact sz_of (by simp only [List.length_map, List.length_nil, List.length_cons, List.length_append, List.length_range] <;> omega))
local macro_rules | `(tactic| walk_at "ty") => `(tactic| first
  | exact .base (.int _) | exact .base .non | exact .base (.bl _) | exact .base (.str _) | (with_reducible refine' SqT.ty ?a; (case a => walk_at "hp")) | (with_reducible refine' SqL.ty ?a; (case a => walk_at "hp")) | (with_reducible refine' dp_ty ?a; (case a => with_reducible assumption)))
local macro_rules | `(tactic| walk_at "vv") => `(tactic| first | refine w_v0 ?_ | refine w_v1 ?_ | refine w_v2 ?_ | refine w_v3 ?_ | refine w_v4 ?_ | refine w_v5 ?_ | refine w_v6 ?_ | refine w_v7 ?_ | refine w_v8 ?_ | refine w_v9 ?_ | refine w_v10 ?_ | refine w_v11 ?_ | refine w_v12 ?_ | refine w_v13 ?_ | refine w_v14 ?_ | refine w_v15 ?_)
local macro_rules | `(tactic| walk_at "nn") => `(tactic| first | refine w_n0 ?_ | refine w_n1 ?_ | refine w_n2 ?_ | refine w_n3 ?_ | refine w_n4 ?_ | refine w_n5 ?_ | refine w_n6 ?_ | refine w_n7 ?_ | refine w_n8 ?_ | refine w_n9 ?_ | refine w_n10 ?_ | refine w_n11 ?_ | refine w_n12 ?_ | refine w_n13 ?_ | refine w_n14 ?_ | refine w_n15 ?_)
local macro_rules | `(tactic| walk_at "w1") => `(tactic| with_reducible first
  | refine w_cons ?_ | (refine w_vv ?_; walk_at "vv") | refine w_nil ?_ | refine w_op ?_ | refine w_c ?_ | refine w_cb ?_ | refine w_seq ?_ | refine w_asg ?_ | (refine w_nn ?_; walk_at "nn")
  | refine w_test ?_ | refine w_exbl2 ?_ | refine w_ifS ?_ | refine w_ret ?_
  | refine w_call ?_ | refine w_call1 ?_ | refine w_call2 ?_ | refine w_call3 ?_
  | refine w_and ?_ | refine w_or ?_ | refine w_not ?_ | refine w_andV ?_ | refine w_orV ?_ | refine w_notV ?_ | refine w_ifE ?_ | refine w_un ?_ | refine w_tB ?_ | refine w_tru ?_ | refine r_truB ?_ | refine r_truI ?_
  | refine w_tup ?_ | refine w_lst ?_ | refine w_sl ?_ | refine w_part ?_ | refine w_noPart ?_ | refine w_exint ?_ | refine w_drop ?_ | refine w_next ?_ | refine w_yes ?_
  | refine w_gcons ?_ | refine w_gnil ?_ | refine iteT ?_ | refine iteF ?_
  | refine w_lcJ ?_ | refine w_forJ ?_ | refine i_r1 ?_ | refine i_r2 ?_ | refine w_fld ?_ | refine w_fldS ?_ | refine w_prop ?_ | refine w_meth ?_ | refine w_make ?_ | refine w_callO ?_ | refine w_callOI ?_ | refine w_bm ?_ | refine w_retN ?_ | refine w_chain ?_ | refine w_break ?_ | refine w_gsub ?_ | refine w_par ?_ | refine w_call4 ?_ | refine w_call5 ?_)
local macro_rules | `(tactic| walk_at "w2") => `(tactic| first
  | with_reducible (first | refine r_addI ?_ | refine r_subI ?_ | refine r_eqI ?_ | refine r_neI ?_ | refine r_lt ?_ | refine r_le ?_ | refine r_gt ?_ | refine r_ge ?_ | refine r_neg ?_)
  | with_reducible (first | refine r_eqO ?_ | refine r_neO ?_ | refine r_eqB ?_ | refine r_isO ?_ | refine r_isNotO ?_ | refine r_isI ?_ | refine r_isN ?_ | refine r_isR ?_ | refine r_isNotI ?_ | refine r_isNotN ?_ | refine r_isNotR ?_)
  | with_reducible (first | refine r_int ?_ | refine r_abs ?_ | refine r_max2 ?_ | refine r_min2 ?_ | refine r_boolB ?_)
  | ((with_reducible refine' r_lenTI ?a ?q); (case a => walk_at "hp"))
  | ((with_reducible refine' r_lenLI ?a ?q); (case a => walk_at "hp"))
  | ((with_reducible refine' r_lenT ?a ?q); (case a => walk_at "hp"))
  | ((with_reducible refine' r_lenL ?a ?q); (case a => walk_at "hp"))
  | ((with_reducible refine' w_gtup ?a ?b ?q); (case a => walk_at "hp"); (case b => rfl))
  | ((with_reducible refine' r_modI ?a ?q); (case a => walk_at "om"))
  | ((with_reducible refine' r_divI ?a ?b ?q); (case a => walk_at "om"); (case b => walk_at "om"))
  | ((with_reducible refine' r_ixTI ?a ?b ?c ?q); (case a => walk_at "hp"); (case b => walk_at "om"); (case c => walk_at "om"))
  | ((with_reducible refine' r_ixTN ?a ?b ?c ?q); (case a => walk_at "hp"); (case b => walk_at "om"); (case c => walk_at "om"))
  | ((with_reducible refine' r_ixLI ?a ?b ?c ?q); (case a => walk_at "hp"); (case b => walk_at "om"); (case c => walk_at "om"))
  | ((with_reducible refine' r_ixLN ?a ?b ?c ?q); (case a => walk_at "hp"); (case b => walk_at "om"); (case c => walk_at "om"))
  | ((with_reducible refine' r_lenEI ?a ?q); (case a => walk_at "hp"))
  | ((with_reducible refine' r_ixEI ?a ?b ?c ?q); (case a => walk_at "hp"); (case b => walk_at "om"); (case c => walk_at "om"))
  | ((with_reducible refine' r_ixEN ?a ?b ?c ?q); (case a => walk_at "hp"); (case b => walk_at "om"); (case c => walk_at "om"))
  | ((with_reducible refine' r_ixT ?a ?b ?q); (case a => walk_at "hp"); (case b => exact rfl))
  | ((with_reducible refine' r_ixL ?a ?b ?q); (case a => walk_at "hp"); (case b => exact rfl))
  | ((with_reducible refine' r_shr ?a ?q); (case a => walk_at "om"))
  | ((with_reducible refine' r_pow ?a ?q); (case a => (exact ⟨by decide, by decide, by decide⟩)))
  | ((with_reducible refine' r_bmL ?a ?q); (case a => walk_at "hp"))
  | ((with_reducible refine' r_mulI ?a ?q); (case a => first | (left; walk_at "om") | (right; walk_at "om")))
  | ((with_reducible refine' r_eqT ?a ?b ?q); (case a => walk_at "hp"); (case b => walk_at "hp"))
  | ((with_reducible refine' r_neT ?a ?b ?q); (case a => walk_at "hp"); (case b => walk_at "hp"))
  | ((with_reducible refine' i_x1 ?a ?q); (case a => omega))
  | ((with_reducible refine' i_x2 ?a ?q); (case a => omega))
  | ((with_reducible refine' i_xT ?a ?q); (case a => walk_at "hp"))
  | ((with_reducible refine' i_xL ?a ?q); (case a => walk_at "hp"))
  | ((with_reducible refine' r_slTto ?a ?b ?q); (case a => walk_at "hp"); (case b => walk_at "om"))
  | ((with_reducible refine' r_slTfrom ?a ?b ?q); (case a => walk_at "hp"); (case b => walk_at "om"))
  | ((with_reducible refine' r_slLto ?a ?b ?q); (case a => walk_at "hp"); (case b => walk_at "om"))
  | ((with_reducible refine' r_slLfrom ?a ?b ?q); (case a => walk_at "hp"); (case b => walk_at "om"))
  | ((with_reducible refine' r_slLmid ?a ?b ?c ?d ?q); (case a => walk_at "hp"); (case b => walk_at "om"); (case c => walk_at "om"); (case d => walk_at "om"))
  | ((with_reducible refine' r_tupT ?a ?q); (case a => walk_at "hp"))
  | ((with_reducible refine' r_tupL ?a ?q); (case a => walk_at "hp"))
  | ((with_reducible refine' r_lstT ?a ?q); (case a => walk_at "hp"))
  | ((with_reducible refine' r_lstL ?a ?q); (case a => walk_at "hp"))
  | ((with_reducible refine' w_newT ?a ?q); (case a => walk_at "sz"))
  | ((with_reducible refine' w_newL ?a ?q); (case a => walk_at "sz"))
  | ((with_reducible refine' r_isi (b := true) ?a ?b ?q); (case a => walk_at "ty"); (case b => exact rfl))
  | ((with_reducible refine' r_isi (b := false) ?a ?b ?q); (case a => walk_at "ty"); (case b => exact rfl))
  | ((with_reducible refine' r_isiT (b := true) ?a ?b ?c ?q); (case a => walk_at "hp"); (case b => walk_at "ty"); (case c => exact rfl))
  | ((with_reducible refine' r_isiT (b := false) ?a ?b ?c ?q); (case a => walk_at "hp"); (case b => walk_at "ty"); (case c => exact rfl))
  | ((with_reducible refine' w_dT ?a ?q); (case a => walk_at "om"))
  | ((with_reducible refine' w_dF ?a ?q); (case a => walk_at "om"))
  | ((with_reducible refine' w_nT ?a ?q); (case a => walk_at "om"))
  | ((with_reducible refine' w_nF ?a ?q); (case a => walk_at "om"))
  | ((with_reducible refine' w_bT ?a ?q); (case a => exact rfl))
  | ((with_reducible refine' w_bF ?a ?q); (case a => exact rfl)))
local macro_rules | `(tactic| walk_at "w") => `(tactic| repeat (first | walk_at "w1" | walk_at "w2"))

section
def dIsInt : PyData → Bool
  | .int _ => true
  | _ => false
def dIsCount : PyData → Bool
  | .int i => decide (0 ≤ i)
  | _ => false
def dIsSeq : PyData → Bool
  | .list _ => true
  | .tuple _ => true
  | _ => false
theorem dp_nodict {K : PySem.W.Frag} {H : Hp} {v : V} {x : List (PyData × PyData)} (h : Dp K H v (.dict x)) : False := nomatch h
abbrev N_is_integer : List Str := ["thing"]
theorem sc_is_integer : FnScope N_is_integer ["thing"] (defScope s_is_integer) := ⟨rfl, rfl, rfl, by decide +kernel, rfl, by decide +kernel, by decide +kernel⟩
theorem ok_is_integer {P : Program} {w : World} {K : PySem.W.Frag} {mg : Str → Option Value} {base : Heap} (E : Env P K mg) : Fn P w K mg base CX0 1 "is_integer" (sp1 fun v H Q _ => ∃ d, Dp K H v d ∧ RetD K (.bool (dIsInt d)) H Q) := by
  obtain ⟨fd, F⟩ := E.dd_is_integer
  refine Fn.mk0 F E.g_is_integer sc_is_integer sp1_len (fun _ _ _ _ _ _ us hl => match us, hl with | [_], _ => rfl) (fun cdv A outer s H vs Q X hr h => ?_)
  have nd := sc_is_integer.nd
  obtain ⟨v0, rfl, h⟩ := h
  refine ⟨_, (pss_one (ps_ret (pe_and (pe_callB (kIsi K) (by rfl) E.f_isinstance (by decide +kernel) (pa_cons (pv 0) (pa_cons (pe_bltn (v := .ty "int") (by rfl) E.f_int (by decide +kernel) rfl) pa_nil))) (pe_one (pe_not (pe_callB (kIsi K) (by rfl) E.f_isinstance (by decide +kernel) (pa_cons (pv 0) (pa_cons (pe_bltn (v := .ty "bool") (by rfl) E.f_bool (by decide +kernel) rfl) pa_nil)))))))), ?_⟩
  change (_ : TS) _ [some v0] H
  try dsimp only [cxOf, Cx.nox, Cx.blk]
  obtain ⟨d, hd, k⟩ := h
  cases d with
  | dict x => exact (dp_nodict hd).elim
  | int i => cases hd; walk_at "w"; exact k.bl (by walk_at "ex")
  | _ => cases hd <;> (walk_at "w"; exact k.bl (by walk_at "ex"))
abbrev N_is_count : List Str := ["thing"]
theorem sc_is_count : FnScope N_is_count ["thing"] (defScope s_is_count) := ⟨rfl, rfl, rfl, by decide +kernel, rfl, by decide +kernel, by decide +kernel⟩
theorem ok_is_count {P : Program} {w : World} {K : PySem.W.Frag} {mg : Str → Option Value} {base : Heap} (E : Env P K mg) : Fn P w K mg base CX0 2 "is_count" (sp1 fun v H Q _ => ∃ d, Dp K H v d ∧ RetD K (.bool (dIsCount d)) H Q) := by
  obtain ⟨fd, F⟩ := E.dd_is_count
  refine Fn.mk0 F E.g_is_count sc_is_count sp1_len (fun _ _ _ _ _ _ us hl => match us, hl with | [_], _ => rfl) (fun cdv A outer s H vs Q X hr h => ?_)
  have nd := sc_is_count.nd
  obtain ⟨v0, rfl, h⟩ := h
  refine ⟨_, (pss_one (ps_ret (pe_and (pc (ok_is_integer E) hr (by decide) pass0 rfl (pa_cons (pv 0) pa_nil)) (pe_one (pe_cmpR op_ge (pv 0) (pe_int) (nomark _)))))), ?_⟩
  change (_ : TS) _ [some v0] H
  try dsimp only [cxOf, Cx.nox, Cx.blk]
  obtain ⟨d, hd, k⟩ := h
  walk_at "w"
  refine ⟨d, hd, fun v H1 e1 d1 => ?_⟩
  obtain rfl := dp_toBl d1
  cases d with
  | int i =>
    cases hd
    walk_at "w"
    exact k.bl (by walk_at "ex")
  | _ => walk_at "w"; exact k.bl (by walk_at "ex")
abbrev N_is_listed : List Str := ["thing"]
theorem sc_is_listed : FnScope N_is_listed ["thing"] (defScope s_is_listed) := ⟨rfl, rfl, rfl, by decide +kernel, rfl, by decide +kernel, by decide +kernel⟩
theorem ok_is_listed {P : Program} {w : World} {K : PySem.W.Frag} {mg : Str → Option Value} {base : Heap} (E : Env P K mg) : Fn P w K mg base CX0 1 "is_listed" (sp1 fun v H Q _ => ∃ d, Dp K H v d ∧ RetD K (.bool (dIsSeq d)) H Q) := by
  obtain ⟨fd, F⟩ := E.dd_is_listed
  refine Fn.mk0 F E.g_is_listed sc_is_listed sp1_len (fun _ _ _ _ _ _ us hl => match us, hl with | [_], _ => rfl) (fun cdv A outer s H vs Q X hr h => ?_)
  have nd := sc_is_listed.nd
  obtain ⟨v0, rfl, h⟩ := h
  refine ⟨_, (pss_one (ps_ret (pe_callB (kIsiT K) (by rfl) E.f_isinstance (by decide +kernel) (pa_cons (pv 0) (pa_cons (pe_tup (pa_cons (pe_bltn (v := .ty "tuple") (by rfl) E.f_tuple (by decide +kernel) rfl) (pa_cons (pe_bltn (v := .ty "list") (by rfl) E.f_list (by decide +kernel) rfl) pa_nil))) pa_nil))))), ?_⟩
  change (_ : TS) _ [some v0] H
  try dsimp only [cxOf, Cx.nox, Cx.blk]
  obtain ⟨d, hd, k⟩ := h
  cases d with
  | dict x => exact (dp_nodict hd).elim
  | _ => cases hd <;> (walk_at "w"; intro p H1 n1 e1 h1; walk_at "w"; exact k.bl (by walk_at "ex"))

end
section
def endOf (l : List Int) (r : Int) : Option Int := if l = [] ∨ r > 0 then none else some (gI l (l.length - 1))
def vat (h l : List Int) (r p : Int) : Option Int :=
  if p = 0 then some 0 else if p ≤ h.length then some (gI h (p - 1)) else if l = [] then none
  else some (gI l ((p - h.length - 1) % l.length) + r * ((p - h.length - 1) / l.length))
def valueAt (h l : List Int) (r : Int) : Option Int → Option Int
  | none => endOf l r
  | some p => vat h l r p
/-- rises that fit a product -/
def RSm (h l : List Int) (r : Int) : Prop := -1152921504606846976 < r ∧ r < 1152921504606846976 ∧ h.length ≤ 50000 ∧ l.length ≤ 50000
abbrev N_end_of : List Str := ["raw", "head", "loop", "rise"]
theorem sc_end_of : FnScope N_end_of ["raw"] (defScope s_end_of) := ⟨rfl, rfl, rfl, by decide +kernel, rfl, by decide +kernel, by decide +kernel⟩
theorem ok_end_of {P : Program} {w : World} {K : PySem.W.Frag} {mg : Str → Option Value} {base : Heap} (E : Env P K mg) : Fn P w K mg base CX0 1 "end_of" (sp1 fun v H Q _ => ∃ h l r, Dp K H v (dRaw h l r) ∧ RetD K (dOpt (endOf l r)) H Q) := by
  obtain ⟨fd, F⟩ := E.dd_end_of
  refine Fn.mk0 F E.g_end_of sc_end_of sp1_len (fun _ _ _ _ _ _ us hl => match us, hl with | [_], _ => rfl) (fun cdv A outer s H vs Q X hr h => ?_)
  have nd := sc_end_of.nd
  obtain ⟨v0, rfl, h⟩ := h
  refine ⟨_, (pss_cons (ps_asg (pv 0) (kGtup K rfl (pgs_cons (pg_name (i := 1) nd rfl (.inl rfl)) (pgs_cons (pg_name (i := 2) nd rfl (.inl rfl)) (pgs_cons (pg_name (i := 3) nd rfl (.inl rfl)) (pgs_nil))))))
  (pss_cons (ps_if (PW.pt (pw_or (pt_cmpR (kEq K hr) (pe_callB (kLen K) (by rfl) E.f_len (by decide +kernel) (pa_cons (pv 2) pa_nil)) (pe_int) (nomark _)) (pw_or1 (pt_cmpR op_gt (pv 3) (pe_int) (nomark _)))))
   (pss_one (ps_ret (pe_non)))
   pss_nil)
  (pss_one (ps_ret (pe_ix (kIx K) (pv 2) (pe_un un_neg (pe_int)) (fun _ _ => rfl)))))), ?_⟩
  change (_ : TS) _ [some v0, none, none, none] H
  try dsimp only [cxOf, Cx.nox, Cx.blk]
  obtain ⟨hd, l, r, hD, k⟩ := h
  obtain ⟨a, th, tl, rfl, s1, s2, s3⟩ := dp_raw hD
  walk_at "w"
  by_cases h1 : l = []
  · subst h1
    walk_at "w"
    exact k.non (by walk_at "ex")
  · have h2 : 0 < l.length := List.length_pos_iff.mpr h1
    walk_at "w"
    unfold endOf at k
    by_cases h3 : 0 < r
    · walk_at "w"
      rw [if_pos (.inr h3)] at k
      exact k.non (by walk_at "ex")
    · walk_at "w"
      rw [if_neg (by rintro (h | h) <;> contradiction)] at k
      exact k.int (by walk_at "ex")
abbrev spValueAt (K : PySem.W.Frag) : Sp := sp2 fun a b H Q _ => ∃ h l r p, Dp K H a (dRaw h l r) ∧ Dp K H b (dOpt p) ∧ (∀ n, p = some n → 0 ≤ n) ∧ RSm h l r ∧ RetD K (dOpt (valueAt h l r p)) H Q
abbrev N_value_at : List Str := ["raw", "place", "head", "loop", "rise", "rest"]
theorem sc_value_at : FnScope N_value_at ["raw", "place"] (defScope s_value_at) := ⟨rfl, rfl, rfl, by decide +kernel, rfl, by decide +kernel, by decide +kernel⟩
theorem ok_value_at {P : Program} {w : World} {K : PySem.W.Frag} {mg : Str → Option Value} {base : Heap} (E : Env P K mg) : Fn P w K mg base CX0 2 "value_at" (spValueAt K) := by
  obtain ⟨fd, F⟩ := E.dd_value_at
  refine Fn.mk0 F E.g_value_at sc_value_at sp2_len (fun _ _ _ _ _ _ us hl => match us, hl with | [_, _], _ => rfl) (fun cdv A outer s H vs Q X hr h => ?_)
  have nd := sc_value_at.nd
  obtain ⟨v0, v1, rfl, h⟩ := h
  refine ⟨_, (pss_cons (ps_asg (pv 0) (kGtup K rfl (pgs_cons (pg_name (i := 2) nd rfl (.inl rfl)) (pgs_cons (pg_name (i := 3) nd rfl (.inl rfl)) (pgs_cons (pg_name (i := 4) nd rfl (.inl rfl)) (pgs_nil))))))
  (pss_cons (ps_if (pt_cmpR xIs (pv 1) (pe_non) (nomark _))
   (pss_one (ps_ret (pc (ok_end_of E) hr (by decide) pass0 rfl (pa_cons (pv 0) pa_nil))))
   pss_nil)
  (pss_cons (ps_if (pt_cmpR (kEq K hr) (pv 1) (pe_int) (nomark _))
   (pss_one (ps_ret (pe_int)))
   pss_nil)
  (pss_cons (ps_if (pt_cmpR op_le (pv 1) (pe_callB (kLen K) (by rfl) E.f_len (by decide +kernel) (pa_cons (pv 2) pa_nil)) (nomark _))
   (pss_one (ps_ret (pe_ix (kIx K) (pv 2) (pe_op xSub (pv 1) (pe_int)) (fun _ _ => rfl))))
   pss_nil)
  (pss_cons (ps_if (pt_cmpR (kEq K hr) (pe_callB (kLen K) (by rfl) E.f_len (by decide +kernel) (pa_cons (pv 3) pa_nil)) (pe_int) (nomark _))
   (pss_one (ps_ret (pe_non)))
   pss_nil)
  (pss_cons (ps_set (i := 5) nd rfl (.inl rfl) (pe_op xSub (pe_op xSub (pv 1) (pe_callB (kLen K) (by rfl) E.f_len (by decide +kernel) (pa_cons (pv 2) pa_nil))) (pe_int)))
  (pss_one (ps_ret (pe_op (kAdd K) (pe_ix (kIx K) (pv 3) (pe_op xMod (pv 5) (pe_callB (kLen K) (by rfl) E.f_len (by decide +kernel) (pa_cons (pv 3) pa_nil))) (fun _ _ => rfl)) (pe_op (kMul K) (pv 4) (pe_op xDiv (pv 5) (pe_callB (kLen K) (by rfl) E.f_len (by decide +kernel) (pa_cons (pv 3) pa_nil))))))))))))), ?_⟩
  change (_ : TS) _ [some v0, some v1, none, none, none, none] H
  try dsimp only [cxOf, Cx.nox, Cx.blk]
  obtain ⟨hd, l, r, p, hD, hp, hn, hr1, k⟩ := h
  obtain ⟨a, th, tl, rfl, s1, s2, s3⟩ := dp_raw hD
  obtain ⟨r1, r2, r3, r4⟩ := hr1
  cases p with
  | none =>
    obtain rfl := dp_toNon hp
    walk_at "w"
    exact ⟨hd, l, r, hD, k⟩
  | some p =>
    obtain rfl := dp_toInt hp
    have hn0 := hn p rfl
    walk_at "w"
    have k' : RetD K (dOpt (vat hd l r p)) H Q := k
    unfold vat at k'
    by_cases h0 : p = 0
    · walk_at "w"
      rw [if_pos h0] at k'
      exact k'.int (by walk_at "ex")
    · rw [if_neg h0] at k'
      walk_at "w"
      by_cases h1 : p ≤ hd.length
      · rw [if_pos h1] at k'
        walk_at "w"
        exact k'.int (by walk_at "ex")
      · rw [if_neg h1] at k'
        walk_at "w"
        by_cases h2 : l = []
        · rw [if_pos h2] at k'
          subst h2
          walk_at "w"
          exact k'.non (by walk_at "ex")
        · rw [if_neg h2] at k'
          have h3 : 0 < l.length := List.length_pos_iff.mpr h2
          have h4 : (p - hd.length - 1) % l.length < l.length := Int.emod_lt_of_pos _ (by omega)
          have h5 : 0 ≤ (p - hd.length - 1) % l.length := Int.emod_nonneg _ (by omega)
          walk_at "w"
          exact k'.int (by walk_at "ex")

end
section
/-- whether a loop goes on in the same way behind its first m entries -/
def slOk (l : List Int) (r : Int) (m : Nat) : Prop :=
  (l.length : Int) % m = 0 ∧ r % ((l.length : Int) / m) = 0 ∧ ∀ i : Nat, i + m < l.length → gI l (i + m) = gI l i + r / ((l.length : Int) / m)
open Classical in
noncomputable def shortLoop (l : List Int) (r : Int) : List Int × Int :=
  match (List.range' 1 (l.length - 1)).find? (fun m => decide (slOk l r m)) with
  | some m => (l.take m, r / ((l.length : Int) / m))
  | none => (l, r)
theorem shortLoop_some {l : List Int} {r : Int} {m : Nat} (h1 : 1 ≤ m) (h2 : m < l.length) (ho : slOk l r m) (hn : ∀ j, 1 ≤ j → j < m → ¬ slOk l r j) : shortLoop l r = (l.take m, r / ((l.length : Int) / m)) := by
  unfold shortLoop
  have e : (List.range' 1 (l.length - 1)).find? (fun m => @decide (slOk l r m) (Classical.propDecidable _)) = some m := by
    rw [List.find?_eq_some_iff_getElem]
    refine ⟨by simpa using ho, m - 1, by simp; omega, by simp; omega, fun j hj => ?_⟩
    simp
    exact hn (1 + j) (by omega) (by omega)
  rw [e]
theorem shortLoop_none {l : List Int} {r : Int} (hn : ∀ j, 1 ≤ j → j < l.length → ¬ slOk l r j) : shortLoop l r = (l, r) := by
  unfold shortLoop
  have e : (List.range' 1 (l.length - 1)).find? (fun m => @decide (slOk l r m) (Classical.propDecidable _)) = none := by
    rw [List.find?_eq_none]
    intro m hm
    simp at hm ⊢
    exact hn m (by omega) (by omega)
  rw [e]
abbrev N_short_loop : List Str := ["loop", "rise", "many", "step", "place"]
theorem sc_short_loop : FnScope N_short_loop ["loop", "rise"] (defScope s_short_loop) := ⟨rfl, rfl, rfl, by decide +kernel, rfl, by decide +kernel, by decide +kernel⟩
theorem ok_short_loop {P : Program} {w : World} {K : PySem.W.Frag} {mg : Str → Option Value} {base : Heap} (E : Env P K mg) : Fn P w K mg base CX0 1 "short_loop" (sp2 fun a b H Q _ => ∃ l r, Dp K H a (dInts l) ∧ Dp K H b (.int r) ∧ RSm [] l r ∧ RetD K (.tuple [dInts (shortLoop l r).1, .int (shortLoop l r).2]) H Q) := by
  obtain ⟨fd, F⟩ := E.dd_short_loop
  refine Fn.mk0 F E.g_short_loop sc_short_loop sp2_len (fun _ _ _ _ _ _ us hl => match us, hl with | [_, _], _ => rfl) (fun cdv A outer s H vs Q X hr h => ?_)
  have nd := sc_short_loop.nd
  obtain ⟨v0, v1, rfl, h⟩ := h
  refine ⟨_, (pss_cons (ps_for PassesOwn.never rfl (pi_range2 (by rfl) E.f_range (pa_cons (pe_int) (pa_cons (pe_callB (kLen K) (by rfl) E.f_len (by decide +kernel) (pa_cons (pv 0) pa_nil)) pa_nil))) (pg_name (i := 2) nd rfl (.inr rfl))
   (pss_one (ps_if (PW.pt (pw_and (pt_cmpR (kEq K hr) (pe_op xMod (pe_callB (kLen K) (by rfl) E.f_len (by decide +kernel) (pa_cons (pv 0) pa_nil)) (pv 2)) (pe_int) (nomark _)) (pw_and1 (pt_cmpR (kEq K hr) (pe_op xMod (pv 1) (pe_op xDiv (pe_callB (kLen K) (by rfl) E.f_len (by decide +kernel) (pa_cons (pv 0) pa_nil)) (pv 2))) (pe_int) (nomark _)))))
   (pss_cons (ps_set (i := 3) nd rfl (.inr rfl) (pe_op xDiv (pv 1) (pe_op xDiv (pe_callB (kLen K) (by rfl) E.f_len (by decide +kernel) (pa_cons (pv 0) pa_nil)) (pv 2))))
  (pss_one (ps_if (kTru K (pe_callB (kAll K rfl) (by rfl) E.f_all (by decide +kernel) (pa_cons (pe_lc (own := [("place", 4)]) (g := gName 4) (tt := tYes) rfl nd (pi_range1 (by rfl) E.f_range (pa_cons (pe_op xSub (pe_callB (kLen K) (by rfl) E.f_len (by decide +kernel) (pa_cons (pv 0) pa_nil)) (pv 2)) pa_nil)) (blkOk_by (N := N_short_loop) (sc := defScope s_short_loop) (by decide +kernel)) (fun _ _ _ _ _ => pg_name (i := 4) nd rfl (Or.inl rfl)) (fun _ _ _ _ _ => pts_nil) (fun _ _ _ _ _ => pe_cmpR (kEq K hr) (pe_ix (kIx K) (pv 0) (pe_op (kAdd K) (pv 4) (pv 2)) (fun _ _ => rfl)) (pe_op (kAdd K) (pe_ix (kIx K) (pv 0) (pv 4) (fun _ _ => rfl)) (pv 3)) (nomark _))) pa_nil)) (by intro _; rfl))
   (pss_one (ps_ret (pe_tup (pa_cons (pe_slice (kSl K) (pv 0) po_none (po_some (pv 2))) (pa_cons (pv 3) pa_nil)))))
   pss_nil)))
   pss_nil)))
  (pss_one (ps_ret (pe_tup (pa_cons (pv 0) (pa_cons (pv 1) pa_nil)))))), ?_⟩
  change (_ : TS) _ [some v0, some v1, none, none, none] H
  try dsimp only [cxOf, Cx.nox, Cx.blk]
  obtain ⟨l, r, hl, hri, ⟨r1, r2, r3, r4⟩, k⟩ := h
  obtain ⟨t, rfl, s1⟩ := dp_ints hl
  obtain rfl := dp_toInt hri
  walk_at "w"
  refine for_range (lo := 1) (Pv := fun i σ' H' => ∃ a b c, σ' = [some (.ref t), some (.int r), a, b, c] ∧ Ex H H' ∧ ∀ j : Nat, 1 ≤ j → j < 1 + i → ¬ slOk l r j) ⟨_, _, _, rfl, Ex.refl H, fun j h1 h2 => by omega⟩ ?_ ?_
  · rintro i σ' H' hi ⟨a, b, c, rfl, e, hnot⟩
    have hi' : 1 + i < l.length := by omega
    obtain ⟨m, hm⟩ : ∃ m : Nat, m = 1 + i := ⟨_, rfl⟩
    have hm0 : 0 < m := by omega
    rw [show (1 + (i : Int)) = (m : Int) by omega]
    have hq : 0 < (l.length : Int) / m := Int.le_ediv_of_mul_le (by omega) (by omega)
    have hq2 : (l.length : Int) / m ≤ l.length := Int.ediv_le_self _ (by omega)
    have hno : ¬ slOk l r m → ∀ j : Nat, 1 ≤ j → j < 1 + (i + 1) → ¬ slOk l r j := fun hn j h1 h2 => by
      by_cases hj : j = m
      · rw [hj]; exact hn
      · exact hnot j h1 (by omega)
    walk_at "w"
    by_cases c1 : (l.length : Int) % m = 0
    · walk_at "w"
      by_cases c2 : r % ((l.length : Int) / m) = 0
      · walk_at "w"
        refine lcJ_r0 (v := fun i => .bl (decide (gI l (i + m) = gI l i + r / ((l.length : Int) / m)))) (by omega) (fun x => [_, _, _, _, some x]) (fun x => rfl) (fun x => rfl) (fun j H1 Q' e1 hj hq => ?_) (fun p H2 np e2 hp => ?_)
        · walk_at "w"
          exact hq H1 (Ex.refl _)
        · rw [map_bl_range] at hp
          walk_at "w"
          refine r_all (sq_of hp) rfl ?_
          rw [all_range]
          walk_at "w"
          by_cases c3 : ∀ j : Nat, j < ((l.length : Int) - m).toNat → gI l (j + m) = gI l j + r / ((l.length : Int) / m)
          · walk_at "w"
            intro p3 H3 e3 s3
            walk_at "w"
            intro p4 H4 n4 e4 h4
            rw [shortLoop_some hm0 (by omega) ⟨c1, c2, fun j hj => c3 j (by omega)⟩ (fun j h1 h2 => hnot j h1 (by omega))] at k
            refine k _ _ (((e.trans e2).trans e3).trans e4) (.tup (st_of h4) (.cons (dp_of_ints (ex_t e4 ?_)) (.cons (.int _) .nil)))
            exact s3
          · walk_at "w"
            refine ⟨_, _, _, rfl, e.trans e2, hno fun h => c3 fun j hj => ?_⟩
            exact h.2.2 j (by omega)
      · walk_at "w"
        exact ⟨_, _, _, rfl, e, hno fun h => c2 h.2.1⟩
    · walk_at "w"
      exact ⟨_, _, _, rfl, e, hno fun h => c1 h.1⟩
  · rintro σ' H' ⟨a, b, c, rfl, e, hnot⟩
    walk_at "w"
    intro p H1 n1 e1 h1
    rw [shortLoop_none (fun j h1 h2 => hnot j h1 (by omega))] at k
    exact k _ _ (e.trans e1) (.tup (st_of h1) (.cons (dp_of_ints (ex_t e1 (ex_t e s1))) (.cons (.int r) .nil)))

end
section
theorem shortLoop_cases (l : List Int) (r : Int) : (shortLoop l r = (l, r)) ∨ ∃ m : Nat, 1 ≤ m ∧ m < l.length ∧ slOk l r m ∧ shortLoop l r = (l.take m, r / ((l.length : Int) / m)) := by
  by_cases h : ∃ m : Nat, 1 ≤ m ∧ m < l.length ∧ slOk l r m
  · have key : ∀ n : Nat, (∃ m : Nat, m ≤ n ∧ 1 ≤ m ∧ m < l.length ∧ slOk l r m) → ∃ m : Nat, 1 ≤ m ∧ m < l.length ∧ slOk l r m ∧ ∀ j, 1 ≤ j → j < m → ¬ slOk l r j := by
      intro n
      induction n with
      | zero => rintro ⟨m, h0, h1, _⟩; omega
      | succ n ih =>
        rintro ⟨m, h0, h1, h2, h3⟩
        by_cases q : ∃ m : Nat, m ≤ n ∧ 1 ≤ m ∧ m < l.length ∧ slOk l r m
        · exact ih q
        · exact ⟨m, h1, h2, h3, fun j j1 j2 j3 => q ⟨j, by omega, j1, by omega, j3⟩⟩
    obtain ⟨m, h1, h2, h3⟩ := h
    obtain ⟨m, h1, h2, h3, h4⟩ := key m ⟨m, Nat.le_refl _, h1, h2, h3⟩
    exact .inr ⟨m, h1, h2, h3, shortLoop_some h1 h2 h3 h4⟩
  · exact .inl (shortLoop_none fun j h1 h2 h3 => h ⟨j, h1, h2, h3⟩)
theorem shortLoop_len (l : List Int) (r : Int) : (shortLoop l r).1.length ≤ l.length ∧ (l ≠ [] → (shortLoop l r).1 ≠ []) := by
  rcases shortLoop_cases l r with e | ⟨m, h1, h2, _, e⟩
  · rw [e]; exact ⟨Nat.le_refl _, id⟩
  · rw [e]
    refine ⟨by show (l.take m).length ≤ _; rw [List.length_take]; omega, fun _ q => ?_⟩
    have : (l.take m).length = 0 := by rw [show l.take m = [] from q]; rfl
    rw [List.length_take] at this
    omega
theorem shortLoop_rise {l : List Int} {r : Int} (h : 0 ≤ r) : 0 ≤ (shortLoop l r).2 ∧ (shortLoop l r).2 ≤ r := by
  rcases shortLoop_cases l r with e | ⟨m, h1, h2, _, e⟩
  · rw [e]; exact ⟨h, Int.le_refl _⟩
  · rw [e]
    have hq : 0 < (l.length : Int) / m := Int.le_ediv_of_mul_le (by omega) (by omega)
    exact ⟨Int.ediv_nonneg h (by omega), Int.ediv_le_self _ h⟩
/-- what a loop going on backwards has back places ahead of itself -/
def bkV (l : List Int) (r back : Int) : Int := gI l (-1 - back % l.length + l.length) - r * (back / l.length + 1)
def cutH (h l : List Int) (r : Int) : Nat → Nat
  | 0 => 0
  | k + 1 => if gI h k = bkV l r (h.length - (k + 1)) then cutH h l r k else k + 1
noncomputable def plainF (h l : List Int) (r : Int) : List Int × List Int × Int :=
  if l = [] then (h, [], 0) else
    (h.take (cutH h (shortLoop l r).1 (shortLoop l r).2 h.length),
     (List.range (shortLoop l r).1.length).map fun i : Nat => (vat h (shortLoop l r).1 (shortLoop l r).2 (cutH h (shortLoop l r).1 (shortLoop l r).2 h.length + 1 + i)).getD 0,
     (shortLoop l r).2)
theorem cutH_le (h l : List Int) (r : Int) : ∀ k, cutH h l r k ≤ k
  | 0 => Nat.le_refl _
  | k + 1 => by
    unfold cutH
    split
    · exact Nat.le_succ_of_le (cutH_le h l r k)
    · exact Nat.le_refl _
theorem vat_some {h l : List Int} {r p : Int} (hl : l ≠ []) : vat h l r p = some ((vat h l r p).getD 0) := by
  unfold vat
  rw [if_neg hl]
  split
  · rfl
  · split <;> rfl
abbrev N_plain_form : List Str := ["head", "loop", "rise", "keep", "back", "told", "place"]
theorem sc_plain_form : FnScope N_plain_form ["head", "loop", "rise"] (defScope s_plain_form) := ⟨rfl, rfl, rfl, by decide +kernel, rfl, by decide +kernel, by decide +kernel⟩
theorem ok_plain_form {P : Program} {w : World} {K : PySem.W.Frag} {mg : Str → Option Value} {base : Heap} (E : Env P K mg) : Fn P w K mg base CX0 3 "plain_form" (sp3 fun a b c H Q _ => ∃ h l r, Dp K H a (dInts h) ∧ Dp K H b (dInts l) ∧ Dp K H c (.int r) ∧ 0 ≤ r ∧ RSm h l r ∧ RetD K (dRaw (plainF h l r).1 (plainF h l r).2.1 (plainF h l r).2.2) H Q) := by
  obtain ⟨fd, F⟩ := E.dd_plain_form
  refine Fn.mk0 F E.g_plain_form sc_plain_form sp3_len (fun _ _ _ _ _ _ us hl => match us, hl with | [_, _, _], _ => rfl) (fun cdv A outer s H vs Q X hr h => ?_)
  have nd := sc_plain_form.nd
  obtain ⟨v0, v1, v2, rfl, h⟩ := h
  refine ⟨_, (pss_cons (ps_if (pt_cmpR (kEq K hr) (pe_callB (kLen K) (by rfl) E.f_len (by decide +kernel) (pa_cons (pv 1) pa_nil)) (pe_int) (nomark _))
   (pss_one (ps_ret (pe_tup (pa_cons (pv 0) (pa_cons (pe_tup pa_nil) (pa_cons (pe_int) pa_nil))))))
   pss_nil)
  (pss_cons (ps_asg (pc (ok_short_loop E) hr (by decide) pass0 rfl (pa_cons (pv 1) (pa_cons (pv 2) pa_nil))) (kGtup K rfl (pgs_cons (pg_name (i := 1) nd rfl (.inl rfl)) (pgs_cons (pg_name (i := 2) nd rfl (.inl rfl)) (pgs_nil)))))
  (pss_cons (ps_set (i := 3) nd rfl (.inr rfl) (pe_callB (kLen K) (by rfl) E.f_len (by decide +kernel) (pa_cons (pv 0) pa_nil)))
  (pss_cut (ps_while PassesOwn.never (pt_cmpR op_gt (pv 3) (pe_int) (nomark _))
   (pss_cons (ps_set (i := 4) nd rfl (.inl rfl) (pe_op xSub (pe_callB (kLen K) (by rfl) E.f_len (by decide +kernel) (pa_cons (pv 0) pa_nil)) (pv 3)))
  (pss_cons (ps_if (pt_cmpR (kNe K hr) (pe_ix (kIx K) (pv 0) (pe_op xSub (pv 3) (pe_int)) (fun _ _ => rfl)) (pe_op xSub (pe_ix (kIx K) (pv 1) (pe_op xSub (pe_un un_neg (pe_int)) (pe_op xMod (pv 4) (pe_callB (kLen K) (by rfl) E.f_len (by decide +kernel) (pa_cons (pv 1) pa_nil)))) (fun _ _ => rfl)) (pe_op (kMul K) (pv 2) (pe_op (kAdd K) (pe_op xDiv (pv 4) (pe_callB (kLen K) (by rfl) E.f_len (by decide +kernel) (pa_cons (pv 1) pa_nil))) (pe_int)))) (nomark _))
   (pss_one (ps_break))
   pss_nil)
  (pss_one (ps_set (i := 3) nd rfl (.inr rfl) (pe_op xSub (pv 3) (pe_int)))))))
  (pss_cons (ps_set (i := 5) nd rfl (.inr rfl) (pe_tup (pa_cons (pv 0) (pa_cons (pv 1) (pa_cons (pv 2) pa_nil)))))
  (pss_one (ps_ret (pe_tup (pa_cons (pe_slice (kSl K) (pv 0) po_none (po_some (pv 3))) (pa_cons (pe_callTy (kTup K) (by rfl) E.f_tuple (by decide +kernel) (pa_cons (pe_lc (own := [("place", 6)]) (g := gName 6) (tt := tYes) rfl nd (pi_range1 (by rfl) E.f_range (pa_cons (pe_callB (kLen K) (by rfl) E.f_len (by decide +kernel) (pa_cons (pv 1) pa_nil)) pa_nil)) (blkOk_by (N := N_plain_form) (sc := defScope s_plain_form) (by decide +kernel)) (fun _ _ _ _ _ => pg_name (i := 6) nd rfl (Or.inl rfl)) (fun _ _ _ _ _ => pts_nil) (fun _ _ _ _ _ => pc (ok_value_at E) hr (by decide) pass0 rfl (pa_cons (pv 5) (pa_cons (pe_op (kAdd K) (pe_op (kAdd K) (pv 3) (pe_int)) (pv 6)) pa_nil)))) pa_nil)) (pa_cons (pv 2) pa_nil))))))))))), ?_⟩
  change (_ : TS) _ [some v0, some v1, some v2, none, none, none, none] H
  try dsimp only [cxOf, Cx.nox, Cx.blk]
  obtain ⟨h, l, r, hh, hl, hri, hr0, ⟨r1, r2, r3, r4⟩, k⟩ := h
  obtain ⟨th, rfl, s1⟩ := dp_ints hh
  obtain ⟨tl, rfl, s2⟩ := dp_ints hl
  obtain rfl := dp_toInt hri
  unfold plainF at k
  walk_at "w"
  by_cases hn : l = []
  · subst hn
    rw [if_pos rfl] at k
    walk_at "w"
    intro p1 H1 n1 e1 h1
    walk_at "w"
    intro p2 H2 n2 e2 h2
    exact k _ _ (e1.trans e2) (dp_of_raw (st_of h2) (ex_t e2 (ex_t e1 s1)) (ex_t e2 (st_of h1)))
  · rw [if_neg hn] at k
    have hl0 : 0 < l.length := List.length_pos_iff.mpr hn
    walk_at "w"
    refine ⟨l, r, dp_of_ints s2, .int r, ⟨r1, r2, by simp, r4⟩, fun v H1 e1 d1 => ?_⟩
    obtain ⟨pa, x, y, rfl, sp, dx, dy⟩ := dp_t2 d1
    obtain ⟨ta, rfl, sa⟩ := dp_ints dx
    obtain rfl := dp_toInt dy
    obtain ⟨q1, q2⟩ := shortLoop_len l r
    obtain ⟨q3, q4⟩ := shortLoop_rise (l := l) hr0
    have q5 := q2 hn
    have q5' := q5
    generalize shortLoop l r = sl at *
    obtain ⟨l', r'⟩ := sl
    dsimp only at *
    have hl1 : 0 < l'.length := List.length_pos_iff.mpr q5
    walk_at "w"
    refine w_cut (M := fun σ' H' => ∃ (m : Nat) (bk : Option V), σ' = [some (.ref th), some (.ref ta), some (.int r'), some (.int (m : Int)), bk, none, none] ∧ Ex H1 H' ∧ m ≤ h.length ∧ cutH h l' r' h.length = m) ?_ ?_
    · refine ⟨fun m σ' H' => ∃ bk, σ' = [some (.ref th), some (.ref ta), some (.int r'), some (.int (m : Int)), bk, none, none] ∧ Ex H1 H' ∧ m ≤ h.length ∧ cutH h l' r' h.length = cutH h l' r' m, ⟨h.length, none, rfl, Ex.refl _, Nat.le_refl _, rfl⟩, ?_⟩
      rintro m σ' H' ⟨bk, rfl, e2, hm, hc⟩
      walk_at "w"
      cases m with
      | zero =>
        walk_at "w"
        exact ⟨0, _, rfl, e2, hm, hc⟩
      | succ m =>
        walk_at "w"
        refine ⟨_, fun σ2 H2 h2 => ⟨m, Nat.lt_succ_self m, h2⟩, ?_⟩
        have hb0 : 0 ≤ ((h.length : Int) - (m + 1 : Nat)) % l'.length := Int.emod_nonneg _ (by omega)
        have hb1 : ((h.length : Int) - (m + 1 : Nat)) % l'.length < l'.length := Int.emod_lt_of_pos _ (by omega)
        walk_at "w"
        have hb : bkV l' r' ((h.length : Int) - (m + 1 : Nat)) = gI l' (-1 - (↑h.length - ↑(m + 1)) % ↑l'.length + ↑l'.length) - r' * ((↑h.length - ↑(m + 1)) / ↑l'.length + 1) := rfl
        rw [← hb, show ((m + 1 : Nat) : Int) - 1 = (m : Int) by omega]
        by_cases c : gI h m = bkV l' r' ((h.length : Int) - (m + 1 : Nat))
        · walk_at "w"
          rw [show ((m + 1 : Nat) : Int) - 1 = (m : Int) by omega]
          refine ⟨_, rfl, e2, by omega, ?_⟩
          rw [hc]
          exact if_pos c
        · walk_at "w"
          refine ⟨m + 1, _, rfl, e2, hm, ?_⟩
          rw [hc]
          exact if_neg c
    · rintro σ' H' ⟨m, bk, rfl, e2, hm, hc⟩
      walk_at "w"
      intro p1 H2 n2 e3 h3
      walk_at "w"
      intro p2 H3 e4 s4
      rw [Int.toNat_natCast] at s4
      walk_at "w"
      have hs : Dp K H3 (.ref p1) (dRaw h l' r') := dp_of_raw (ex_t e4 (st_of h3)) (by walk_at "hp") (by walk_at "hp")
      refine lcJ_r0 (v := fun i : Nat => .int ((vat h l' r' (m + 1 + i)).getD 0)) (by omega) (fun x => [_, _, _, _, _, _, some x]) (fun x => rfl) (fun x => rfl) (fun j H4 Q' e5 hj hq => ?_) (fun p4 H4 n4 e5 h5 => ?_)
      · walk_at "w"
        refine ⟨h, l', r', some (m + 1 + j), dp_ex e5 hs, .int _, fun n hn => by cases hn; omega, ⟨by omega, by omega, r3, by omega⟩, fun v H5 e6 d6 => ?_⟩
        obtain rfl := dp_toInt (by rw [show valueAt h l' r' (some (m + 1 + j)) = some _ from vat_some q5'] at d6; exact d6)
        exact hq _ e6
      · walk_at "w"
        intro p5 H5 e6 s6
        walk_at "w"
        intro p6 H6 n6 e7 h6
        rw [Int.toNat_natCast] at s6
        rw [hc] at k
        refine k _ _ (by walk_at "ex") (dp_of_raw (st_of h6) (by walk_at "hp") (ex_t e7 ?_))
        unfold vI
        rw [List.map_map]
        exact s6

end
section
def rising (ns : List Int) : Prop := ∀ i : Nat, i + 1 < ns.length → gI ns i ≤ gI ns (i + 1)
def allPos (ns : List Int) : Prop := ∀ n ∈ ns, 0 ≤ n
/-- a tuple or a list of ints -/
def dSeqI (b : Bool) (ns : List Int) : PyData := if b then dInts ns else dIntL ns
theorem dp_seqI {K : PySem.W.Frag} {H : Hp} {v : V} {b : Bool} {ns : List Int} (h : Dp K H v (dSeqI b ns)) : ∃ a, v = .ref a ∧ ((b = true ∧ SqT K H a (vI ns)) ∨ (b = false ∧ SqL K H a (vI ns))) := by
  cases b with
  | true => obtain ⟨a, e, s⟩ := dp_ints h; exact ⟨a, e, .inl ⟨rfl, s⟩⟩
  | false => obtain ⟨a, e, s⟩ := dp_intL h; exact ⟨a, e, .inr ⟨rfl, s⟩⟩
abbrev N_is_counts : List Str := ["thing", "one"]
theorem sc_is_counts : FnScope N_is_counts ["thing"] (defScope s_is_counts) := ⟨rfl, rfl, rfl, by decide +kernel, rfl, by decide +kernel, by decide +kernel⟩
theorem ok_is_counts {P : Program} {w : World} {K : PySem.W.Frag} {mg : Str → Option Value} {base : Heap} (E : Env P K mg) : Fn P w K mg base CX0 3 "is_counts" (sp1 fun v H Q _ => ∃ b ns, Dp K H v (dSeqI b ns) ∧ allPos ns ∧ ns.length ≤ 50000 ∧ RetD K (.bool true) H Q) := by
  obtain ⟨fd, F⟩ := E.dd_is_counts
  refine Fn.mk0 F E.g_is_counts sc_is_counts sp1_len (fun _ _ _ _ _ _ us hl => match us, hl with | [_], _ => rfl) (fun cdv A outer s H vs Q X hr h => ?_)
  have nd := sc_is_counts.nd
  obtain ⟨v0, rfl, h⟩ := h
  refine ⟨_, (pss_one (ps_ret (pe_and (pc (ok_is_listed E) hr (by decide) pass0 rfl (pa_cons (pv 0) pa_nil)) (pe_one (pe_callB (kAll K rfl) (by rfl) E.f_all (by decide +kernel) (pa_cons (pe_lc (own := [("one", 1)]) (g := gName 1) (tt := tYes) rfl nd (kSeq K (pv 0)) (blkOk_by (N := N_is_counts) (sc := defScope s_is_counts) (by decide +kernel)) (fun _ _ _ _ _ => pg_name (i := 1) nd rfl (Or.inl rfl)) (fun _ _ _ _ _ => pts_nil) (fun _ _ _ _ _ => pc (ok_is_count E) hr (by decide) pass0 rfl (pa_cons (pv 1) pa_nil))) pa_nil)))))), ?_⟩
  change (_ : TS) _ [some v0, none] H
  try dsimp only [cxOf, Cx.nox, Cx.blk]
  obtain ⟨b, ns, hd, hp, hz, k⟩ := h
  obtain ⟨a, rfl, hs⟩ := dp_seqI hd
  walk_at "w"
  refine ⟨_, hd, fun v H1 e1 d1 => ?_⟩
  have e : dIsSeq (dSeqI b ns) = true := by cases b <;> rfl
  rw [e] at d1
  obtain rfl := dp_toBl d1
  walk_at "w"
  have key : ∀ (x : V) (H2 : Hp) (Q' : VK), x ∈ vI ns → (∀ H3, Ex H2 H3 → Q' (.bl true) H3) → ∃ d, Dp K H2 x d ∧ RetD K (.bool (dIsCount d)) H2 Q' := fun x H2 Q' hx hq => by
    obtain ⟨n, hn, rfl⟩ := List.mem_map.mp hx
    refine ⟨.int n, .int n, fun v H3 e3 d3 => ?_⟩
    rw [show dIsCount (.int n) = true from decide_eq_true (hp n hn)] at d3
    obtain rfl := dp_toBl d3
    exact hq H3 e3
  have fin : ∀ (p : Addr) (H2 : Hp), Ex H1 H2 → H2 p = some (.lst ((vI ns).map fun _ => V.bl true)) → rAll K [.ref p] H2 (fun v H => Q v H) := fun p H2 e2 hp => by
    refine r_all (bs := (vI ns).map fun _ => true) (sq_of hp) (by simp [Function.comp]) ?_
    have : ((vI ns).map fun _ => true).all id = true := by simp
    rw [this]
    exact k.bl (e1.trans e2)
  rcases hs with ⟨rfl, s⟩ | ⟨rfl, s⟩
  · refine i_seqT ?_
    walk_at "w"
    refine lcJ_tup (v := fun _ => .bl true) (ex_t e1 s) (by rw [List.length_map]; omega) (fun x => [_, some x]) (fun x => rfl) (fun x => rfl) (fun x H2 Q' e2 hx hq => ?_) (fun p H2 n2 e2 hp => ?_)
    · walk_at "w"
      exact key x H2 Q' hx hq
    · walk_at "w"
      exact fin p H2 e2 hp
  · refine i_seqL ?_
    walk_at "w"
    refine lcJ_list (v := fun _ => .bl true) (ex_l e1 s) (by rw [List.length_map]; omega) (fun x => [_, some x]) (fun x => rfl) (fun x => rfl) (fun x H2 Q' e2 hx hq => ?_) (fun p H2 n2 e2 hp => ?_)
    · walk_at "w"
      exact key x H2 Q' hx hq
    · walk_at "w"
      exact fin p H2 e2 hp
abbrev N_is_rising : List Str := ["counts", "place"]
theorem sc_is_rising : FnScope N_is_rising ["counts"] (defScope s_is_rising) := ⟨rfl, rfl, rfl, by decide +kernel, rfl, by decide +kernel, by decide +kernel⟩
theorem ok_is_rising {P : Program} {w : World} {K : PySem.W.Frag} {mg : Str → Option Value} {base : Heap} (E : Env P K mg) : Fn P w K mg base CX0 1 "is_rising" (sp1 fun v H Q _ => ∃ b ns, Dp K H v (dSeqI b ns) ∧ rising ns ∧ ns.length ≤ 50000 ∧ RetD K (.bool true) H Q) := by
  obtain ⟨fd, F⟩ := E.dd_is_rising
  refine Fn.mk0 F E.g_is_rising sc_is_rising sp1_len (fun _ _ _ _ _ _ us hl => match us, hl with | [_], _ => rfl) (fun cdv A outer s H vs Q X hr h => ?_)
  have nd := sc_is_rising.nd
  obtain ⟨v0, rfl, h⟩ := h
  refine ⟨_, (pss_one (ps_ret (pe_callB (kAll K rfl) (by rfl) E.f_all (by decide +kernel) (pa_cons (pe_lc (own := [("place", 1)]) (g := gName 1) (tt := tYes) rfl nd (pi_range1 (by rfl) E.f_range (pa_cons (pe_op xSub (pe_callB (kLen K) (by rfl) E.f_len (by decide +kernel) (pa_cons (pv 0) pa_nil)) (pe_int)) pa_nil)) (blkOk_by (N := N_is_rising) (sc := defScope s_is_rising) (by decide +kernel)) (fun _ _ _ _ _ => pg_name (i := 1) nd rfl (Or.inl rfl)) (fun _ _ _ _ _ => pts_nil) (fun _ _ _ _ _ => pe_cmpR op_le (pe_ix (kIx K) (pv 0) (pv 1) (fun _ _ => rfl)) (pe_ix (kIx K) (pv 0) (pe_op (kAdd K) (pv 1) (pe_int)) (fun _ _ => rfl)) (nomark _))) pa_nil)))), ?_⟩
  change (_ : TS) _ [some v0, none] H
  try dsimp only [cxOf, Cx.nox, Cx.blk]
  obtain ⟨b, ns, hd, hri, hz, k⟩ := h
  obtain ⟨a, rfl, hs⟩ := dp_seqI hd
  have fin : ∀ (p : Addr) (H2 : Hp), Ex H H2 → H2 p = some (.lst ((List.range ((ns.length : Int) - 1).toNat).map fun _ => V.bl true)) → rAll K [.ref p] H2 (fun v H => Q v H) := fun p H2 e2 hp => by
    refine r_all (bs := (List.range ((ns.length : Int) - 1).toNat).map fun _ => true) (sq_of hp) (by simp [Function.comp]) ?_
    have : ((List.range ((ns.length : Int) - 1).toNat).map fun _ => true).all id = true := by simp
    rw [this]
    exact k.bl e2
  have cmp : ∀ j : Nat, j < ((ns.length : Int) - 1).toNat → decide (gI ns j ≤ gI ns (j + 1)) = true := fun j hj => decide_eq_true (hri j (by omega))
  rcases hs with ⟨rfl, s⟩ | ⟨rfl, s⟩
  all_goals
    walk_at "w"
    refine lcJ_r0 (v := fun _ => .bl true) (by omega) (fun x => [_, some x]) (fun x => rfl) (fun x => rfl) (fun j H2 Q' e2 hj hq => ?_) (fun p H2 n2 e2 hp => ?_)
    · walk_at "w"
      rw [cmp j hj]
      exact hq _ (Ex.refl _)
    · walk_at "w"
      exact fin p H2 e2 hp

end
section
abbrev spDeep (K : PySem.W.Frag) (n : Nat) : Sp := sp1 fun v H Q _ => ∃ d, Dp K H v d ∧ shp n d = true ∧ RetD K (dDeep d) H Q
abbrev N_deep : List Str := ["thing", "one"]
theorem sc_deep : FnScope N_deep ["thing"] (defScope s_deep) := ⟨rfl, rfl, rfl, by decide +kernel, rfl, by decide +kernel, by decide +kernel⟩
--derivation of deep:
theorem deep_step {P : Program} {w : World} {K : PySem.W.Frag} {mg : Str → Option Value} {base : Heap} (E : Env P K mg) {k n : Nat} {sp : Sp} (hk1 : 1 ≤ k) (IH : Fn P w K mg base CX0 k "deep" sp)
    (hsp : ∀ (m : Nat), n = m + 1 → sp = spDeep K m) : Fn P w K mg base CX0 (k + 1) "deep" (spDeep K n) := by
  obtain ⟨fd, F⟩ := E.dd_deep
  refine Fn.mk0 F E.g_deep sc_deep sp1_len (fun _ _ _ _ _ _ us hl => match us, hl with | [_], _ => rfl) (fun cdv A outer s H vs Q X hr h => ?_)
  have nd := sc_deep.nd
  obtain ⟨v0, rfl, h⟩ := h
  refine ⟨_, (pss_cons (ps_if (kTru K (pc (ok_is_listed E) hr (by omega) pass0 rfl (pa_cons (pv 0) pa_nil)) (by intro _; rfl))
   (pss_one (ps_ret (pe_callTy (kTup K) (by rfl) E.f_tuple (by decide +kernel) (pa_cons (pe_lc (own := [("one", 1)]) (g := gName 1) (tt := tYes) rfl nd (kSeq K (pv 0)) (blkOk_by (N := N_deep) (sc := defScope s_deep) (by decide +kernel)) (fun _ _ _ _ _ => pg_name (i := 1) nd rfl (Or.inl rfl)) (fun _ _ _ _ _ => pts_nil) (fun _ _ _ _ _ => pc IH hr (by omega) pass0 rfl (pa_cons (pv 1) pa_nil))) pa_nil))))
   pss_nil)
  (pss_one (ps_ret (pv 0)))), ?_⟩
  change (_ : TS) _ [some v0, none] H
  obtain ⟨d, hd, hs, k⟩ := h
  walk_at "w"
  refine ⟨d, hd, fun v H1 e1 d1 => ?_⟩
  obtain rfl := dp_toBl d1
  have h0 : ∀ (b : Bool), dIsSeq d = b → (b = false → dDeep d = d) := by
    intro b hb hb2
    subst hb2
    cases d with
    | list _ => exact nomatch hb
    | tuple _ => exact nomatch hb
    | dict _ => exact (dp_nodict hd).elim
    | _ => rfl
  cases hq : dIsSeq d with
  | false =>
    walk_at "w"
    rw [h0 false hq rfl] at k
    exact k _ _ e1 (dp_ex e1 hd)
  | true =>
    walk_at "w"
    cases n with
    | zero => cases d <;> first | (simp [dIsSeq] at hq; done) | (simp [shp] at hs; done)
    | succ n =>
      have esp := hsp n rfl
      subst esp
      have fin : ∀ (ds : List PyData) (p : Addr) (H2 : Hp) (ys : List V), dDeep d = .tuple (dDeepAll ds) → Ex H1 H2 → H2 p = some (.lst ys) → DpAll K H2 ys ((List.range ds.length).map fun i => dDeep (ds.getD i .none)) → ∀ (p3 : Addr) (H3 : Hp), Ex H2 H3 → SqT K H3 p3 ys → Q (.ref p3) H3 := fun ds p H2 ys he e2 hp hy p3 H3 e3 s3 => by
        rw [he] at k
        refine k _ _ (e1.trans (e2.trans e3)) (.tup s3 ?_)
        have el : (List.range ds.length).map (fun i => dDeep (ds.getD i .none)) = dDeepAll ds := by
          rw [dDeepAll_eq]
          apply List.ext_getElem
          · simp
          · intro i h1 h2
            simp at h1 h2
            simp [h2]
        rw [el] at hy
        exact dpAll_ex e3 hy
      have elt : ∀ (ds : List PyData) (xs : List V) (H1' : Hp) (i : Nat) (x : V) (Q' : VK) (h1 : DpAll K H xs ds) (hsh : shpAll n ds = true), Ex H H1' → xs[i]? = some x → (∀ y H2, Ex H1' H2 → Dp K H2 y (dDeep (ds.getD i .none)) → Q' y H2) → ∃ d, Dp K H1' x d ∧ shp n d = true ∧ RetD K (dDeep d) H1' Q' := by
        intro ds xs H1' i x Q' h1 hsh e hx hq
        obtain ⟨d', g1, g2⟩ := dpAll_get h1 hx
        refine ⟨d', dp_ex e g2, shpAll_get hsh g1, fun y H2 e2 d2 => hq y H2 e2 ?_⟩
        rw [List.getD_eq_getElem?_getD, g1]
        exact d2
      cases hd with
      | lst s a =>
        rename_i ad xs ds
        obtain ⟨hz, hsh⟩ := Bool.and_eq_true_iff.mp (show (decide (ds.length ≤ 50000) && shpAll n ds) = true from hs)
        have hz' := of_decide_eq_true hz
        have hl := dpAll_len a
        refine i_seqL ?_
        walk_at "w"
        refine lcD_list (fun i => dDeep (ds.getD i .none)) (fun i => imm_deep _) (ex_l e1 s) (by omega) (fun x => [_, some x]) (fun x => rfl) (fun x => rfl) (fun i x H2 Q' e2 hx hq => ?_) (fun p H2 ys n2 e2 hp hy => ?_)
        · walk_at "w"
          exact elt ds xs H2 i x Q' a hsh (e1.trans e2) hx hq
        · walk_at "w"
          rw [hl] at hy
          intro p3 H3 e3 s3
          exact fin ds p H2 ys rfl e2 hp hy p3 H3 e3 s3
      | tup s a =>
        rename_i ad xs ds
        obtain ⟨hz, hsh⟩ := Bool.and_eq_true_iff.mp (show (decide (ds.length ≤ 50000) && shpAll n ds) = true from hs)
        have hz' := of_decide_eq_true hz
        have hl := dpAll_len a
        refine i_seqT ?_
        walk_at "w"
        refine lcD_tup (fun i => dDeep (ds.getD i .none)) (fun i => imm_deep _) (ex_t e1 s) (by omega) (fun x => [_, some x]) (fun x => rfl) (fun x => rfl) (fun i x H2 Q' e2 hx hq => ?_) (fun p H2 ys n2 e2 hp hy => ?_)
        · walk_at "w"
          exact elt ds xs H2 i x Q' a hsh (e1.trans e2) hx hq
        · walk_at "w"
          rw [hl] at hy
          intro p3 H3 e3 s3
          exact fin ds p H2 ys rfl e2 hp hy p3 H3 e3 s3
      | _ => exact nomatch hq
theorem ok_deepN {P : Program} {w : World} {K : PySem.W.Frag} {mg : Str → Option Value} {base : Heap} (E : Env P K mg) : ∀ n : Nat, Fn P w K mg base CX0 (n + 2) "deep" (spDeep K n)
  | 0 => by
    obtain ⟨fd, F⟩ := E.dd_deep
    exact deep_step E (k := 1) (Nat.le_refl _) (Fn.never F E.g_deep (ps := ["thing"]) (fun _ _ _ _ _ _ us hl => match us, hl with | [_], _ => rfl)) (fun m e => nomatch e)
  | n + 1 => deep_step E (by omega) (ok_deepN E n) (fun m e => by cases e; rfl)
theorem ok_deep {P : Program} {w : World} {K : PySem.W.Frag} {mg : Str → Option Value} {base : Heap} (E : Env P K mg) : Fn P w K mg base CX0 8 "deep" (spDeep K 6) := ok_deepN E 6

end
section
/-- a head, a loop and a rise that make a table -/
structure Val (h l : List Int) (r : Int) : Prop where
  p1 : allPos h
  p2 : allPos l
  r1 : rising h
  r2 : rising l
  r0 : 0 ≤ r
  e0 : l = [] → r = 0
  hl : h ≠ [] → l ≠ [] → gI h (h.length - 1) ≤ gI l 0
  ll : l ≠ [] → gI l (l.length - 1) ≤ gI l 0 + r
  sm : RSm h l r
theorem dp_seqE {K : PySem.W.Frag} {H : Hp} {v : V} {b : Bool} {ns : List Int} (h : Dp K H v (dSeqI b ns)) : ∃ a, v = .ref a ∧ SqE K H a (vI ns) := by
  obtain ⟨a, e, h⟩ := dp_seqI h
  exact ⟨a, e, h.elim (fun h => .inr h.2) (fun h => .inl h.2)⟩
theorem deep_seq (b : Bool) (ns : List Int) : dDeep (dSeqI b ns) = dInts ns := by
  cases b <;> (show PyData.tuple (dDeepAll (ns.map .int)) = _; rw [dDeep_ints])
theorem shp_seq {b : Bool} {ns : List Int} (h : ns.length ≤ 50000) : shp 6 (dSeqI b ns) = true := by
  have key : ∀ ns : List Int, shpAll 5 (ns.map .int) = true := fun ns => by
    induction ns with
    | nil => rfl
    | cons n ns ih => show (shp 5 (.int n) && shpAll 5 (ns.map .int)) = true; rw [ih]; rfl
  cases b <;> (show (decide ((ns.map PyData.int).length ≤ 50000) && shpAll 5 (ns.map .int)) = true; rw [key, List.length_map, decide_eq_true h]; rfl)
noncomputable abbrev dPl (h l : List Int) (r : Int) : PyData := dRaw (plainF h l r).1 (plainF h l r).2.1 (plainF h l r).2.2
abbrev N_checked_table : List Str := ["head", "loop", "rise"]
theorem sc_checked_table : FnScope N_checked_table ["head", "loop", "rise"] (defScope s_checked_table) := ⟨rfl, rfl, rfl, by decide +kernel, rfl, by decide +kernel, by decide +kernel⟩
theorem ok_checked_table {P : Program} {w : World} {K : PySem.W.Frag} {mg : Str → Option Value} {base : Heap} (E : Env P K mg) : Fn P w K mg base CX0 9 "checked_table" (sp3 fun a b c H Q _ => ∃ b1 b2 h l r, Dp K H a (dSeqI b1 h) ∧ Dp K H b (dSeqI b2 l) ∧ Dp K H c (.int r) ∧ Val h l r ∧ RetD K (dPl h l r) H Q) := by
  obtain ⟨fd, F⟩ := E.dd_checked_table
  refine Fn.mk0 F E.g_checked_table sc_checked_table sp3_len (fun _ _ _ _ _ _ us hl => match us, hl with | [_, _, _], _ => rfl) (fun cdv A outer s H vs Q X hr h => ?_)
  have nd := sc_checked_table.nd
  obtain ⟨v0, v1, v2, rfl, h⟩ := h
  refine ⟨_, (pss_cut (ps_if (PW.pt (pw_or (pt_not (kTru K (pc (ok_is_counts E) hr (by decide) pass0 rfl (pa_cons (pv 0) pa_nil)) (by intro _; rfl))) (pw_or1 (pt_not (kTru K (pc (ok_is_rising E) hr (by decide) pass0 rfl (pa_cons (pv 0) pa_nil)) (by intro _; rfl))))))
   (pss_one (ps_never))
   pss_nil)
  (pss_cut (ps_if (PW.pt (pw_or (pt_not (kTru K (pc (ok_is_counts E) hr (by decide) pass0 rfl (pa_cons (pv 1) pa_nil)) (by intro _; rfl))) (pw_or1 (pt_not (kTru K (pc (ok_is_rising E) hr (by decide) pass0 rfl (pa_cons (pv 1) pa_nil)) (by intro _; rfl))))))
   (pss_one (ps_never))
   pss_nil)
  (pss_cut (ps_if (PW.pt (pw_and (pt_cmpR op_gt (pe_callB (kLen K) (by rfl) E.f_len (by decide +kernel) (pa_cons (pv 0) pa_nil)) (pe_int) (nomark _)) (pw_and (pt_cmpR op_gt (pe_callB (kLen K) (by rfl) E.f_len (by decide +kernel) (pa_cons (pv 1) pa_nil)) (pe_int) (nomark _)) (pw_and1 (pt_cmpR op_lt (pe_ix (kIx K) (pv 1) (pe_int) (fun _ _ => rfl)) (pe_ix (kIx K) (pv 0) (pe_un un_neg (pe_int)) (fun _ _ => rfl)) (nomark _))))))
   (pss_one (ps_never))
   pss_nil)
  (pss_cut (ps_if (PW.pt (pw_or (pt_not (kTru K (pc (ok_is_count E) hr (by decide) pass0 rfl (pa_cons (pv 2) pa_nil)) (by intro _; rfl))) (pw_or1 (PW.pt (pw_and (pt_cmpR (kEq K hr) (pe_callB (kLen K) (by rfl) E.f_len (by decide +kernel) (pa_cons (pv 1) pa_nil)) (pe_int) (nomark _)) (pw_and1 (pt_cmpR op_gt (pv 2) (pe_int) (nomark _))))))))
   (pss_one (ps_never))
   pss_nil)
  (pss_cut (ps_if (PW.pt (pw_and (pt_cmpR op_gt (pe_callB (kLen K) (by rfl) E.f_len (by decide +kernel) (pa_cons (pv 1) pa_nil)) (pe_int) (nomark _)) (pw_and1 (pt_cmpR op_gt (pe_ix (kIx K) (pv 1) (pe_un un_neg (pe_int)) (fun _ _ => rfl)) (pe_op (kAdd K) (pe_ix (kIx K) (pv 1) (pe_int) (fun _ _ => rfl)) (pv 2)) (nomark _)))))
   (pss_one (ps_never))
   pss_nil)
  (pss_one (ps_ret (pc (ok_plain_form E) hr (by decide) pass0 rfl (pa_cons (pc (ok_deep E) hr (by decide) pass0 rfl (pa_cons (pv 0) pa_nil)) (pa_cons (pc (ok_deep E) hr (by decide) pass0 rfl (pa_cons (pv 1) pa_nil)) (pa_cons (pv 2) pa_nil))))))))))), ?_⟩
  change (_ : TS) _ [some v0, some v1, some v2] H
  try dsimp only [cxOf, Cx.nox, Cx.blk]
  obtain ⟨b1, b2, h, l, r, d1, d2, d3, W, k⟩ := h
  obtain rfl := dp_toInt d3
  obtain ⟨z1, z2, z3, z4⟩ := W.sm
  have z5 := W.r0
  obtain ⟨a1, rfl, s1⟩ := dp_seqE d1
  obtain ⟨a2, rfl, s2⟩ := dp_seqE d2
  have hlast : h ≠ [] → l ≠ [] → gI h (-1 + h.length) ≤ gI l 0 := fun q1 q2 => by
    have := W.hl q1 q2
    rwa [show (h.length : Int) - 1 = -1 + h.length by omega] at this
  have llast : l ≠ [] → gI l (-1 + l.length) ≤ gI l 0 + r := fun q1 => by
    have := W.ll q1
    rwa [show (l.length : Int) - 1 = -1 + l.length by omega] at this
  have ne0 : ∀ {xs : List Int}, 0 < (xs.length : Int) → xs ≠ [] := fun q => List.length_pos_iff.mp (by omega)
  refine w_cut (M := fun σ' H' => σ' = [some (.ref a1), some (.ref a2), some (.int r)] ∧ Ex H H') ?_ ?_
  · walk_at "w"
    refine ⟨b1, h, d1, W.p1, z3, fun v H1 e1 q1 => ?_⟩
    obtain rfl := dp_toBl q1
    walk_at "w"
    refine ⟨b1, h, dp_ex e1 d1, W.r1, z3, fun v H2 e2 q1 => ?_⟩
    obtain rfl := dp_toBl q1
    walk_at "w"
    exact ⟨rfl, e1.trans e2⟩
  rintro σ' H0 ⟨rfl, e0⟩
  refine w_cut (M := fun σ' H' => σ' = [some (.ref a1), some (.ref a2), some (.int r)] ∧ Ex H H') ?_ ?_
  · walk_at "w"
    refine ⟨b2, l, dp_ex e0 d2, W.p2, z4, fun v H1 e1 q1 => ?_⟩
    obtain rfl := dp_toBl q1
    walk_at "w"
    refine ⟨b2, l, dp_ex (e0.trans e1) d2, W.r2, z4, fun v H2 e2 q1 => ?_⟩
    obtain rfl := dp_toBl q1
    walk_at "w"
    exact ⟨rfl, (e0.trans e1).trans e2⟩
  rintro σ' H1 ⟨rfl, e1⟩
  clear e0
  refine w_cut (M := fun σ' H' => σ' = [some (.ref a1), some (.ref a2), some (.int r)] ∧ Ex H H') ?_ ?_
  · walk_at "w"
    refine w_ite (fun q1 => ?_) (fun q1 => ?_)
    · walk_at "w"
      refine w_ite (fun q2 => ?_) (fun q2 => ?_)
      · have := hlast (ne0 q1) (ne0 q2)
        walk_at "w"
        exact ⟨rfl, e1⟩
      · walk_at "w"
        exact ⟨rfl, e1⟩
    · walk_at "w"
      exact ⟨rfl, e1⟩
  rintro σ' H2 ⟨rfl, e2⟩
  clear e1
  refine w_cut (M := fun σ' H' => σ' = [some (.ref a1), some (.ref a2), some (.int r)] ∧ Ex H H') ?_ ?_
  · walk_at "w"
    refine ⟨.int r, .int r, fun v H3 e3 q1 => ?_⟩
    rw [show dIsCount (.int r) = true from decide_eq_true z5] at q1
    obtain rfl := dp_toBl q1
    walk_at "w"
    refine w_ite (fun q1 => ?_) (fun q1 => ?_)
    · have := W.e0 (List.length_eq_zero_iff.mp (by omega))
      walk_at "w"
      exact ⟨rfl, e2.trans e3⟩
    · walk_at "w"
      exact ⟨rfl, e2.trans e3⟩
  rintro σ' H3 ⟨rfl, e3⟩
  clear e2
  refine w_cut (M := fun σ' H' => σ' = [some (.ref a1), some (.ref a2), some (.int r)] ∧ Ex H H') ?_ ?_
  · walk_at "w"
    refine w_ite (fun q1 => ?_) (fun q1 => ?_)
    · have := llast (ne0 q1)
      walk_at "w"
      exact ⟨rfl, e3⟩
    · walk_at "w"
      exact ⟨rfl, e3⟩
  rintro σ' H4 ⟨rfl, e4⟩
  clear e3
  walk_at "w"
  refine ⟨dSeqI b1 h, dp_ex e4 d1, shp_seq z3, fun v H5 e5 q5 => ?_⟩
  rw [deep_seq] at q5
  walk_at "w"
  refine ⟨dSeqI b2 l, dp_ex (e4.trans e5) d2, shp_seq z4, fun v2 H6 e6 q6 => ?_⟩
  rw [deep_seq] at q6
  walk_at "w"
  exact ⟨h, l, r, dp_ex e6 q5, q6, .int r, z5, W.sm, fun v H7 e7 q7 => k _ _ (by walk_at "ex") q7⟩

end
section
def tFlds (th tl : Addr) (r : Int) : List (Str × V) := putF "rise" (.int r) (putF "loop" (.ref tl) (putF "head" (.ref th) []))
theorem tn_hl : ¬ (("head" : Str) = "loop") := by decide +kernel
theorem tn_hr : ¬ (("head" : Str) = "rise") := by decide +kernel
theorem tn_lr : ¬ (("loop" : Str) = "rise") := by decide +kernel
theorem tFlds_head (th tl : Addr) (r : Int) : (tFlds th tl r).lookup ("head" : Str) = some (.ref th) := by
  unfold tFlds
  rw [lookup_putF, if_neg tn_hr, lookup_putF, if_neg tn_hl, lookup_putF, if_pos rfl]
theorem tFlds_loop (th tl : Addr) (r : Int) : (tFlds th tl r).lookup ("loop" : Str) = some (.ref tl) := by
  unfold tFlds
  rw [lookup_putF, if_neg tn_lr, lookup_putF, if_pos rfl]
theorem tFlds_rise (th tl : Addr) (r : Int) : (tFlds th tl r).lookup ("rise" : Str) = some (.int r) := by
  unfold tFlds
  rw [lookup_putF, if_pos rfl]
theorem putF_len (f : Str) (y : V) : ∀ fs : List (Str × V), (putF f y fs).length ≤ fs.length + 1
  | [] => Nat.le_refl _
  | (g, v) :: r => by
    show (if g = f then (g, y) :: r else (g, v) :: putF f y r).length ≤ _
    split
    · exact Nat.le_succ _
    · exact Nat.succ_le_succ (putF_len f y r)
/-- a table stands at x -/
def TabAt (K : PySem.W.Frag) (H : Hp) (x : Addr) (h l : List Int) (r : Int) : Prop := ∃ dx th tl, H x = some (.ins (He.ga K "Table") dx (tFlds th tl r)) ∧ SqT K H th (vI h) ∧ SqT K H tl (vI l)
theorem ex_tab {K : PySem.W.Frag} {H H' : Hp} {x : Addr} {h l : List Int} {r : Int} (e : Ex H H') (t : TabAt K H x h l r) : TabAt K H' x h l r := by
  obtain ⟨dx, th, tl, h1, h2, h3⟩ := t
  exact ⟨dx, th, tl, e _ _ h1, ex_t e h2, ex_t e h3⟩
section
variable {P : Program} {K : PySem.W.Frag} {mg : Str → Option Value} {H : Hp} {x : Addr} {h l : List Int} {r : Int} {Q : VK}
theorem r_tabHead (E : Env P K mg) (t : TabAt K H x h l r) (q : ∀ th, SqT K H th (vI h) → Q (.ref th) H) : GetF K "head" (.ref x) H Q := by
  obtain ⟨dx, th, tl, h1, h2, h3⟩ := t
  exact r_getF h1 E.c_Table E.na_Table_head (tFlds_head _ _ _) (q th h2)
theorem r_tabLoop (E : Env P K mg) (t : TabAt K H x h l r) (q : ∀ tl, SqT K H tl (vI l) → Q (.ref tl) H) : GetF K "loop" (.ref x) H Q := by
  obtain ⟨dx, th, tl, h1, h2, h3⟩ := t
  exact r_getF h1 E.c_Table E.na_Table_loop (tFlds_loop _ _ _) (q tl h3)
theorem r_tabRise (E : Env P K mg) (t : TabAt K H x h l r) (q : Q (.int r) H) : GetF K "rise" (.ref x) H Q := by
  obtain ⟨dx, th, tl, h1, h2, h3⟩ := t
  exact r_getF h1 E.c_Table E.na_Table_rise (tFlds_rise _ _ _) q
end
abbrev spInit (K : PySem.W.Frag) : Sp := sp4 fun x a b c H Q _ => ∃ p dx b1 b2 h l r, x = .ref p ∧ H p = some (.ins (He.ga K "Table") dx []) ∧ Dp K H a (dSeqI b1 h) ∧ Dp K H b (dSeqI b2 l) ∧ Dp K H c (.int r) ∧ Val h l r ∧ ∀ H', TabAt K H' p (plainF h l r).1 (plainF h l r).2.1 (plainF h l r).2.2 → (∀ a o, a ≠ p → H a = some o → H' a = some o) → Q .non H'
abbrev N_Table_init : List Str := ["self", "head", "loop", "rise", "told"]
theorem sc_Table_init : FnScope N_Table_init ["self", "head", "loop", "rise"] (defScope s_Table_init) := ⟨rfl, rfl, rfl, by decide +kernel, rfl, by decide +kernel, by decide +kernel⟩
theorem fx_Table_init {P : Program} {w : World} {K : PySem.W.Frag} {mg : Str → Option Value} {base : Heap} (E : Env P K mg) : ∃ fd, FunD K "__init__" "Table.__init__" (defArgs s_Table_init) (defBody s_Table_init) (defScope s_Table_init) (d_Table_init.dvs K) [] (d_Table_init.adr K) fd ∧ FnOk P w K mg base CX0 10 (d_Table_init.adr K) fd ["self", "head", "loop", "rise"] (spInit K) := by
  obtain ⟨fd, F⟩ := E.dd_Table_init
  refine ⟨fd, F, fnok0 F sc_Table_init sp4_len (fun cdv A outer s H vs Q X hr h => ?_)⟩
  have nd := sc_Table_init.nd
  obtain ⟨v0, v1, v2, v3, rfl, h⟩ := h
  refine ⟨_, (pss_cons (ps_set (i := 4) nd rfl (.inl rfl) (pc (ok_checked_table E) hr (by decide) pass0 rfl (pa_cons (pv 1) (pa_cons (pv 2) (pa_cons (pv 3) pa_nil)))))
  (pss_cons (kFldS K (ps_fld (pv 0) (pe_ix (kIx K) (pv 4) (pe_int) (fun _ _ => rfl)) rfl))
  (pss_cons (kFldS K (ps_fld (pv 0) (pe_ix (kIx K) (pv 4) (pe_int) (fun _ _ => rfl)) rfl))
  (pss_one (kFldS K (ps_fld (pv 0) (pe_ix (kIx K) (pv 4) (pe_int) (fun _ _ => rfl)) rfl)))))), ?_⟩
  change (_ : TS) _ [some v0, some v1, some v2, some v3, none] H
  try dsimp only [cxOf, Cx.nox, Cx.blk]
  obtain ⟨p, dx, b1, b2, h, l, r, rfl, hp, d1, d2, d3, W, k⟩ := h
  walk_at "w"
  refine ⟨b1, b2, h, l, r, d1, d2, d3, W, fun v H1 e1 q1 => ?_⟩
  obtain ⟨a, th, tl, rfl, s1, s2, s3⟩ := dp_raw q1
  have g1 : H1 p = some (.ins (He.ga K "Table") dx []) := e1 _ _ hp
  have nt : ∀ {a : Addr} {xs : List V} {H2 : Hp} {fs : List (Str × V)}, H2 p = some (.ins (He.ga K "Table") dx fs) → SqT K H2 a xs → ∀ o, SqT K (upd H2 p o) a xs := fun {a xs H2 fs} hp s o => by
    have key : ∀ u, H2 a = some u → (∃ o', u = .frz o' (.tup xs)) ∨ u = .tup xs → a ≠ p := by
      rintro u hu hc rfl
      rw [hp] at hu
      cases hu
      rcases hc with ⟨_, hc⟩ | hc <;> cases hc
    rcases s with (s | ⟨o', s⟩) | s
    · exact .inl (.inl (by rw [upd_ne (key _ s (.inr rfl))]; exact s))
    · exact .inl (.inr ⟨o', by rw [upd_ne (key _ s (.inl ⟨o', rfl⟩))]; exact s⟩)
    · exact .inr s
  have stp : ∀ {H2 : Hp} {fs : List (Str × V)} (o : HO), H2 p = some (.ins (He.ga K "Table") dx fs) → SqT K H2 a [.ref th, .ref tl, .int (plainF h l r).2.2] → SqT K H2 th (vI (plainF h l r).1) → SqT K H2 tl (vI (plainF h l r).2.1) →
      ∃ H3, upd H2 p o = H3 ∧ H3 p = some o ∧ SqT K H3 a [.ref th, .ref tl, .int (plainF h l r).2.2] ∧ SqT K H3 th (vI (plainF h l r).1) ∧ SqT K H3 tl (vI (plainF h l r).2.1) ∧ ∀ a u, a ≠ p → H2 a = some u → H3 a = some u :=
    fun {H2 fs} o hp t1 t2 t3 => ⟨_, rfl, upd_same, nt hp t1 o, nt hp t2 o, nt hp t3 o, fun a u ne e => by rw [upd_ne ne]; exact e⟩
  walk_at "w"
  refine r_putF g1 E.c_Table E.na_Table_head (by decide) ?_
  obtain ⟨H2, e2, g2, t1, t2, t3, k2⟩ := stp (.ins (He.ga K "Table") dx (putF "head" (.ref th) [])) g1 s1 s2 s3
  rw [e2]
  walk_at "w"
  refine r_putF g2 E.c_Table E.na_Table_loop (Nat.lt_of_le_of_lt (putF_len _ _ _) (by decide)) ?_
  obtain ⟨H3, e3, g3, t4, t5, t6, k3⟩ := stp (.ins (He.ga K "Table") dx (putF "loop" (.ref tl) (putF "head" (.ref th) []))) g2 t1 t2 t3
  rw [e3]
  walk_at "w"
  refine r_putF g3 E.c_Table E.na_Table_rise (Nat.lt_of_le_of_lt (Nat.le_trans (putF_len _ _ _) (Nat.succ_le_succ (putF_len _ _ _))) (by decide)) ?_
  obtain ⟨H4, e4, g4, t7, t8, t9, k4⟩ := stp (.ins (He.ga K "Table") dx (tFlds th tl (plainF h l r).2.2)) g3 t4 t5 t6
  refine k _ ⟨dx, th, tl, upd_same, ?_, ?_⟩ (fun a u ne e => ?_)
  · exact nt g3 t5 _
  · exact nt g3 t6 _
  · rw [upd_ne ne]
    exact k3 _ _ ne (k2 _ _ ne (e1 _ _ e))
/-- Table(..) made: from __init__'s promise to what a caller sees -/
theorem mk_tab {K : PySem.W.Frag} {H : Hp} {Q : VK} {a b c : V} {b1 b2 : Bool} {h l : List Int} {r : Int} {dvs ws : List V} (e : ws ++ dvs = [a, b, c]) (d1 : Dp K H a (dSeqI b1 h)) (d2 : Dp K H b (dSeqI b2 l)) (d3 : Dp K H c (.int r)) (W : Val h l r)
    (q : ∀ x H2, Ex H H2 → TabAt K H2 x (plainF h l r).1 (plainF h l r).2.1 (plainF h l r).2.2 → Q (.ref x) H2) :
    MakeI (He.ga K "Table") (spInit K) dvs E0 ws H Q := by
  intro x dx nx ndx ne
  rw [e]
  have ex : Ex H (upd (upd H dx (.own x)) x (.ins (He.ga K "Table") dx [])) := fun b o e => by
    rw [upd_ne (ne_of_none e nx), upd_ne (ne_of_none e ndx)]
    exact e
  refine ⟨_, _, _, _, rfl, x, dx, b1, b2, h, l, r, rfl, upd_same, dp_ex ex d1, dp_ex ex d2, dp_ex ex d3, W, fun H' t k => ⟨rfl, q x H' (fun b o e => ?_) t⟩⟩
  exact k b o (ne_of_none e nx) (ex b o e)
section
variable {P : Program} {w : World} {K : PySem.W.Frag} {mg : Str → Option Value} {base : Heap}
theorem ok_Table3 (E : Env P K mg) : Mkc P w K mg base CX0 10 "Table" (He.ga K "Table") (spInit K) [] := by
  obtain ⟨fd, F, k⟩ := fx_Table_init (P := P) (w := w) (base := base) E
  obtain ⟨ds, hd, hb⟩ := F.binds1 (ps := ["self", "head", "loop", "rise"]) 4 2 (List.cons_ne_nil _ _) rfl (fun T kV doc pm an cdv ct us its hu hi => match us, its, hu, hi with | [_, _, _, _], [_, _], _, _ => ⟨_, rfl, rfl⟩)
  exact ⟨_, fd, _, ds, E.mk_Table, k, E.g_Table, hb, hd⟩
end

end
section
section
variable {P : Program} {w : World} {K : PySem.W.Frag} {mg : Str → Option Value} {base : Heap}
theorem ok_Table2 (E : Env P K mg) : Mkc P w K mg base CX0 10 "Table" (He.ga K "Table") (spInit K) [.int 0] := by
  obtain ⟨fd, F, k⟩ := fx_Table_init (P := P) (w := w) (base := base) E
  obtain ⟨ds, hd, hb⟩ := F.binds1 (ps := ["self", "head", "loop", "rise"]) 3 1 (List.cons_ne_nil _ _) rfl (fun T kV doc pm an cdv ct us its hu hi => match us, its, hu, hi with | [_, _, _], [_, _], _, _ => ⟨_, rfl, rfl⟩)
  exact ⟨_, fd, _, ds, E.mk_Table, k, E.g_Table, hb, hd⟩
theorem ok_Table1 (E : Env P K mg) : Mkc P w K mg base CX0 10 "Table" (He.ga K "Table") (spInit K) [.ref (He.dflAt ("Table", some "__init__") 0 K), .int 0] := by
  obtain ⟨fd, F, k⟩ := fx_Table_init (P := P) (w := w) (base := base) E
  obtain ⟨ds, hd, hb⟩ := F.binds1 (ps := ["self", "head", "loop", "rise"]) 2 0 (List.cons_ne_nil _ _) rfl (fun T kV doc pm an cdv ct us its hu hi => match us, its, hu, hi with | [_, _], [_, _], _, _ => ⟨_, rfl, rfl⟩)
  exact ⟨_, fd, _, ds, E.mk_Table, k, E.g_Table, hb, hd⟩
end
local macro_rules | `(tactic| walk_at "hp") => `(tactic| first
  | with_reducible assumption
  | (with_reducible refine' ex_tab ?a ?b; (case a => with_reducible assumption); (case b => walk_at "hp")))
local macro_rules | `(tactic| walk_at "w2") => `(tactic| first
  | ((with_reducible refine' r_tabHead ?a ?b ?q); (case a => with_reducible assumption); (case b => walk_at "hp"))
  | ((with_reducible refine' r_tabLoop ?a ?b ?q); (case a => with_reducible assumption); (case b => walk_at "hp"))
  | ((with_reducible refine' r_tabRise ?a ?b ?q); (case a => with_reducible assumption); (case b => walk_at "hp")))
/-- gcd as the loop has it -/
def gcdI : Nat → Int → Int → Int
  | 0, a, _ => a
  | n + 1, a, b => if 0 < b then gcdI n b (a % b) else a
abbrev N_common_divisor : List Str := ["one", "other"]
theorem sc_common_divisor : FnScope N_common_divisor ["one", "other"] (defScope s_common_divisor) := ⟨rfl, rfl, rfl, by decide +kernel, rfl, by decide +kernel, by decide +kernel⟩
theorem ok_common_divisor {P : Program} {w : World} {K : PySem.W.Frag} {mg : Str → Option Value} {base : Heap} (E : Env P K mg) : Fn P w K mg base CX0 1 "common_divisor" (sp2 fun a b H Q _ => ∃ i j : Int, a = .int i ∧ b = .int j ∧ 0 ≤ i ∧ 0 ≤ j ∧ Q (.int (Int.gcd i j)) H) := by
  obtain ⟨fd, F⟩ := E.dd_common_divisor
  refine Fn.mk0 F E.g_common_divisor sc_common_divisor sp2_len (fun _ _ _ _ _ _ us hl => match us, hl with | [_, _], _ => rfl) (fun cdv A outer s H vs Q X hr h => ?_)
  have nd := sc_common_divisor.nd
  obtain ⟨v0, v1, rfl, h⟩ := h
  refine ⟨_, (pss_cons (ps_while PassesOwn.never (pt_cmpR op_gt (pv 1) (pe_int) (nomark _))
   (pss_one (ps_par (i := 0) (j := 1) rfl nd rfl rfl (by decide) rfl rfl (pa_cons (pv 1) (pa_cons (pe_op xMod (pv 0) (pv 1)) pa_nil)) rfl)))
  (pss_one (ps_ret (pv 0)))), ?_⟩
  change (_ : TS) _ [some v0, some v1] H
  try dsimp only [cxOf, Cx.nox, Cx.blk]
  obtain ⟨i, j, rfl, rfl, hi, hj, k⟩ := h
  walk_at "w"
  refine ⟨fun m σ' H' => ∃ a b : Int, σ' = [some (.int a), some (.int b)] ∧ H' = H ∧ 0 ≤ a ∧ 0 ≤ b ∧ b.toNat = m ∧ Int.gcd a b = Int.gcd i j, ⟨j.toNat, i, j, rfl, rfl, hi, hj, rfl, rfl⟩, ?_⟩
  rintro m σ' H' ⟨a, b, rfl, rfl, ha, hb, hm, hg⟩
  walk_at "w"
  by_cases c : 0 < b
  · walk_at "w"
    refine ⟨_, fun σ2 H2 h2 => h2, ?_⟩
    walk_at "w"
    refine ⟨_, _, rfl, ?_⟩
    have hlt := Int.emod_lt_of_pos a c
    have h0 := Int.emod_nonneg a (show b ≠ 0 by omega)
    refine ⟨(a % b).toNat, by omega, b, a % b, rfl, rfl, hb, h0, rfl, ?_⟩
    rw [← hg, Int.gcd_comm a b]
    obtain ⟨n, rfl⟩ := Int.eq_ofNat_of_zero_le ha
    obtain ⟨m, rfl⟩ := Int.eq_ofNat_of_zero_le hb
    show Nat.gcd m (n % m) = Nat.gcd m n
    rw [Nat.gcd_comm m n, Nat.gcd_comm m (n % m), Nat.gcd_comm n m, Nat.gcd_rec m n]
  · walk_at "w"
    have : b = 0 := by omega
    subst this
    rw [Int.gcd_zero_right] at hg
    have e : (Int.gcd i j : Int) = a := by rw [← hg]; omega
    rw [e] at k
    exact k
theorem tab_mine {K : PySem.W.Frag} {H : Hp} {x : Addr} {h l : List Int} {r : Int} (t : TabAt K H x h l r) : ∃ dx fs, H x = some (.ins (He.ga K "Table") dx fs) := by
  obtain ⟨dx, th, tl, h1, _⟩ := t
  exact ⟨dx, _, h1⟩
abbrev N_Table_call : List Str := ["self", "n"]
theorem sc_Table_call : FnScope N_Table_call ["self", "n"] (defScope s_Table_call) := ⟨rfl, rfl, rfl, by decide +kernel, rfl, by decide +kernel, by decide +kernel⟩
theorem fx_Table_call {P : Program} {w : World} {K : PySem.W.Frag} {mg : Str → Option Value} {base : Heap} (E : Env P K mg) : ∃ fd, FunD K "__call__" "Table.__call__" (defArgs s_Table_call) (defBody s_Table_call) (defScope s_Table_call) (d_Table_call.dvs K) [] (d_Table_call.adr K) fd ∧ FnOk P w K mg base CX0 3 (d_Table_call.adr K) fd ["self", "n"] (sp2 fun x n H Q _ => ∃ p h l r o, x = .ref p ∧ TabAt K H p h l r ∧ n = optV o ∧ (∀ i, o = some i → 0 ≤ i) ∧ RSm h l r ∧ RetD K (dOpt (valueAt h l r o)) H Q) := by
  obtain ⟨fd, F⟩ := E.dd_Table_call
  refine ⟨fd, F, fnok0 F sc_Table_call sp2_len (fun cdv A outer s H vs Q X hr h => ?_)⟩
  have nd := sc_Table_call.nd
  obtain ⟨v0, v1, rfl, h⟩ := h
  refine ⟨_, (pss_cons (ps_if (PW.pt (pw_and (pt_cmpR xIsNot (pv 1) (pe_non) (nomark _)) (pw_and1 (pt_not (kTru K (pc (ok_is_count E) hr (by decide) pass0 rfl (pa_cons (pv 1) pa_nil)) (by intro _; rfl))))))
   (pss_one (ps_never))
   pss_nil)
  (pss_one (ps_ret (pc (ok_value_at E) hr (by decide) pass0 rfl (pa_cons (pe_tup (pa_cons (kFld K (pv 0) rfl) (pa_cons (kFld K (pv 0) rfl) (pa_cons (kFld K (pv 0) rfl) pa_nil)))) (pa_cons (pv 1) pa_nil)))))), ?_⟩
  change (_ : TS) _ [some v0, some v1] H
  try dsimp only [cxOf, Cx.nox, Cx.blk]
  obtain ⟨p, h, l, r, o, rfl, ht, rfl, ho, hs, k⟩ := h
  cases o with
  | none =>
    simp only [optV]
    walk_at "w"
    intro th s1
    walk_at "w"
    intro tl s2
    walk_at "w"
    intro a H2 n2 e2 h2
    walk_at "w"
    exact ⟨h, l, r, none, dp_of_raw (st_of h2) (by walk_at "hp") (by walk_at "hp"), dp_of_opt (p := none), ho, hs, fun v H3 e3 d3 => k v H3 (by walk_at "ex") d3⟩
  | some i =>
    have hi := ho i rfl
    simp only [optV]
    walk_at "w"
    refine ⟨.int i, .int i, fun v H1 e1 d1 => ?_⟩
    rw [show dIsCount (.int i) = true from decide_eq_true hi] at d1
    obtain rfl := dp_toBl d1
    walk_at "w"
    intro th s1
    walk_at "w"
    intro tl s2
    walk_at "w"
    intro a H2 n2 e2 h2
    walk_at "w"
    exact ⟨h, l, r, some i, dp_of_raw (st_of h2) (by walk_at "hp") (by walk_at "hp"), dp_of_opt (p := some i), ho, hs, fun v H3 e3 d3 => k v H3 (by walk_at "ex") d3⟩
theorem ok_Table_call {P : Program} {w : World} {K : PySem.W.Frag} {mg : Str → Option Value} {base : Heap} (E : Env P K mg) : Cli P w K mg base 3 (He.ga K "Table") (sp2 fun x n H Q _ => ∃ p h l r o, x = .ref p ∧ TabAt K H p h l r ∧ n = optV o ∧ (∀ i, o = some i → 0 ≤ i) ∧ RSm h l r ∧ RetD K (dOpt (valueAt h l r o)) H Q) := by
  obtain ⟨fd, F, k⟩ := fx_Table_call (P := P) (w := w) (base := base) E
  exact ⟨_, fd, _, E.call_Table, k, F.bindsN (fun _ _ _ _ _ _ us hl => match us, hl with | [_, _], _ => rfl)⟩
abbrev N_Table_end : List Str := ["self"]
theorem sc_Table_end : FnScope N_Table_end ["self"] (defScope s_Table_end) := ⟨rfl, rfl, rfl, by decide +kernel, rfl, by decide +kernel, by decide +kernel⟩
theorem fx_Table_end {P : Program} {w : World} {K : PySem.W.Frag} {mg : Str → Option Value} {base : Heap} (E : Env P K mg) : ∃ fd, FunD K "end" "Table.end" (defArgs s_Table_end) (defBody s_Table_end) (defScope s_Table_end) (d_Table_end.dvs K) [] (d_Table_end.adr K) fd ∧ FnOk P w K mg base CX0 2 (d_Table_end.adr K) fd ["self"] (sp1 fun x H Q _ => ∃ p h l r, x = .ref p ∧ TabAt K H p h l r ∧ RetD K (dOpt (endOf l r)) H Q) := by
  obtain ⟨fd, F⟩ := E.dd_Table_end
  refine ⟨fd, F, fnok0 F sc_Table_end sp1_len (fun cdv A outer s H vs Q X hr h => ?_)⟩
  have nd := sc_Table_end.nd
  obtain ⟨v0, rfl, h⟩ := h
  refine ⟨_, (pss_one (ps_ret (pc (ok_end_of E) hr (by decide) pass0 rfl (pa_cons (pe_tup (pa_cons (kFld K (pv 0) rfl) (pa_cons (kFld K (pv 0) rfl) (pa_cons (kFld K (pv 0) rfl) pa_nil)))) pa_nil)))), ?_⟩
  change (_ : TS) _ [some v0] H
  try dsimp only [cxOf, Cx.nox, Cx.blk]
  obtain ⟨p, h, l, r, rfl, ht, k⟩ := h
  walk_at "w"
  intro th s1
  walk_at "w"
  intro tl s2
  walk_at "w"
  intro a H2 n2 e2 h2
  walk_at "w"
  exact ⟨h, l, r, dp_of_raw (st_of h2) (by walk_at "hp") (by walk_at "hp"), fun v H3 e3 d3 => k v H3 (by walk_at "ex") d3⟩
theorem ok_Table_end {P : Program} {w : World} {K : PySem.W.Frag} {mg : Str → Option Value} {base : Heap} (E : Env P K mg) : Prp P w K mg base 2 (He.ga K "Table") "end" (sp1 fun x H Q _ => ∃ p h l r, x = .ref p ∧ TabAt K H p h l r ∧ RetD K (dOpt (endOf l r)) H Q) := by
  obtain ⟨fd, F, k⟩ := fx_Table_end (P := P) (w := w) (base := base) E
  exact ⟨_, _, fd, _, E.c_Table, E.p_Table_end, k, F.bindsN (fun _ _ _ _ _ _ us hl => match us, hl with | [_], _ => rfl)⟩
/-- the pair of rise and length in lowest terms -/
def rateOf (l : List Int) (r : Int) : PyData := if l = [] then .none else .tuple [.int (r / Int.gcd l.length r), .int ((l.length : Int) / Int.gcd l.length r)]
abbrev N_Table_eq : List Str := ["self", "other"]
theorem sc_Table_eq : FnScope N_Table_eq ["self", "other"] (defScope s_Table_eq) := ⟨rfl, rfl, rfl, by decide +kernel, rfl, by decide +kernel, by decide +kernel⟩
theorem fx_Table_eq {P : Program} {w : World} {K : PySem.W.Frag} {mg : Str → Option Value} {base : Heap} (E : Env P K mg) : ∃ fd, FunD K "__eq__" "Table.__eq__" (defArgs s_Table_eq) (defBody s_Table_eq) (defScope s_Table_eq) (d_Table_eq.dvs K) [] (d_Table_eq.adr K) fd ∧ FnOk P w K mg base CX0 1 (d_Table_eq.adr K) fd ["self", "other"] (sp2 fun x y H Q _ => ∃ p h l r, x = .ref p ∧ TabAt K H p h l r ∧ ((∃ q h' l' r', y = .ref q ∧ TabAt K H q h' l' r' ∧ RetD K (.bool (decide (h = h' ∧ l = l' ∧ r = r'))) H Q) ∨ (∃ n ∈ ["tuple", "list", "int", "NoneType", "str", "bool"], TyX K H y (.type n) ∧ RetD K (.bool false) H Q))) := by
  obtain ⟨fd, F⟩ := E.dd_Table_eq
  refine ⟨fd, F, fnok0 F sc_Table_eq sp2_len (fun cdv A outer s H vs Q X hr h => ?_)⟩
  have nd := sc_Table_eq.nd
  obtain ⟨v0, v1, rfl, h⟩ := h
  refine ⟨_, (pss_one (ps_ret (pe_and (pe_callB (kIsi K) (by rfl) E.f_isinstance (by decide +kernel) (pa_cons (pv 1) (pa_cons (pe_glob (v := .ref (He.ga K "Table")) (by rfl) E.g_Table rfl) pa_nil))) (pe_and (pe_cmpR (kEq K hr) (kFld K (pv 0) rfl) (kFld K (pv 1) rfl) (nomark _)) (pe_and (pe_cmpR (kEq K hr) (kFld K (pv 0) rfl) (kFld K (pv 1) rfl) (nomark _)) (pe_one (pe_cmpR (kEq K hr) (kFld K (pv 0) rfl) (kFld K (pv 1) rfl) (nomark _)))))))), ?_⟩
  change (_ : TS) _ [some v0, some v1] H
  try dsimp only [cxOf, Cx.nox, Cx.blk]
  obtain ⟨p, h, l, r, rfl, ht, h2⟩ := h
  rcases h2 with ⟨q, h', l', r', rfl, hu, k⟩ | ⟨n, hn, ty, k⟩
  · walk_at "w"
    refine r_isiC (insB_ok E.ins_Table E.c_Table (tab_mine hu).choose_spec.choose_spec) E.kit_Table_self ?_
    walk_at "w"
    intro th s1
    walk_at "w"
    intro th' s2
    walk_at "w"
    by_cases c1 : h = h'
    · walk_at "w"
      intro tl s3
      walk_at "w"
      intro tl' s4
      walk_at "w"
      by_cases c2 : l = l'
      · walk_at "w"
        rw [show decide (h = h' ∧ l = l' ∧ r = r') = decide (r = r') by simp [c1, c2]] at k
        exact k.bl (Ex.refl _)
      · walk_at "w"
        rw [show decide (h = h' ∧ l = l' ∧ r = r') = false by simp [c2]] at k
        exact k.bl (Ex.refl _)
    · walk_at "w"
      rw [show decide (h = h' ∧ l = l' ∧ r = r') = false by simp [c1]] at k
      exact k.bl (Ex.refl _)
  · walk_at "w"
    refine r_isiC (b := false) ty ?_ ?_
    · simp at hn
      rcases hn with rfl | rfl | rfl | rfl | rfl | rfl
      · exact E.kit_Table_tuple
      · exact E.kit_Table_list
      · exact E.kit_Table_int
      · exact E.kit_Table_NoneType
      · exact E.kit_Table_str
      · exact E.kit_Table_bool
    walk_at "w"
    exact k.bl (Ex.refl _)
theorem ok_Table_eq {P : Program} {w : World} {K : PySem.W.Frag} {mg : Str → Option Value} {base : Heap} (E : Env P K mg) : EqOf P w K mg base 1 (He.ga K "Table") (sp2 fun x y H Q _ => ∃ p h l r, x = .ref p ∧ TabAt K H p h l r ∧ ((∃ q h' l' r', y = .ref q ∧ TabAt K H q h' l' r' ∧ RetD K (.bool (decide (h = h' ∧ l = l' ∧ r = r'))) H Q) ∨ (∃ n ∈ ["tuple", "list", "int", "NoneType", "str", "bool"], TyX K H y (.type n) ∧ RetD K (.bool false) H Q))) := by
  obtain ⟨fd, F, k⟩ := fx_Table_eq (P := P) (w := w) (base := base) E
  exact ⟨_, fd, _, E.m_Table_eq.at_, E.m_Table_eq.fn, k, F.bindsN (fun _ _ _ _ _ _ us hl => match us, hl with | [_, _], _ => rfl)⟩

end
section
theorem ifBoundB_K {K : PySem.W.Frag} {M : Model} {A : Around} {E : Value → Shared → Prop} {s : Shared} {x C : Addr} {ox : Obj} {od : Option Obj} {name : Str} {id : String} {args : List Value} {Q : Option Value → Shared → Prop}
    (X : K.In s.heap) (I : PySem.W.InstAt s.heap x ox C od) (hs : PySem.W.findIn K (.ref C) name = some (some (.builtin id))) (S : Slot "object" name id)
    (h : wpAny M A (call (.builtin id) (.ref x :: args)) (fun v => Q (some v)) E s) : wpAny M A (callSpecialIfBound? (.ref x) name args) Q E s := by
  simp only [callSpecialIfBound?, bindSpecialIfBound?]
  refine wpAny_holding (wpAny_bind (wpAny_bind (wpAny_bind (I.type.here ((PySem.W.looks_findIn X hs).here ?_)))))
  simp only [S.bind]
  refine wpAny_bind (wpAny_askSetting (wpAny_ite ?_))
  have fin : wpAny M A (call (.builtin id) ([.ref x] ++ args) >>= fun v => pure (some v)) Q E s := wpAny_bind (wpAny_mono h (fun v s' h' => wpAny_pure h') fun _ _ h' => h')
  split
  · exact wpAny_bind (wpAny_pure (wpAny_pure fin))
  · exact wpAny_tryCatch (wpAny_bind (wpAny_pure (wpAny_pure fin)))
theorem check_ne_K {K : PySem.W.Frag} {M : Model} {A : Around} {E : Value → Shared → Prop} {s : Shared} {x C : Addr} {ox : Obj} {od : Option Obj} {u : Value} {Q : Unit → Shared → Prop}
    (X : K.In s.heap) (I : PySem.W.InstAt s.heap x ox C od) (hm : PySem.W.mroIn K C (.type "object") = some true) (hq : Q () s) : wpAny M A (checkBuiltinCall "object.__ne__" ⟨[.ref x, u], []⟩) Q E s := by
  have L0 := I.type (M := M)
  have L1 := PySem.W.looks_mroIn (M := M) X hm
  simp only [checkBuiltinCall, F.cmpKind_ne, F.cmpSplit_ne]
  refine wpAny_bind ?_
  · unfold isInstance
    refine wpAny_bind (L0.here (L1.here ?_))
    simp only [Bool.not_true, Bool.false_eq_true, if_false]
    have ha := F.cmpArgs_ne (.ref x) u
    cases hsig : Manifest.signature? "object.__ne__" with
    | none => exact wpAny_pure hq
    | some sig =>
      simp only [argsOk, hsig] at ha
      have h2 : Bind.checkArgs "object.__ne__" sig ⟨[.ref x, u], []⟩ = pure () := ha
      show wpAny M A (Bind.checkArgs "object.__ne__" sig ⟨[.ref x, u], []⟩) Q E _
      rw [h2]; exact wpAny_pure hq
theorem objNe_K {K : PySem.W.Frag} {prog : Program} {w : World} {A : Around} {E : Value → Shared → Prop} {s : Shared} {x C f : Addr} {ox : Obj} {od : Option Obj} {u : Value} {Q : Fin → Shared → Prop}
    (X : K.In s.heap) (I : PySem.W.InstAt s.heap x ox C od) (hs : PySem.W.findIn K (.ref C) "__eq__" = some (some (.ref f))) (hf : PySem.W.isFn K (.ref f) = true) (hu : A.units < cLine)
    (hcall : wpAny (model prog w) A (call (.ref f) [.ref x, u]) (fun v s' => ∃ b, v = .bool b ∧ Q (.done (.ret (.bool (!b)))) s') E s) :
    wpAny (model prog w) A (Builtin.«object.__ne__» ⟨[.ref x, u], []⟩) Q E s := by
  unfold Builtin.«object.__ne__»
  repeat (first
    | with_reducible refine wpAny_cRoomFor hu ?_
    | (refine wpAny_bind (m := callSpecialIfBound? (.ref x) (Str.ofString "__eq__") [u])
        (PySem.W.ifBound_K X I hs hf (wpAny_mono hcall (fun r s' hr => by
          obtain ⟨b, rfl, hq⟩ := hr
          repeat (first | exact hq | exact wpAny_pure hq | exact wpAny_truthy_bool hq | (refine wpAny_bind (m := truthy (.bool _)) (wpAny_truthy_bool ?_)) | wp_step)) fun _ _ e => e)))
    | wp_step)
theorem rich_ne_K {K : PySem.W.Frag} {prog : Program} {w : World} {A : Around} {E : Value → Shared → Prop} {s : Shared} {x C f : Addr} {ox : Obj} {od : Option Obj} {b tb : Value} {Q : Value → Shared → Prop}
    (X : K.In s.heap) (I : PySem.W.InstAt s.heap x ox C od) (hb : PySem.W.Looks (model prog w) s.heap (typeOf b) tb) (hn : PySem.W.notFirst K C tb = true)
    (hs : PySem.W.findIn K (.ref C) "__eq__" = some (some (.ref f))) (hf : PySem.W.isFn K (.ref f) = true) (hne : PySem.W.findIn K (.ref C) "__ne__" = some (some (.builtin "object.__ne__"))) (hm : PySem.W.mroIn K C (.type "object") = some true)
    (hu : A.units + 1 < cLine)
    (hcall : wpAny (model prog w) A.in1 (call (.ref f) [.ref x, b]) (fun v s' => ∃ b, v = .bool b ∧ Q (.bool (!b)) s') E s) :
    wpAny (model prog w) A (richCompare .NotEq (.ref x) b) Q E s := by
  have one : wpAny (model prog w) A (tryCompare (.ref x) "__ne__" b) (fun r s' => ∃ v, r = some v ∧ Q v s') E s := by
    simp only [tryCompare]
    refine wpAny_bind (ifBoundB_K X I hne F.cmp_object.ne (wpAny_call (codeAny_call_builtin F.cmp_object.ne.plain F.cmpEntry_ne
      (check_ne_K X I hm (objNe_K (A := A.in1) X I hs hf hu (wpAny_mono hcall (fun v s' hv => ?_) fun _ _ e => e))))))
    obtain ⟨b, rfl, hq⟩ := hv
    first | exact ⟨b, rfl, wpAny_pure ⟨_, rfl, hq⟩⟩ | exact ⟨b, rfl, wpAny_pure (wpAny_pure ⟨_, rfl, hq⟩)⟩
  unfold richCompare
  simp only [oneThing_ref]
  refine wpAny_holding (wpAny_bind (wpAny_cRoomFor (Nat.lt_of_succ_lt hu) ?_))
  rw [cmpInfo_NotEq]
  dsimp only
  refine wpAny_bind (I.type.here (wpAny_bind (hb.here ?_)))
  split
  · rename_i q
    have e : PySem.W.subIn K tb (.ref C) = some false := by
      rcases Bool.or_eq_true_iff.mp hn with e | e
      · rw [beq_iff_eq.mp e] at q; simp at q
      · exact beq_iff_eq.mp e
    refine wpAny_bind ((PySem.W.looks_subIn X e).here ?_)
    simp only [Bool.false_eq_true, if_false]
    refine wpAny_bind (wpAny_mono one (fun r s' z => ?_) fun _ _ e => e)
    obtain ⟨v, rfl, hq⟩ := z
    exact wpAny_pure hq
  · refine wpAny_bind (wpAny_pure ?_)
    simp only [Bool.false_eq_true, if_false]
    refine wpAny_bind (wpAny_mono one (fun r s' z => ?_) fun _ _ e => e)
    obtain ⟨v, rfl, hq⟩ := z
    exact wpAny_pure hq
section
variable {X : Cx} {n : Nat} {C : Addr} {sp : Sp}
theorem run_fnA {CX : CXT} {k : Nat} {f : Addr} {fd : FuncData} {ps : List Str} {sp : Sp} {dvs : List V} {ds : List Value} {E : XK} {pins : List (Addr × Obj)} {σ : L2.St} {H : Hp} {s : Shared} {Q : VK} {us : List Value} {vs : List V} (F : FnOk X.prog X.w X.K X.mg X.base CX k f fd ps sp) (hr : Room k X.A.in1) (hb : L2.Binds X.K fd ps ds) (hd : L2.Vals dvs ds) (hx : L2.Passes CX X E)
    (I : L2.Inv X pins σ H s) (r : L2.Vals vs us) (h : sp (vs ++ dvs) H Q E) : wpAny (model X.prog X.w) X.A.in1 (call (.ref f) us) (EP X pins σ Q) X.xe s := by
  have r2 : L2.Vals (vs ++ dvs) (us ++ ds) := r.append hd
  have hl : (us ++ ds).length = ps.length := by rw [← r2.length]; exact F.len _ _ _ _ h
  refine wpAny_call (codeAny_mono (F.run X.A.in1 X.stack s H ⟨us, []⟩ (us ++ ds) (vs ++ dvs) Q E hr I.env0.in1 (hb s us I.kIn hl) r2 h) fun r s' hq => ?_)
  cases r with
  | error e => exact hx pins σ H s e s' I hq
  | ok fl =>
    cases fl with
    | ret u => exact I.after hq
    | next => exact False.elim hq
    | brk => exact False.elim hq
    | cont => exact False.elim hq
/-- != over an own == -/
def rOwnNe (K : PySem.W.Frag) (C : Addr) (sp : Sp) : R2 := fun x y H Q => ∃ a dx fs t, x = .ref a ∧ H a = some (.ins C dx fs) ∧ TyX K H y t ∧ PySem.W.notFirst K C t = true ∧ PySem.W.findIn K (.ref C) "__ne__" = some (some (.builtin "object.__ne__")) ∧ PySem.W.mroIn K C (.type "object") = some true ∧ sp [x, y] H (fun v H' => ∃ b, v = .bl b ∧ Q (.bl (!b)) H') E0
theorem op_ownNe {j : Nat} (c : EqOf X.prog X.w X.K X.mg X.base n C sp) (hr : Room j X.A) (hn : n + 1 ≤ j) : OpR X (compareOp .NotEq) (rOwnNe X.K C sp) := by
  obtain ⟨g, fd, ps, hs, hf, F, hb⟩ := c.ex
  intro pins s σ H x y v u Q I rx ry h
  obtain ⟨a, dx, fs, t, rfl, ha, ty, hnf, hne, hm, q⟩ := h
  cases (show v = Value.ref a from rx)
  obtain ⟨mA, O, _⟩ := ins_get I.hok ha
  obtain ⟨od, J, _⟩ := O.look
  obtain ⟨Pk, kit, hk, _⟩ := kit_of I ry ty
  show wpAny _ _ (richCompare .NotEq (.ref a) u) _ _ _
  refine rich_ne_K (tb := t) I.kIn J (kit.ty _ _ I.kIn hk) hnf hs hf hne hm (by have := (hr.mono hn).un; omega) ?_
  refine wpAny_mono (run_fnA (us := [.ref a, u]) (vs := [.ref a, y]) (dvs := []) (ds := []) F (hr.mono hn).in1 hb .nil pass0 I (.cons rfl (.cons ry .nil)) q) (fun z s' hz => ?_) fun _ _ x => x
  obtain ⟨zv, H', I', rz, b, hzv, qz⟩ := hz
  subst hzv
  cases (show z = Value.bool b from rz)
  exact ⟨b, rfl, .bl (!b), H', I', rfl, qz⟩
def rNeO (K : PySem.W.Frag) (C : Addr) (sp : Sp) : R2 := fun x y H Q => rNeU K x y H Q ∨ rOwnNe K C sp x y H Q
end
theorem kNeO (K : PySem.W.Frag) {X : Cx} {n : Nat} {C : Addr} {sp : Sp} {j : Nat} (c : EqOf X.prog X.w X.K X.mg X.base n C sp) (hr : Room j X.A) (hn : n + 1 ≤ j) (h : X.K = K := by rfl) : OpR X (compareOp .NotEq) (rNeO K C sp) := by subst h; exact (xNe hr).or (op_ownNe c hr hn)
section
variable {K : PySem.W.Frag} {C : Addr} {sp : Sp} {H : Hp} {Q : VK} {x y : V}
theorem w_neO (h : rNeU K x y H Q) : rNeO K C sp x y H Q := .inl h
theorem r_ownNe {F} {a dx : Addr} {fs : List (Str × V)} {t : Value} (ha : H a = some (.ins C dx fs)) (ty : TyX K H y t) (hn : PySem.W.notFirst K C t = true) (hne : PySem.W.findIn K (.ref C) "__ne__" = some (some (.builtin "object.__ne__"))) (hm : PySem.W.mroIn K C (.type "object") = some true) (q : F (.ref a) y H (fun v H' => ∃ b, v = .bl b ∧ Q (.bl (!b)) H') E0) : rNeO K C (sp2 F) (.ref a) y H Q :=
  .inr ⟨a, dx, fs, t, rfl, ha, ty, hn, hne, hm, _, _, rfl, q⟩
end

end
section
theorem bin_same_K {K : PySem.W.Frag} {prog : Program} {w : World} {A : Around} {E : Value → Shared → Prop} {s : Shared} {op : Operator} {x y C f : Addr} {ox oy : Obj} {od od2 : Option Obj} {Q : Value → Shared → Prop}
    (X : K.In s.heap) (I : PySem.W.InstAt s.heap x ox C od) (J : PySem.W.InstAt s.heap y oy C od2) (hc : PySem.W.selfFirst K C = true)
    (hs : PySem.W.findIn K (.ref C) (PySem.dunder op.info.2) = some (some (.ref f))) (hf : PySem.W.isFn K (.ref f) = true)
    (h : wpAny (model prog w) A (call (.ref f) [.ref x, .ref y]) (PySem.W.CmpBack Q) E s) : wpAny (model prog w) A (binaryOp op (.ref x) (.ref y)) Q E s := by
  obtain ⟨cd, rest, hcd, hm⟩ := PySem.W.ksp_first hc
  rcases hi : op.info with ⟨sym, nm'⟩
  rw [hi] at hs
  dsimp only at hs
  have one := PySem.W.ksp_try X I hs hf h
  obtain ⟨hh, g, d, tt, os⟩ := s
  have L1 : PySem.W.Looks (model prog w) hh (typeOf (.ref x)) (.ref C) := I.type
  have L2 : PySem.W.Looks (model prog w) hh (typeOf (.ref y)) (.ref C) := J.type
  have L3 : PySem.W.Looks (model prog w) hh (fillsNumberSlot (.ref C) nm') true := PySem.W.fills_K X hcd hm hs
  simp only [binaryOp, hi]
  refine wpAny_holding (wpAny_bind ?_)
  unfold binaryOp1
  refine wpAny_bind (L1.at (wpAny_bind (L2.at (wpAny_bind (L3.at ?_)))))
  simp only [beq_self_eq_true, if_true, Bool.and_false, Bool.false_eq_true, if_false]
  ksp_lk
  refine wpAny_mono one (fun r s' hr' => ?_) fun _ _ e => e
  obtain ⟨v, rfl, hq⟩ := hr'
  ksp_lk
  exact hq
/-- what an operator of two instances needs of the class at C -/
structure BinOf (P : Program) (w : World) (K : PySem.W.Frag) (mg : Str → Option Value) (base : Heap) (k : Nat) (C : Addr) (m : Str) (sp : Sp) : Prop where
  ex : ∃ (g : Addr) (fd : FuncData) (ps : List Str), PySem.W.findIn K (.ref C) m = some (some (.ref g)) ∧ PySem.W.isFn K (.ref g) = true ∧ FnOk P w K mg base CX0 k g fd ps sp ∧ Binds K fd ps []
  sf : PySem.W.selfFirst K C = true
def rOwnB (C : Addr) (sp : Sp) : R2 := fun x y H Q => ∃ a dx fs b dy fs', x = .ref a ∧ y = .ref b ∧ H a = some (.ins C dx fs) ∧ H b = some (.ins C dy fs') ∧ sp [x, y] H (fun v H' => (∃ p, v = .ref p) ∧ Q v H') E0
theorem op_ownB {X : Cx} {n : Nat} {C : Addr} {sp : Sp} {op : Operator} {j : Nat} (c : BinOf X.prog X.w X.K X.mg X.base n C (PySem.dunder op.info.2) sp) (hr : Room j X.A) (hn : n ≤ j) : OpR X (binaryOp op) (rOwnB C sp) := by
  obtain ⟨⟨g, fd, ps, hs, hf, F, hb⟩, hc⟩ := c
  intro pins s σ H x y v u Q I rx ry h
  obtain ⟨a, dx, fs, b, dy, fs', rfl, rfl, ha, hb', q⟩ := h
  cases (show v = Value.ref a from rx)
  cases (show u = Value.ref b from ry)
  obtain ⟨mA, O, _⟩ := ins_get I.hok ha
  obtain ⟨od, J, _⟩ := O.look
  obtain ⟨mB, O2, _⟩ := ins_get I.hok hb'
  obtain ⟨od2, J2, _⟩ := O2.look
  refine bin_same_K I.kIn J J2 hc hs hf ?_
  refine wpAny_mono (run_fn (us := [.ref a, .ref b]) (vs := [.ref a, .ref b]) (dvs := []) (ds := []) F (hr.mono hn) hb .nil pass0 I (.cons rfl (.cons rfl .nil)) q) (fun z s' hz => ?_) fun _ _ x => x
  obtain ⟨zv, H', I', rz, ⟨p, hp⟩, qz⟩ := hz
  subst hp
  cases (show z = Value.ref p from rz)
  exact ⟨.ref p, H', I', rfl, qz⟩
theorem kOwnB (K : PySem.W.Frag) {X : Cx} {n : Nat} {C : Addr} {sp : Sp} {op : Operator} {j : Nat} {m : Str} (c : BinOf X.prog X.w X.K X.mg X.base n C m sp) (hr : Room j X.A) (hn : n ≤ j) (hm : PySem.dunder op.info.2 = m := by decide +kernel) (h : X.K = K := by rfl) : OpR X (binaryOp op) (rOwnB C sp) := by
  subst hm
  exact op_ownB c hr hn
theorem r_ownB {F} {C a dx b dy : Addr} {fs fs' : List (Str × V)} {H : Hp} {Q : VK} (ha : H a = some (.ins C dx fs)) (hb : H b = some (.ins C dy fs')) (q : F (.ref a) (.ref b) H (fun v H' => (∃ p, v = .ref p) ∧ Q v H') E0) : rOwnB C (sp2 F) (.ref a) (.ref b) H Q :=
  ⟨a, dx, fs, b, dy, fs', rfl, rfl, ha, hb, _, _, rfl, q⟩
theorem w_par3 {i j l : Nat} {ta : TA} {D : Ends} {σ : L2.St} {H : Hp} (h : ta σ H fun vs H1 => ∃ u v w, vs = [u, v, w] ∧ D.nx (((List.set σ i (some u)).set j (some v)).set l (some w)) H1) : tPar3 i j l ta D σ H := h

end
section
abbrev N__law_pick : List Str := ["source", "many", "digit", "value"]
theorem sc__law_pick : FnScope N__law_pick ["source", "many"] (defScope s__law_pick) := ⟨rfl, rfl, rfl, by decide +kernel, rfl, by decide +kernel, by decide +kernel⟩
theorem ok__law_pick {P : Program} {w : World} {K : PySem.W.Frag} {mg : Str → Option Value} {base : Heap} (E : Env P K mg) : Fn P w K mg base CX0 1 "_law_pick" (sp2 fun s m H Q _ => ∃ (a : Addr) (n : Int), s = .ref a ∧ m = .int n ∧ 0 < n ∧ n < 4611686018427387904 ∧ SrcAt H a ∧ ∀ (r : Int) H', 0 ≤ r → r < n → SrcAt H' a → Fr a H H' → Q (.int r) H') := by
  obtain ⟨fd, F⟩ := E.dd__law_pick
  refine Fn.mk0 F E.g__law_pick sc__law_pick sp2_len (fun _ _ _ _ _ _ us hl => match us, hl with | [_, _], _ => rfl) (fun cdv A outer s H vs Q X hr h => ?_)
  have nd := sc__law_pick.nd
  obtain ⟨v0, v1, rfl, h⟩ := h
  refine ⟨_, (pss_cons (ps_if (pt_cmpR op_gt (pe_ix (kIx K) (pv 0) (pe_int) (fun _ _ => rfl)) (pe_int) (nomark _))
   (pss_cons (ps_set (i := 2) nd rfl (.inl rfl) (pe_op xMod (pe_callTy xInt (by rfl) E.f_int (by decide +kernel) (pa_cons (pe_ix (kIx K) (pv 0) (pe_int) (fun _ _ => rfl)) pa_nil)) (pv 1)))
  (pss_cons (ps_asg (pe_op xDiv (pe_ix (kIx K) (pv 0) (pe_int) (fun _ _ => rfl)) (pv 1)) (pg_sub (pv 0) (pe_int) set_list))
  (pss_one (ps_ret (pv 2)))))
   pss_nil)
  (pss_cons (ps_asg (pe_op (kAdd K) (pe_ix (kIx K) (pv 0) (pe_int) (fun _ _ => rfl)) (pe_int)) (pg_sub (pv 0) (pe_int) set_list))
  (pss_cons (ps_set (i := 3) nd rfl (.inl rfl) (pe_op xMod (pe_callTy xInt (by rfl) E.f_int (by decide +kernel) (pa_cons (pe_op (kMul K) (pe_op (kAdd K) (pe_ix (kIx K) (pv 0) (pe_int) (fun _ _ => rfl)) (pe_op (kMul K) (pe_int) (pe_ix (kIx K) (pv 0) (pe_int) (fun _ _ => rfl)))) (pe_int)) pa_nil)) (pe_int)))
  (pss_cons (ps_set (i := 3) nd rfl (.inl rfl) (pe_op xMod (pe_callTy xInt (by rfl) E.f_int (by decide +kernel) (pa_cons (pe_op (kAdd K) (pe_op (kAdd K) (pe_op (kMul K) (pv 3) (pv 3)) (pe_op (kMul K) (pe_int) (pe_ix (kIx K) (pv 0) (pe_int) (fun _ _ => rfl)))) (pe_ix (kIx K) (pv 0) (pe_int) (fun _ _ => rfl))) pa_nil)) (pe_int)))
  (pss_cons (ps_set (i := 3) nd rfl (.inl rfl) (pe_op xMod (pe_callTy xInt (by rfl) E.f_int (by decide +kernel) (pa_cons (pe_op (kAdd K) (pe_op (kMul K) (pv 3) (pe_int)) (pe_int)) pa_nil)) (pe_int)))
  (pss_cons (ps_set (i := 3) nd rfl (.inl rfl) (pe_op xMod (pe_callTy xInt (by rfl) E.f_int (by decide +kernel) (pa_cons (pe_op (kAdd K) (pe_op (kMul K) (pv 3) (pv 3)) (pv 3)) pa_nil)) (pe_int)))
  (pss_one (ps_ret (pe_op xMod (pe_callTy xInt (by rfl) E.f_int (by decide +kernel) (pa_cons (pe_op xDiv (pv 3) (pe_int)) pa_nil)) (pv 1)))))))))), ?_⟩
  change (_ : TS) _ [some v0, some v1, none, none] H
  try dsimp only [cxOf, Cx.nox, Cx.blk]
  obtain ⟨a, n, rfl, rfl, hn, hn2, hs, k⟩ := h
  obtain ⟨d, sd, c, h1, h2, h3, h4, h5⟩ := hs
  have s1 : SqL K H a [.int d, .int sd, .int c] := sq_of h1
  walk_at "w"
  by_cases c0 : 0 < d
  · walk_at "w"
    have hd0 : 0 ≤ d / n := Int.ediv_nonneg h2 (by omega)
    refine r_set (j := 0) h1 rfl ?_
    walk_at "w"
    exact k _ _ (Int.emod_nonneg _ (by omega)) (Int.emod_lt_of_pos _ hn) ⟨d / n, sd, c, upd_same, hd0, h3, h4, h5⟩ Fr.upd
  · walk_at "w"
    refine r_set (j := 2) h1 rfl ?_
    obtain ⟨H1, e1, g1, f1⟩ : ∃ H1, upd H a (.lst ([V.int d, .int sd, .int c].set 2 (.int (c + 1)))) = H1 ∧ H1 a = some (.lst [.int d, .int sd, .int (c + 1)]) ∧ Fr a H H1 := ⟨_, rfl, upd_same, Fr.upd⟩
    rw [e1]
    have s2 : SqL K H1 a [.int d, .int sd, .int (c + 1)] := sq_of g1
    walk_at "w"
    generalize hx1 : (sd + 104729 * (c + 1)) * 48271 % 2147483647 = x1
    have b1 : 0 ≤ x1 ∧ x1 < 2147483647 := by subst hx1; exact ⟨Int.emod_nonneg _ (by decide), Int.emod_lt_of_pos _ (by decide)⟩
    walk_at "w"
    generalize hx2 : (x1 * x1 + 7 * (c + 1) + sd) % 2147483629 = x2
    have b2 : 0 ≤ x2 ∧ x2 < 2147483629 := by subst hx2; exact ⟨Int.emod_nonneg _ (by decide), Int.emod_lt_of_pos _ (by decide)⟩
    walk_at "w"
    generalize hx3 : (x2 * 69621 + 5) % 2147483647 = x3
    have b3 : 0 ≤ x3 ∧ x3 < 2147483647 := by subst hx3; exact ⟨Int.emod_nonneg _ (by decide), Int.emod_lt_of_pos _ (by decide)⟩
    walk_at "w"
    exact k _ _ (Int.emod_nonneg _ (by omega)) (Int.emod_lt_of_pos _ hn) ⟨d, sd, c + 1, g1, h2, h3, h4, by omega⟩ f1

end
section
theorem bits_abs {z : Int} (h : Builtin.Int.intBits z ≤ 1048576) : ∃ n : Nat, n ≤ 1048577 ∧ z.natAbs < 2 ^ n := by
  refine ⟨z.natAbs.log2 + 1, ?_, Nat.lt_log2_self⟩
  unfold Builtin.Int.intBits at h
  split at h
  · rename_i h0
    have : z = 0 := by simpa using h0
    subst this
    decide
  · omega
theorem shl_of {z : Int} {j : Nat} (hj : j ≤ 100000) (hz : 0 ≤ z) (h : ∃ n : Nat, n ≤ 1048577 ∧ z.natAbs < 2 ^ n) (m : Nat) : CShl (z / 2 ^ m) (j : Int) := by
  obtain ⟨n, hn, hb⟩ := h
  refine shl_ok (n := n) (Nat.lt_of_le_of_lt ?_ hb) (by omega)
  have h1 : z / 2 ^ m ≤ z := Int.ediv_le_self _ hz
  have h2 : 0 ≤ z / 2 ^ m := Int.ediv_nonneg hz (Int.le_of_lt (Int.pow_pos (by decide)))
  omega
abbrev N__law_source : List Str := ["script", "place", "cell", "seed", "one", "number"]
theorem sc__law_source : FnScope N__law_source ["script", "place"] (defScope s__law_source) := ⟨rfl, rfl, rfl, by decide +kernel, rfl, by decide +kernel, by decide +kernel⟩
theorem ok__law_source {P : Program} {w : World} {K : PySem.W.Frag} {mg : Str → Option Value} {base : Heap} (E : Env P K mg) : Fn P w K mg base CX0 1 "_law_source" (sp2 fun s p H Q _ => ∃ (a : Addr) (ns : List Int) (i : Int), s = .ref a ∧ p = .int i ∧ SqL K H a (vI ns) ∧ (∀ z ∈ ns, Builtin.Int.intBits z ≤ 1048576) ∧ ns.length ≤ 63 ∧ 0 ≤ i ∧ i ≤ 100 ∧ ∀ x H', H x = none → Ex H H' → SrcAt H' x → Q (.ref x) H') := by
  obtain ⟨fd, F⟩ := E.dd__law_source
  refine Fn.mk0 F E.g__law_source sc__law_source sp2_len (fun _ _ _ _ _ _ us hl => match us, hl with | [_, _], _ => rfl) (fun cdv A outer s H vs Q X hr h => ?_)
  have nd := sc__law_source.nd
  obtain ⟨v0, v1, rfl, h⟩ := h
  refine ⟨_, (pss_cut (ps_set (i := 2) nd rfl (.inl rfl) (pe_ifExp (pt_cmpR op_lt (pv 1) (pe_callB (kLen K) (by rfl) E.f_len (by decide +kernel) (pa_cons (pv 0) pa_nil)) (nomark _)) (pe_ix (kIx K) (pv 0) (pv 1) (fun _ _ => rfl)) (pe_op (kAdd K) (pe_op (kMul K) (pe_int) (pv 1)) (pe_int))))
  (pss_cons (ps_set (i := 3) nd rfl (.inl rfl) (pe_op xMod (pe_callTy xInt (by rfl) E.f_int (by decide +kernel) (pa_cons (pe_op (kAdd K) (pe_op xMod (pe_callTy xInt (by rfl) E.f_int (by decide +kernel) (pa_cons (pv 2) pa_nil)) (pe_int)) (pe_op (kMul K) (pe_int) (pv 1))) pa_nil)) (pe_int)))
  (pss_cons (ps_for PassesOwn.never rfl (kSeq K (pe_slice (kSl K) (pv 0) po_none (po_some (pe_int)))) (pg_name (i := 4) nd rfl (.inl rfl))
   (pss_one (ps_set (i := 3) nd rfl (.inl rfl) (pe_op xMod (pe_callTy xInt (by rfl) E.f_int (by decide +kernel) (pa_cons (pe_op (kAdd K) (pe_op (kMul K) (pv 3) (pe_int)) (pe_op xMod (pe_callTy xInt (by rfl) E.f_int (by decide +kernel) (pa_cons (pv 4) pa_nil)) (pe_int))) pa_nil)) (pe_int)))))
  (pss_cons (ps_set (i := 5) nd rfl (.inl rfl) (pe_callB xAbs (by rfl) E.f_abs (by decide +kernel) (pa_cons (pv 2) pa_nil)))
  (pss_cons (ps_if (pt_cmpR op_lt (pv 5) (pe_op xPow (pe_int) (pe_int)) (nomark _))
   (pss_one (ps_ret (pe_lst (pa_cons (pe_int) (pa_cons (pv 3) (pa_cons (pe_int) pa_nil))))))
   pss_nil)
  (pss_cons (ps_if (pt_cmpR op_gt (pe_op xShr (pv 5) (pe_int)) (pe_int) (nomark _))
   (pss_one (ps_set (i := 5) nd rfl (.inl rfl) (pe_op xSub (pv 5) (pe_op xShl (pe_op xShr (pv 5) (pe_int)) (pe_int)))))
   pss_nil)
  (pss_one (ps_ret (pe_lst (pa_cons (pv 5) (pa_cons (pv 3) (pa_cons (pe_int) pa_nil)))))))))))), ?_⟩
  change (_ : TS) _ [some v0, some v1, none, none, none, none] H
  try dsimp only [cxOf, Cx.nox, Cx.blk]
  obtain ⟨a, ns, i, rfl, rfl, s0, hb, hz, hi, hi2, k⟩ := h
  have fin : ∀ (cell seed : Int) (H1 : Hp) (v : Option V), Ex H H1 → (∃ n : Nat, n ≤ 1048577 ∧ cell.natAbs < 2 ^ n) → 0 ≤ seed → seed < 2147483629 →
      tSeq (tAsg (tCB rAbsU (tCons (tVar 2) tNil)) (gName 5)) (tSeq (tIfS (tTest (tOp (rI0 fun i j => .bl (decide (i < j))) (tVar 5) (tOp rPow (tC (.int 10)) (tC (.int 18))))) (tRet (tLst (tCons (tC (.int 0)) (tCons (tVar 3) (tCons (tC (.int 0)) tNil))))) tNext)
        (tSeq (tIfS (tTest (tOp (rI0 fun i j => .bl (decide (j < i))) (tOp rShr (tVar 5) (tC (.int 4000))) (tC (.int 0)))) (tAsg (tOp rSubI (tVar 5) (tOp rShl (tOp rShr (tVar 5) (tC (.int 4000))) (tC (.int 4000)))) (gName 5)) tNext)
          (tRet (tLst (tCons (tVar 5) (tCons (tVar 3) (tCons (tC (.int 0)) tNil))))))) { nx := fun _ H' => Q .non H', rt := Q } [some (.ref a), some (.int i), some (.int cell), some (.int seed), v, none] H1 := by
    intro cell seed H1 v e1 hc h0 h1
    have ret : ∀ (d : Int), 0 ≤ d → NewL [.int d, .int seed, .int 0] H1 Q := fun d hd => w_newL (by walk_at "sz") fun p H2 n2 e2 h2 => k p H2 (fresh_back e1 n2) (e1.trans e2) ⟨d, seed, 0, h2, hd, h0, h1, Int.le_refl 0⟩
    repeat walk_at "w1"
    refine r_abs ?_
    repeat walk_at "w1"
    refine r_pow ⟨by decide, by decide, by decide⟩ ?_
    refine r_lt ?_
    repeat walk_at "w1"
    have hn0 : (0 : Int) ≤ (cell.natAbs : Int) := Int.natCast_nonneg _
    have hb : ∃ n : Nat, n ≤ 1048577 ∧ (cell.natAbs : Int).natAbs < 2 ^ n := hc
    generalize (10 : Int) ^ (18 : Int).toNat = B1
    generalize (cell.natAbs : Int) = num at *
    refine w_ite (fun _ => ?_) (fun _ => ?_)
    · repeat walk_at "w1"
      exact ret 0 (Int.le_refl 0)
    · repeat walk_at "w1"
      refine r_shr (by decide) ?_
      repeat walk_at "w1"
      refine r_gt ?_
      repeat walk_at "w1"
      refine w_ite (fun _ => ?_) (fun _ => ?_)
      · repeat walk_at "w1"
        refine r_shr (by decide) ?_
        repeat walk_at "w1"
        refine r_shl (shl_of (j := 4000) (by decide) hn0 hb _) ?_
        refine r_subI ?_
        repeat walk_at "w1"
        refine ret _ ?_
        have h4 : (4000 : Int).toNat = ((4000 : Nat) : Int).toNat := rfl
        generalize (4000 : Int).toNat = m at *
        rw [← h4]
        have h5 : num / 2 ^ m * 2 ^ m ≤ num := Int.ediv_mul_le num (Int.ne_of_gt (Int.pow_pos (by decide)))
        exact Int.sub_nonneg_of_le h5
      · repeat walk_at "w1"
        exact ret _ hn0
  refine w_cut (M := fun σ' H' => ∃ cell : Int, σ' = [some (.ref a), some (.int i), some (.int cell), none, none, none] ∧ H' = H ∧ ∃ n : Nat, n ≤ 1048577 ∧ cell.natAbs < 2 ^ n) ?_ ?_
  · walk_at "w"
    by_cases c : i < ns.length
    · walk_at "w"
      have hm : gI ns i ∈ ns := by
        unfold gI
        rw [List.getD_eq_getElem?_getD, List.getElem?_eq_getElem (show i.toNat < ns.length by omega)]
        exact List.getElem_mem _
      exact ⟨_, rfl, rfl, bits_abs (hb _ hm)⟩
    · walk_at "w"
      exact ⟨_, rfl, rfl, 10, by omega, by omega⟩
  rintro σ' H' ⟨cell, rfl, rfl, hc⟩
  walk_at "w"
  refine i_seqL ?_
  walk_at "w"
  intro p H1 n1 e1 h1
  walk_at "w"
  refine for_list (xs := vI (ns.take 2)) (Pv := fun _ σ' H2 => ∃ (sd : Int) (v : Option V), σ' = [some (.ref a), some (.int i), some (.int cell), some (.int sd), v, none] ∧ 0 ≤ sd ∧ sd < 2147483629 ∧ H2 = H1) ⟨_, _, rfl, Int.emod_nonneg _ (by decide), Int.emod_lt_of_pos _ (by decide), rfl⟩ (fun _ _ H2 _ q => by obtain ⟨_, _, _, _, _, rfl⟩ := q; exact sq_of h1) ?_ ?_
  · rintro j x σ' H2 hx ⟨sd, v, rfl, g0, g1, rfl⟩
    obtain ⟨z, _, rfl⟩ := List.mem_map.mp (List.mem_of_getElem? hx)
    walk_at "w"
    exact ⟨_, _, rfl, Int.emod_nonneg _ (by decide), Int.emod_lt_of_pos _ (by decide), rfl⟩
  · rintro σ' H2 ⟨sd, v, rfl, g0, g1, rfl⟩
    exact fin cell sd H2 v e1 hc g0 g1

end
section
/-- counts from lo on that do not fall, each step less than st -/
def Ris (ns : List Int) (lo st : Int) : Prop := rising ns ∧ (∀ n ∈ ns, lo ≤ n) ∧ ∀ n ∈ ns, n ≤ lo + ns.length * (st - 1)
theorem gI_app {ns : List Int} {v : Int} {i : Nat} : gI (ns ++ [v]) i = if i < ns.length then gI ns i else if i = ns.length then v else 0 := by
  unfold gI
  rw [Int.toNat_natCast, List.getD_eq_getElem?_getD, List.getD_eq_getElem?_getD]
  by_cases h : i < ns.length
  · rw [List.getElem?_append_left h, if_pos h]
  · rw [List.getElem?_append_right (by omega), if_neg h]
    by_cases h2 : i = ns.length
    · subst h2; simp
    · rw [if_neg h2, List.getElem?_eq_none (by simp; omega)]; rfl
theorem rising_app {ns : List Int} {v : Int} (h : rising ns) (hv : ∀ n ∈ ns, n ≤ v) : rising (ns ++ [v]) := by
  intro i hi
  rw [List.length_append, List.length_singleton] at hi
  have e : ((i : Int) + 1) = ((i + 1 : Nat) : Int) := rfl
  rw [e, gI_app, gI_app, if_pos (by omega)]
  by_cases h2 : i + 1 < ns.length
  · rw [if_pos h2]; exact h i h2
  · rw [if_neg h2, if_pos (by omega)]
    refine hv _ ?_
    unfold gI
    rw [Int.toNat_natCast, List.getD_eq_getElem?_getD, List.getElem?_eq_getElem (show i < ns.length by omega)]
    exact List.getElem_mem _
abbrev N__law_rising : List Str := ["source", "many", "low", "steps", "told", "value", "k"]
theorem sc__law_rising : FnScope N__law_rising ["source", "many", "low", "steps"] (defScope s__law_rising) := ⟨rfl, rfl, rfl, by decide +kernel, rfl, by decide +kernel, by decide +kernel⟩
theorem ok__law_rising {P : Program} {w : World} {K : PySem.W.Frag} {mg : Str → Option Value} {base : Heap} (E : Env P K mg) : Fn P w K mg base CX0 2 "_law_rising" (sp4 fun s m lo st H Q _ => ∃ (a : Addr) (n : Nat) (low step : Int), s = .ref a ∧ m = .int n ∧ lo = .int low ∧ st = .int step ∧ n ≤ 1000 ∧ 0 < step ∧ step < 1000000 ∧ SrcAt H a ∧ ∀ p ns H', H p = none → Fr a H H' → SrcAt H' a → H' p = some (.lst (vI ns)) → ns.length = n → Ris ns low step → Q (.ref p) H') := by
  obtain ⟨fd, F⟩ := E.dd__law_rising
  refine Fn.mk0 F E.g__law_rising sc__law_rising sp4_len (fun _ _ _ _ _ _ us hl => match us, hl with | [_, _, _, _], _ => rfl) (fun cdv A outer s H vs Q X hr h => ?_)
  have nd := sc__law_rising.nd
  obtain ⟨v0, v1, v2, v3, rfl, h⟩ := h
  refine ⟨_, (pss_cons (ps_set (i := 4) nd rfl (.inl rfl) (pe_lst (pa_nil)))
  (pss_cons (ps_set (i := 5) nd rfl (.inl rfl) (pv 2))
  (pss_cons (ps_for PassesOwn.never rfl (pi_range1 (by rfl) E.f_range (pa_cons (pv 1) pa_nil)) (pg_name (i := 6) nd rfl (.inl rfl))
   (pss_cons (ps_set (i := 5) nd rfl (.inl rfl) (pe_op (kAdd K) (pv 5) (pc (ok__law_pick E) hr (by decide) pass0 rfl (pa_cons (pv 0) (pa_cons (pv 3) pa_nil)))))
  (pss_one (ps_expr (kBM K (pe_bm PySem.F.plainAttrs_list PySem.F.slot_list_append PySem.F.type_list_append mt_append (pv 4) (pa_cons (pv 5) pa_nil)))))))
  (pss_one (ps_ret (pv 4)))))), ?_⟩
  change (_ : TS) _ [some v0, some v1, some v2, some v3, none, none, none] H
  try dsimp only [cxOf, Cx.nox, Cx.blk]
  obtain ⟨a, n, low, step, rfl, rfl, rfl, rfl, hn, hs0, hs1, hsrc, k⟩ := h
  walk_at "w"
  intro p H1 n1 e1 h1
  have hpa := hsrc.ne n1
  walk_at "w"
  refine for_range (lo := 0) (Pv := fun i σ' H' => ∃ (ns : List Int) (v : Int) (o : Option V), σ' = [some (.ref a), some (.int n), some (.int low), some (.int step), some (.ref p), some (.int v), o] ∧ Fr a H H' ∧ SrcAt H' a ∧ H' p = some (.lst (vI ns)) ∧ ns.length = i ∧ rising ns ∧ (∀ x ∈ ns, low ≤ x ∧ x ≤ v) ∧ low ≤ v ∧ v ≤ low + i * (step - 1))
    ⟨[], low, none, rfl, Fr.of e1, hsrc.ex e1, h1, rfl, fun i hi => by simp at hi, fun x hx => by simp at hx, Int.le_refl _, by omega⟩ ?_ ?_
  · rintro i σ' H' hi ⟨ns, v, o, rfl, f1, q1, g1, hl, hr1, hr2, hr3, hr4⟩
    walk_at "w"
    refine ⟨a, step, rfl, rfl, hs0, by omega, q1, fun r H2 r0 r1 q2 f2 => ?_⟩
    walk_at "w"
    have g2 := f2 p _ hpa g1
    walk_at "w"
    refine r_app (K := K) g2 (sz_lt (by rw [List.length_map]; omega)) ?_
    walk_at "w"
    refine ⟨ns ++ [v + r], v + r, _, rfl, fun b o nb hb => ?_, ?_, ?_, ?_, ?_, ?_, ?_, ?_⟩
    · rw [upd_ne (ne_of_none hb n1)]
      exact f2 b o nb (f1 b o nb hb)
    · obtain ⟨d, s, c, w1, w2⟩ := q2
      exact ⟨d, s, c, by rw [upd_ne hpa.symm]; exact w1, w2⟩
    · rw [show vI (ns ++ [v + r]) = vI ns ++ [V.int (v + r)] from List.map_append ..]
      exact upd_same
    · rw [List.length_append, hl]; rfl
    · exact rising_app hr1 fun x hx => by have := (hr2 x hx).2; omega
    · intro x hx
      rcases List.mem_append.mp hx with hx | hx
      · have := hr2 x hx; omega
      · have : x = v + r := by simpa using hx
        omega
    · omega
    · rw [show ((i + 1 : Nat) : Int) * (step - 1) = i * (step - 1) + (step - 1) by rw [Int.natCast_add, Int.add_mul]; omega]
      omega
  · rintro σ' H' ⟨ns, v, o, rfl, f1, q1, g1, hl, hr1, hr2, hr3, hr4⟩
    walk_at "w"
    rw [Int.toNat_natCast] at hl hr4
    refine k p ns H' n1 f1 q1 g1 hl ⟨hr1, fun x hx => (hr2 x hx).1, fun x hx => ?_⟩
    have := (hr2 x hx).2
    rw [hl]
    omega

end
section
theorem gI_lit {ns : List Int} {r lo hi : Int} (h : ns.all (fun n => decide (lo ≤ n) && decide (n ≤ hi)) = true) (r0 : 0 ≤ r) (r1 : r < ns.length) : lo ≤ gI ns r ∧ gI ns r ≤ hi := by
  have hl : r.toNat < ns.length := by omega
  have hm : gI ns r ∈ ns := by
    unfold gI
    rw [List.getD_eq_getElem?_getD, List.getElem?_eq_getElem hl]
    exact List.getElem_mem _
  have := List.all_eq_true.mp h _ hm
  simpa using this
theorem gI_mem {ns : List Int} {r : Int} (r0 : 0 ≤ r) (r1 : r < ns.length) : gI ns r ∈ ns := by
  unfold gI
  rw [List.getD_eq_getElem?_getD, List.getElem?_eq_getElem (show r.toNat < ns.length by omega)]
  exact List.getElem_mem _
theorem rising_le {ns : List Int} (h : rising ns) : ∀ (d i : Nat), i + d < ns.length → gI ns i ≤ gI ns (i + d)
  | 0, i, _ => Int.le_refl _
  | d + 1, i, hi => by
    refine Int.le_trans (rising_le h d i (by omega)) ?_
    have := h (i + d) (by omega)
    exact this
/-- small values -/
structure RawOk (h l : List Int) (r : Int) : Prop where
  val : Val h l r
  zh : h.length ≤ 4
  zl : l.length ≤ 4
  bh : ∀ n ∈ h, n ≤ 8
  bl : ∀ n ∈ l, n ≤ 16
  br : r ≤ 12
abbrev N__law_raw : List Str := ["source", "steady", "head", "low", "many", "loop", "more", "rise"]
theorem sc__law_raw : FnScope N__law_raw ["source", "steady"] (defScope s__law_raw) := ⟨rfl, rfl, rfl, by decide +kernel, rfl, by decide +kernel, by decide +kernel⟩
theorem ok__law_raw {P : Program} {w : World} {K : PySem.W.Frag} {mg : Str → Option Value} {base : Heap} (E : Env P K mg) : Fn P w K mg base CX0 3 "_law_raw" (sp2 fun s t H Q _ => ∃ (a : Addr) (b : Bool), s = .ref a ∧ t = .bl b ∧ SrcAt H a ∧ ∀ v H' h l r, Fr a H H' → SrcAt H' a → Dp K H' v (dRaw h l r) → RawOk h l r → (b = true → l ≠ [] ∧ 0 < r) → Q v H') := by
  obtain ⟨fd, F⟩ := E.dd__law_raw
  refine Fn.mk0 F E.g__law_raw sc__law_raw sp2_len (fun _ _ _ _ _ _ us hl => match us, hl with | [_, _], _ => rfl) (fun cdv A outer s H vs Q X hr h => ?_)
  have nd := sc__law_raw.nd
  obtain ⟨v0, v1, rfl, h⟩ := h
  refine ⟨_, (pss_cons (ps_set (i := 2) nd rfl (.inl rfl) (pc (ok__law_rising E) hr (by decide) pass0 rfl (pa_cons (pv 0) (pa_cons (pe_ix (kIx K) (pe_lst (pa_cons (pe_int) (pa_cons (pe_int) (pa_cons (pe_int) (pa_cons (pe_int) (pa_cons (pe_int) (pa_cons (pe_int) (pa_cons (pe_int) (pa_cons (pe_int) pa_nil))))))))) (pc (ok__law_pick E) hr (by decide) pass0 rfl (pa_cons (pv 0) (pa_cons (pe_int) pa_nil))) (fun _ _ => rfl)) (pa_cons (pe_int) (pa_cons (pe_int) pa_nil))))))
  (pss_cut (ps_set (i := 3) nd rfl (.inl rfl) (pe_ifExp (pt_cmpR op_gt (pe_callB (kLen K) (by rfl) E.f_len (by decide +kernel) (pa_cons (pv 2) pa_nil)) (pe_int) (nomark _)) (pe_ix (kIx K) (pv 2) (pe_un un_neg (pe_int)) (fun _ _ => rfl)) (pe_int)))
  (pss_cut (ps_if (PW.pt (pw_and (pt_not (kTru K (pv 1) (by intro _; rfl))) (pw_and1 (pt_cmpR (kEq K hr) (pc (ok__law_pick E) hr (by decide) pass0 rfl (pa_cons (pv 0) (pa_cons (pe_int) pa_nil))) (pe_int) (nomark _)))))
   (pss_one (ps_ret (pe_tup (pa_cons (pe_callTy (kTup K) (by rfl) E.f_tuple (by decide +kernel) (pa_cons (pv 2) pa_nil)) (pa_cons (pe_tup pa_nil) (pa_cons (pe_int) pa_nil))))))
   pss_nil)
  (pss_cons (ps_set (i := 4) nd rfl (.inl rfl) (pe_ix (kIx K) (pe_lst (pa_cons (pe_int) (pa_cons (pe_int) (pa_cons (pe_int) (pa_cons (pe_int) (pa_cons (pe_int) (pa_cons (pe_int) (pa_cons (pe_int) (pa_cons (pe_int) pa_nil))))))))) (pc (ok__law_pick E) hr (by decide) pass0 rfl (pa_cons (pv 0) (pa_cons (pe_int) pa_nil))) (fun _ _ => rfl)))
  (pss_cons (ps_set (i := 5) nd rfl (.inl rfl) (pc (ok__law_rising E) hr (by decide) pass0 rfl (pa_cons (pv 0) (pa_cons (pv 4) (pa_cons (pv 3) (pa_cons (pe_int) pa_nil))))))
  (pss_cons (ps_set (i := 6) nd rfl (.inl rfl) (pe_ix (kIx K) (pe_lst (pa_cons (pe_int) (pa_cons (pe_int) (pa_cons (pe_int) (pa_cons (pe_int) (pa_cons (pe_int) (pa_cons (pv 4) (pa_cons (pe_int) (pa_cons (pe_int) pa_nil))))))))) (pc (ok__law_pick E) hr (by decide) pass0 rfl (pa_cons (pv 0) (pa_cons (pe_int) pa_nil))) (fun _ _ => rfl)))
  (pss_cons (ps_set (i := 7) nd rfl (.inl rfl) (pe_op (kAdd K) (pe_op xSub (pe_ix (kIx K) (pv 5) (pe_un un_neg (pe_int)) (fun _ _ => rfl)) (pe_ix (kIx K) (pv 5) (pe_int) (fun _ _ => rfl))) (pv 6)))
  (pss_cut (ps_if (PW.pt (pw_and (kTru K (pv 1) (by intro _; rfl)) (pw_and1 (pt_cmpR (kEq K hr) (pv 7) (pe_int) (nomark _)))))
   (pss_one (ps_set (i := 7) nd rfl (.inl rfl) (pe_int)))
   pss_nil)
  (pss_one (ps_ret (pe_tup (pa_cons (pe_callTy (kTup K) (by rfl) E.f_tuple (by decide +kernel) (pa_cons (pv 2) pa_nil)) (pa_cons (pe_callTy (kTup K) (by rfl) E.f_tuple (by decide +kernel) (pa_cons (pv 5) pa_nil)) (pa_cons (pv 7) pa_nil)))))))))))))), ?_⟩
  change (_ : TS) _ [some v0, some v1, none, none, none, none, none, none] H
  try dsimp only [cxOf, Cx.nox, Cx.blk]
  obtain ⟨a, b, rfl, rfl, hsrc, k⟩ := h
  walk_at "w"
  intro p1 H1 n1 e1 h1
  walk_at "w"
  refine ⟨a, 8, rfl, rfl, by decide, by decide, hsrc.ex e1, fun r1 H2 r10 r18 q2 f2 => ?_⟩
  have g1 : H2 p1 = some (.lst (vI [0, 1, 2, 0, 3, 1, 4, 2])) := f2 p1 _ (hsrc.ne n1) h1
  have b1 := gI_lit (ns := [0, 1, 2, 0, 3, 1, 4, 2]) (lo := 0) (hi := 4) (by decide) r10 r18
  have F2 : Fr a H H2 := (Fr.of e1).trans f2
  walk_at "w"
  obtain ⟨m1, hm1⟩ := Int.eq_ofNat_of_zero_le b1.1
  rw [hm1]
  rw [hm1] at b1
  refine ⟨a, m1, 0, 3, rfl, rfl, rfl, rfl, by omega, by decide, by decide, q2, fun ph hs H3 n3 f3 q3 h3 hl3 hr3 => ?_⟩
  have hpa : ph ≠ a := q2.ne n3
  have F3 : Fr a H H3 := F2.trans f3
  have hs4 : hs.length ≤ 4 := by omega
  have hs0 : ∀ n ∈ hs, 0 ≤ n := hr3.2.1
  have hs8 : ∀ n ∈ hs, n ≤ 8 := fun n hn => by have := hr3.2.2 n hn; omega
  walk_at "w"
  refine w_cut (M := fun σ' H' => ∃ low : Int, σ' = [some (.ref a), some (.bl b), some (.ref ph), some (.int low), none, none, none, none] ∧ H' = H3 ∧ 0 ≤ low ∧ low ≤ 8 ∧ (hs ≠ [] → gI hs (hs.length - 1) = low)) ?_ ?_
  · walk_at "w"
    by_cases c : 0 < (hs.length : Int)
    · walk_at "w"
      have hm := gI_mem (ns := hs) (r := -1 + hs.length) (by omega) (by omega)
      exact ⟨_, rfl, rfl, hs0 _ hm, hs8 _ hm, fun _ => by rw [show (hs.length : Int) - 1 = -1 + hs.length by omega]⟩
    · walk_at "w"
      exact ⟨_, rfl, rfl, Int.le_refl _, by decide, fun h => absurd (List.length_pos_iff.mpr h) (by omega)⟩
  rintro σ' H' ⟨low, rfl, rfl, lo0, lo8, hlow⟩
  have V0 : Val hs [] 0 := ⟨hs0, fun n hn => by simp at hn, hr3.1, fun i hi => by simp at hi, Int.le_refl _, fun _ => rfl, fun _ h => absurd rfl h, fun h => absurd rfl h, ⟨by decide, by decide, by omega, by simp⟩⟩
  refine w_cut (M := fun σ' H' => σ' = [some (.ref a), some (.bl b), some (.ref ph), some (.int low), none, none, none, none] ∧ Fr a H H' ∧ SrcAt H' a ∧ H' ph = some (.lst (vI hs))) ?_ ?_
  · cases b with
    | true =>
      walk_at "w"
      exact ⟨rfl, F3, q3, h3⟩
    | false =>
      walk_at "w"
      refine ⟨a, 7, rfl, rfl, by decide, by decide, q3, fun r2 H4 _ _ q4 f4 => ?_⟩
      have h4 := f4 ph _ hpa h3
      walk_at "w"
      refine w_ite (fun _ => ?_) (fun _ => ?_)
      · walk_at "w"
        intro p5 H5 e5 s5
        walk_at "w"
        intro p6 H6 n6 e6 h6
        walk_at "w"
        intro p7 H7 n7 e7 h7
        exact k _ _ hs [] 0 (F3.trans (f4.trans (Fr.of ((e5.trans e6).trans e7)))) (q4.ex ((e5.trans e6).trans e7)) (dp_of_raw (st_of h7) (ex_t e7 (ex_t e6 s5)) (ex_t e7 (st_of h6))) ⟨V0, hs4, by simp, fun n hn => by have := hs8 n hn; omega, fun n hn => by simp at hn, by decide⟩ (fun h => nomatch h)
      · walk_at "w"
        exact ⟨rfl, F3.trans f4, q4, h4⟩
  rintro σ' H4 ⟨rfl, F4, q4, h4⟩
  walk_at "w"
  intro p5 H5 n5 e5 h5
  walk_at "w"
  refine ⟨a, 8, rfl, rfl, by decide, by decide, q4.ex e5, fun r2 H6 r20 r28 q6 f6 => ?_⟩
  have g6 : H6 p5 = some (.lst (vI [1, 2, 1, 3, 2, 1, 4, 3])) := f6 p5 _ (q4.ne n5) h5
  have b6 := gI_lit (ns := [1, 2, 1, 3, 2, 1, 4, 3]) (lo := 1) (hi := 4) (by decide) r20 r28
  have h6 := f6 ph _ hpa (e5 _ _ h4)
  have F6 : Fr a H H6 := F4.trans ((Fr.of e5).trans f6)
  walk_at "w"
  obtain ⟨m2, hm2⟩ := Int.eq_ofNat_of_zero_le (show 0 ≤ gI [1, 2, 1, 3, 2, 1, 4, 3] r2 by omega)
  rw [hm2]
  rw [hm2] at b6
  refine ⟨a, m2, low, 3, rfl, rfl, rfl, rfl, by omega, by decide, by decide, q6, fun pl ls H7 n7 f7 q7 h7 hl7 hr7 => ?_⟩
  have hla : pl ≠ a := q6.ne n7
  have F7 : Fr a H H7 := F6.trans f7
  have g7 := f7 ph _ hpa h6
  have hl0 : 0 < ls.length := by omega
  have ls0 : ∀ n ∈ ls, low ≤ n := hr7.2.1
  have ls8 : ∀ n ∈ ls, n ≤ 16 := fun n hn => by have := hr7.2.2 n hn; omega
  walk_at "w"
  intro p8 H8 n8 e8 h8
  walk_at "w"
  refine ⟨a, 8, rfl, rfl, by decide, by decide, q7.ex e8, fun r3 H9 r30 r38 q9 f9 => ?_⟩
  have g9 : H9 p8 = some (.lst (vI [1, 2, 1, 0, 3, m2, 2, 1])) := f9 p8 _ (q7.ne n8) h8
  have b9 : 0 ≤ gI [1, 2, 1, 0, 3, (m2 : Int), 2, 1] r3 ∧ gI [1, 2, 1, 0, 3, (m2 : Int), 2, 1] r3 ≤ 4 := gI_lit (by simp; omega) r30 r38
  have h9 := f9 ph _ hpa (e8 _ _ g7)
  have l9 := f9 pl _ hla (e8 _ _ h7)
  have F9 : Fr a H H9 := F7.trans ((Fr.of e8).trans f9)
  walk_at "w"
  generalize gI [1, 2, 1, 0, 3, (m2 : Int), 2, 1] r3 = more at *
  have hlast : gI ls 0 ≤ gI ls (-1 + ls.length) := by
    have := rising_le hr7.1 (ls.length - 1) 0 (by omega)
    rw [show (-1 + (ls.length : Int)) = ((0 : Nat) : Int) + ((ls.length - 1 : Nat) : Int) by omega]
    exact this
  have hf := gI_mem (ns := ls) (r := 0) (Int.le_refl _) (by omega)
  have hla2 := gI_mem (ns := ls) (r := -1 + ls.length) (by omega) (by omega)
  have z1 := ls0 _ hf
  have z2 := ls8 _ hla2
  have z3 := hr7.2.2 _ hla2
  generalize hfe : gI ls 0 = fst at *
  generalize hle : gI ls (-1 + ls.length) = lst at *
  refine w_cut (M := fun σ' H' => ∃ r : Int, σ' = [some (.ref a), some (.bl b), some (.ref ph), some (.int low), some (.int m2), some (.ref pl), some (.int more), some (.int r)] ∧ H' = H9 ∧ lst - fst ≤ r ∧ r ≤ 12 ∧ 0 ≤ r ∧ (b = true → 0 < r)) ?_ ?_
  · cases b with
    | true =>
      walk_at "w"
      by_cases c : lst - fst + more = 0
      · walk_at "w"
        exact ⟨_, rfl, rfl, by omega, by decide, by decide, fun _ => by decide⟩
      · walk_at "w"
        exact ⟨_, rfl, rfl, by omega, by omega, by omega, fun _ => by omega⟩
    | false =>
      walk_at "w"
      exact ⟨_, rfl, rfl, by omega, by omega, by omega, fun h => nomatch h⟩
  rintro σ' H' ⟨r, rfl, rfl, y1, y2, y3, y4⟩
  walk_at "w"
  intro p10 H10 e10 s10
  walk_at "w"
  intro p11 H11 e11 s11
  walk_at "w"
  intro p12 H12 n12 e12 h12
  have ee := (e10.trans e11).trans e12
  refine k _ _ hs ls r (F9.trans (Fr.of ee)) (q9.ex ee) (dp_of_raw (st_of h12) (ex_t e12 (ex_t e11 s10)) (ex_t e12 s11)) ⟨⟨hs0, fun n hn => by have := ls0 n hn; omega, hr3.1, hr7.1, y3, fun h => ?_, fun hne _ => ?_, fun _ => ?_, ⟨by omega, by omega, by omega, by omega⟩⟩, hs4, by omega, fun n hn => by have := hs8 n hn; omega, fun n hn => by have := ls8 n hn; omega, y2⟩ (fun hb => ⟨List.length_pos_iff.mp hl0, y4 hb⟩)
  · subst h; simp at hl0
  · rw [hlow hne, hfe]; exact z1
  · rw [show (ls.length : Int) - 1 = -1 + ls.length by omega, hle, hfe]; omega

end
section
abbrev N__law_is_integer : List Str := ["thing"]
theorem sc__law_is_integer : FnScope N__law_is_integer ["thing"] (defScope s__law_is_integer) := ⟨rfl, rfl, rfl, by decide +kernel, rfl, by decide +kernel, by decide +kernel⟩
theorem ok__law_is_integer {P : Program} {w : World} {K : PySem.W.Frag} {mg : Str → Option Value} {base : Heap} (E : Env P K mg) : Fn P w K mg base CX0 1 "_law_is_integer" (sp1 fun v H Q _ => ∃ d, Dp K H v d ∧ RetD K (.bool (dIsInt d)) H Q) := by
  obtain ⟨fd, F⟩ := E.dd__law_is_integer
  refine Fn.mk0 F E.g__law_is_integer sc__law_is_integer sp1_len (fun _ _ _ _ _ _ us hl => match us, hl with | [_], _ => rfl) (fun cdv A outer s H vs Q X hr h => ?_)
  have nd := sc__law_is_integer.nd
  obtain ⟨v0, rfl, h⟩ := h
  refine ⟨_, (pss_one (ps_ret (pe_and (pe_callB (kIsi K) (by rfl) E.f_isinstance (by decide +kernel) (pa_cons (pv 0) (pa_cons (pe_bltn (v := .ty "int") (by rfl) E.f_int (by decide +kernel) rfl) pa_nil))) (pe_one (pe_not (pe_callB (kIsi K) (by rfl) E.f_isinstance (by decide +kernel) (pa_cons (pv 0) (pa_cons (pe_bltn (v := .ty "bool") (by rfl) E.f_bool (by decide +kernel) rfl) pa_nil)))))))), ?_⟩
  change (_ : TS) _ [some v0] H
  try dsimp only [cxOf, Cx.nox, Cx.blk]
  obtain ⟨d, hd, k⟩ := h
  cases d with
  | dict x => exact (dp_nodict hd).elim
  | int i => cases hd; walk_at "w"; exact k.bl (by walk_at "ex")
  | _ => cases hd <;> (walk_at "w"; exact k.bl (by walk_at "ex"))
abbrev N__law_is_count : List Str := ["thing"]
theorem sc__law_is_count : FnScope N__law_is_count ["thing"] (defScope s__law_is_count) := ⟨rfl, rfl, rfl, by decide +kernel, rfl, by decide +kernel, by decide +kernel⟩
theorem ok__law_is_count {P : Program} {w : World} {K : PySem.W.Frag} {mg : Str → Option Value} {base : Heap} (E : Env P K mg) : Fn P w K mg base CX0 2 "_law_is_count" (sp1 fun v H Q _ => ∃ d, Dp K H v d ∧ RetD K (.bool (dIsCount d)) H Q) := by
  obtain ⟨fd, F⟩ := E.dd__law_is_count
  refine Fn.mk0 F E.g__law_is_count sc__law_is_count sp1_len (fun _ _ _ _ _ _ us hl => match us, hl with | [_], _ => rfl) (fun cdv A outer s H vs Q X hr h => ?_)
  have nd := sc__law_is_count.nd
  obtain ⟨v0, rfl, h⟩ := h
  refine ⟨_, (pss_one (ps_ret (pe_and (pc (ok__law_is_integer E) hr (by decide) pass0 rfl (pa_cons (pv 0) pa_nil)) (pe_one (pe_cmpR op_ge (pv 0) (pe_int) (nomark _)))))), ?_⟩
  change (_ : TS) _ [some v0] H
  try dsimp only [cxOf, Cx.nox, Cx.blk]
  obtain ⟨d, hd, k⟩ := h
  walk_at "w"
  refine ⟨d, hd, fun v H1 e1 d1 => ?_⟩
  obtain rfl := dp_toBl d1
  cases d with
  | int i => cases hd; walk_at "w"; exact k.bl (by walk_at "ex")
  | _ => walk_at "w"; exact k.bl (by walk_at "ex")
abbrev N__law_end : List Str := ["raw"]
theorem sc__law_end : FnScope N__law_end ["raw"] (defScope s__law_end) := ⟨rfl, rfl, rfl, by decide +kernel, rfl, by decide +kernel, by decide +kernel⟩
theorem ok__law_end {P : Program} {w : World} {K : PySem.W.Frag} {mg : Str → Option Value} {base : Heap} (E : Env P K mg) : Fn P w K mg base CX0 1 "_law_end" (sp1 fun v H Q _ => ∃ h l r, Dp K H v (dRaw h l r) ∧ RetD K (dOpt (endOf l r)) H Q) := by
  obtain ⟨fd, F⟩ := E.dd__law_end
  refine Fn.mk0 F E.g__law_end sc__law_end sp1_len (fun _ _ _ _ _ _ us hl => match us, hl with | [_], _ => rfl) (fun cdv A outer s H vs Q X hr h => ?_)
  have nd := sc__law_end.nd
  obtain ⟨v0, rfl, h⟩ := h
  refine ⟨_, (pss_cons (ps_if (PW.pt (pw_or (pt_cmpR (kEq K hr) (pe_callB (kLen K) (by rfl) E.f_len (by decide +kernel) (pa_cons (pe_ix (kIx K) (pv 0) (pe_int) (fun _ _ => rfl)) pa_nil)) (pe_int) (nomark _)) (pw_or1 (pt_cmpR op_gt (pe_ix (kIx K) (pv 0) (pe_int) (fun _ _ => rfl)) (pe_int) (nomark _)))))
   (pss_one (ps_ret (pe_non)))
   pss_nil)
  (pss_one (ps_ret (pe_ix (kIx K) (pe_ix (kIx K) (pv 0) (pe_int) (fun _ _ => rfl)) (pe_un un_neg (pe_int)) (fun _ _ => rfl))))), ?_⟩
  change (_ : TS) _ [some v0] H
  try dsimp only [cxOf, Cx.nox, Cx.blk]
  obtain ⟨hd, l, r, hD, k⟩ := h
  obtain ⟨a, th, tl, rfl, s1, s2, s3⟩ := dp_raw hD
  walk_at "w"
  by_cases h1 : l = []
  · subst h1
    walk_at "w"
    exact k.non (by walk_at "ex")
  · have h2 : 0 < l.length := List.length_pos_iff.mpr h1
    walk_at "w"
    unfold endOf at k
    by_cases h3 : 0 < r
    · walk_at "w"
      rw [if_pos (.inr h3)] at k
      exact k.non (by walk_at "ex")
    · walk_at "w"
      rw [if_neg (by rintro (h | h) <;> contradiction)] at k
      rw [show (l.length : Int) - 1 = -1 + l.length by omega] at k
      exact k.int (by walk_at "ex")
abbrev N__law_at : List Str := ["raw", "place", "rest"]
theorem sc__law_at : FnScope N__law_at ["raw", "place"] (defScope s__law_at) := ⟨rfl, rfl, rfl, by decide +kernel, rfl, by decide +kernel, by decide +kernel⟩
theorem ok__law_at {P : Program} {w : World} {K : PySem.W.Frag} {mg : Str → Option Value} {base : Heap} (E : Env P K mg) : Fn P w K mg base CX0 2 "_law_at" (spValueAt K) := by
  obtain ⟨fd, F⟩ := E.dd__law_at
  refine Fn.mk0 F E.g__law_at sc__law_at sp2_len (fun _ _ _ _ _ _ us hl => match us, hl with | [_, _], _ => rfl) (fun cdv A outer s H vs Q X hr h => ?_)
  have nd := sc__law_at.nd
  obtain ⟨v0, v1, rfl, h⟩ := h
  refine ⟨_, (pss_cons (ps_if (pt_cmpR xIs (pv 1) (pe_non) (nomark _))
   (pss_one (ps_ret (pc (ok__law_end E) hr (by decide) pass0 rfl (pa_cons (pv 0) pa_nil))))
   pss_nil)
  (pss_cons (ps_if (pt_cmpR (kEq K hr) (pv 1) (pe_int) (nomark _))
   (pss_one (ps_ret (pe_int)))
   pss_nil)
  (pss_cons (ps_if (pt_cmpR op_le (pv 1) (pe_callB (kLen K) (by rfl) E.f_len (by decide +kernel) (pa_cons (pe_ix (kIx K) (pv 0) (pe_int) (fun _ _ => rfl)) pa_nil)) (nomark _))
   (pss_one (ps_ret (pe_ix (kIx K) (pe_ix (kIx K) (pv 0) (pe_int) (fun _ _ => rfl)) (pe_op xSub (pv 1) (pe_int)) (fun _ _ => rfl))))
   pss_nil)
  (pss_cons (ps_if (pt_cmpR (kEq K hr) (pe_callB (kLen K) (by rfl) E.f_len (by decide +kernel) (pa_cons (pe_ix (kIx K) (pv 0) (pe_int) (fun _ _ => rfl)) pa_nil)) (pe_int) (nomark _))
   (pss_one (ps_ret (pe_non)))
   pss_nil)
  (pss_cons (ps_set (i := 2) nd rfl (.inl rfl) (pe_op xSub (pe_op xSub (pv 1) (pe_callB (kLen K) (by rfl) E.f_len (by decide +kernel) (pa_cons (pe_ix (kIx K) (pv 0) (pe_int) (fun _ _ => rfl)) pa_nil))) (pe_int)))
  (pss_one (ps_ret (pe_op (kAdd K) (pe_ix (kIx K) (pe_ix (kIx K) (pv 0) (pe_int) (fun _ _ => rfl)) (pe_op xMod (pv 2) (pe_callB (kLen K) (by rfl) E.f_len (by decide +kernel) (pa_cons (pe_ix (kIx K) (pv 0) (pe_int) (fun _ _ => rfl)) pa_nil))) (fun _ _ => rfl)) (pe_op (kMul K) (pe_ix (kIx K) (pv 0) (pe_int) (fun _ _ => rfl)) (pe_op xDiv (pv 2) (pe_callB (kLen K) (by rfl) E.f_len (by decide +kernel) (pa_cons (pe_ix (kIx K) (pv 0) (pe_int) (fun _ _ => rfl)) pa_nil)))))))))))), ?_⟩
  change (_ : TS) _ [some v0, some v1, none] H
  try dsimp only [cxOf, Cx.nox, Cx.blk]
  obtain ⟨hd, l, r, p, hD, hp, hn, hr1, k⟩ := h
  obtain ⟨a, th, tl, rfl, s1, s2, s3⟩ := dp_raw hD
  obtain ⟨r1, r2, r3, r4⟩ := hr1
  cases p with
  | none =>
    obtain rfl := dp_toNon hp
    walk_at "w"
    exact ⟨hd, l, r, hD, k⟩
  | some p =>
    obtain rfl := dp_toInt hp
    have hn0 := hn p rfl
    walk_at "w"
    have k' : RetD K (dOpt (vat hd l r p)) H Q := k
    unfold vat at k'
    by_cases h0 : p = 0
    · walk_at "w"
      rw [if_pos h0] at k'
      exact k'.int (by walk_at "ex")
    · rw [if_neg h0] at k'
      walk_at "w"
      by_cases h1 : p ≤ hd.length
      · rw [if_pos h1] at k'
        walk_at "w"
        exact k'.int (by walk_at "ex")
      · rw [if_neg h1] at k'
        walk_at "w"
        by_cases h2 : l = []
        · rw [if_pos h2] at k'
          subst h2
          walk_at "w"
          exact k'.non (by walk_at "ex")
        · rw [if_neg h2] at k'
          have h3 : 0 < l.length := List.length_pos_iff.mpr h2
          have h4 : (p - hd.length - 1) % l.length < l.length := Int.emod_lt_of_pos _ (by omega)
          have h5 : 0 ≤ (p - hd.length - 1) % l.length := Int.emod_nonneg _ (by omega)
          walk_at "w"
          exact k'.int (by walk_at "ex")
abbrev N__law_gcd : List Str := ["one", "other"]
theorem sc__law_gcd : FnScope N__law_gcd ["one", "other"] (defScope s__law_gcd) := ⟨rfl, rfl, rfl, by decide +kernel, rfl, by decide +kernel, by decide +kernel⟩
theorem ok__law_gcd {P : Program} {w : World} {K : PySem.W.Frag} {mg : Str → Option Value} {base : Heap} (E : Env P K mg) : Fn P w K mg base CX0 1 "_law_gcd" (sp2 fun a b H Q _ => ∃ i j : Int, a = .int i ∧ b = .int j ∧ 0 ≤ i ∧ 0 ≤ j ∧ Q (.int (Int.gcd i j)) H) := by
  obtain ⟨fd, F⟩ := E.dd__law_gcd
  refine Fn.mk0 F E.g__law_gcd sc__law_gcd sp2_len (fun _ _ _ _ _ _ us hl => match us, hl with | [_, _], _ => rfl) (fun cdv A outer s H vs Q X hr h => ?_)
  have nd := sc__law_gcd.nd
  obtain ⟨v0, v1, rfl, h⟩ := h
  refine ⟨_, (pss_cons (ps_while PassesOwn.never (pt_cmpR op_gt (pv 1) (pe_int) (nomark _))
   (pss_one (ps_par (i := 0) (j := 1) rfl nd rfl rfl (by decide) rfl rfl (pa_cons (pv 1) (pa_cons (pe_op xMod (pe_callTy xInt (by rfl) E.f_int (by decide +kernel) (pa_cons (pv 0) pa_nil)) (pv 1)) pa_nil)) rfl)))
  (pss_one (ps_ret (pv 0)))), ?_⟩
  change (_ : TS) _ [some v0, some v1] H
  try dsimp only [cxOf, Cx.nox, Cx.blk]
  obtain ⟨i, j, rfl, rfl, hi, hj, k⟩ := h
  walk_at "w"
  refine ⟨fun m σ' H' => ∃ a b : Int, σ' = [some (.int a), some (.int b)] ∧ H' = H ∧ 0 ≤ a ∧ 0 ≤ b ∧ b.toNat = m ∧ Int.gcd a b = Int.gcd i j, ⟨j.toNat, i, j, rfl, rfl, hi, hj, rfl, rfl⟩, ?_⟩
  rintro m σ' H' ⟨a, b, rfl, rfl, ha, hb, hm, hg⟩
  walk_at "w"
  by_cases c : 0 < b
  · walk_at "w"
    refine ⟨_, fun σ2 H2 h2 => h2, ?_⟩
    walk_at "w"
    refine ⟨_, _, rfl, ?_⟩
    have hlt := Int.emod_lt_of_pos a c
    have h0 := Int.emod_nonneg a (show b ≠ 0 by omega)
    refine ⟨(a % b).toNat, by omega, b, a % b, rfl, rfl, hb, h0, rfl, ?_⟩
    rw [← hg, Int.gcd_comm a b]
    obtain ⟨n, rfl⟩ := Int.eq_ofNat_of_zero_le ha
    obtain ⟨m, rfl⟩ := Int.eq_ofNat_of_zero_le hb
    show Nat.gcd m (n % m) = Nat.gcd m n
    rw [Nat.gcd_comm m n, Nat.gcd_comm m (n % m), Nat.gcd_comm n m, Nat.gcd_rec m n]
  · walk_at "w"
    have : b = 0 := by omega
    subst this
    rw [Int.gcd_zero_right] at hg
    have e : (Int.gcd i j : Int) = a := by rw [← hg]; omega
    rw [e] at k
    exact k

end
section
def Rng3 (R : It → Hp → Prop) (vs : List V) (H1 : Hp) : Prop := ∃ i j c n, vs = [V.int i, V.int j, V.int c] ∧ RgC i j c n ∧ R (Itc i c n) H1
theorem i_r3 {H : Hp} {ta : TA} {σ : L2.St} {R : It → Hp → Prop} (h : ta σ H fun vs H1 => Rng3 R vs H1) : iRng3 ta σ H R := h
theorem i_x3 {H : Hp} {i j c : Int} {n : Nat} {R : It → Hp → Prop} (hc : RgC i j c n) (h : R (Itc i c n) H) : Rng3 R [V.int i, V.int j, V.int c] H := ⟨i, j, c, n, rfl, hc, h⟩
theorem w_cont {D : Ends} {σ : L2.St} {H : Hp} (h : D.ct σ H) : tCont D σ H := h
/-- the cut of the row as the law has it: from c on, size s -/
def lcut (row : List Int) (s : Nat) (r : Int) : Nat → Nat
  | 0 => 0
  | c + 1 => if s < c + 1 ∧ gI row ((c : Int) - s) = gI row c - r then lcut row s r c else c + 1
theorem lcut_le (row : List Int) (s : Nat) (r : Int) : ∀ c, lcut row s r c ≤ c
  | 0 => Nat.le_refl _
  | c + 1 => by
    unfold lcut
    split
    · exact Nat.le_succ_of_le (lcut_le row s r c)
    · exact Nat.le_refl _
theorem lcut_ge (row : List Int) (s : Nat) (r : Int) : ∀ c, s ≤ c → s ≤ lcut row s r c
  | 0, h => h
  | c + 1, h => by
    unfold lcut
    split
    · rename_i q
      exact lcut_ge row s r c (by omega)
    · exact h
noncomputable def lawF (h l : List Int) (r : Int) : List Int × List Int × Int :=
  if l = [] then (h, [], 0) else
    ((h ++ (shortLoop l r).1).take (lcut (h ++ (shortLoop l r).1) (shortLoop l r).1.length (shortLoop l r).2 (h ++ (shortLoop l r).1).length - (shortLoop l r).1.length),
     ((h ++ (shortLoop l r).1).drop (lcut (h ++ (shortLoop l r).1) (shortLoop l r).1.length (shortLoop l r).2 (h ++ (shortLoop l r).1).length - (shortLoop l r).1.length)).take (shortLoop l r).1.length,
     (shortLoop l r).2)
section
variable {K : PySem.W.Frag} {H : Hp} {Q : VK}
theorem r_lstE {a : Addr} {xs : List V} (h : SqE K H a xs) (q : ∀ p H1, H p = none → Ex H H1 → H1 p = some (.lst xs) → Q (.ref p) H1) : rLstU K [.ref a] H Q := h.elim (fun h => r_lstL h q) (fun h => r_lstT h q)
theorem r_tupE {a : Addr} {xs : List V} (h : SqE K H a xs) (q : ∀ p H1, Ex H H1 → SqT K H1 p xs → Q (.ref p) H1) : rTupU K [.ref a] H Q := h.elim (fun h => r_tupL h q) (fun h => r_tupT h q)
theorem r_slEto {a : Addr} {xs : List Int} {i : Int} (h : SqE K H a (vI xs)) (h0 : 0 ≤ i) (q : ∀ p H1, Ex H H1 → SqE K H1 p (vI (xs.take i.toNat)) → Q (.ref p) H1) : rSl K (.ref a) none (some i) H Q := h.elim (fun h => r_slLto h h0 fun p H1 _ e g => q p H1 e (.inl (sq_of g))) (fun h => r_slTto h h0 fun p H1 e g => q p H1 e (.inr g))
theorem r_slEfrom {a : Addr} {xs : List Int} {i : Int} (h : SqE K H a (vI xs)) (h0 : 0 ≤ i) (q : ∀ p H1, Ex H H1 → SqE K H1 p (vI (xs.drop i.toNat)) → Q (.ref p) H1) : rSl K (.ref a) (some i) none H Q := h.elim (fun h => r_slLfrom h h0 fun p H1 _ e g => q p H1 e (.inl (sq_of g))) (fun h => r_slTfrom h h0 fun p H1 e g => q p H1 e (.inr g))
end
local macro_rules | `(tactic| walk_at "w2") => `(tactic| first
  | ((with_reducible refine' r_lstE ?a ?q); (case a => walk_at "hp"))
  | ((with_reducible refine' r_tupE ?a ?q); (case a => walk_at "hp"))
  | ((with_reducible refine' r_slEto ?a ?b ?q); (case a => walk_at "hp"); (case b => walk_at "om")))
abbrev N__law_plain : List Str := ["head", "loop", "rise", "size", "many", "turns", "step", "row", "cut", "k"]
theorem sc__law_plain : FnScope N__law_plain ["head", "loop", "rise"] (defScope s__law_plain) := ⟨rfl, rfl, rfl, by decide +kernel, rfl, by decide +kernel, by decide +kernel⟩
theorem ok__law_plain {P : Program} {w : World} {K : PySem.W.Frag} {mg : Str → Option Value} {base : Heap} (E : Env P K mg) : Fn P w K mg base CX0 1 "_law_plain" (sp3 fun a b c H Q _ => ∃ b1 b2 h l r, Dp K H a (dSeqI b1 h) ∧ Dp K H b (dSeqI b2 l) ∧ Dp K H c (.int r) ∧ 0 ≤ r ∧ RSm h l r ∧ RetD K (dRaw (lawF h l r).1 (lawF h l r).2.1 (lawF h l r).2.2) H Q) := by
  obtain ⟨fd, F⟩ := E.dd__law_plain
  refine Fn.mk0 F E.g__law_plain sc__law_plain sp3_len (fun _ _ _ _ _ _ us hl => match us, hl with | [_, _, _], _ => rfl) (fun cdv A outer s H vs Q X hr h => ?_)
  have nd := sc__law_plain.nd
  obtain ⟨v0, v1, v2, rfl, h⟩ := h
  refine ⟨_, (pss_cons (ps_if (pt_cmpR (kEq K hr) (pe_callB (kLen K) (by rfl) E.f_len (by decide +kernel) (pa_cons (pv 1) pa_nil)) (pe_int) (nomark _))
   (pss_one (ps_ret (pe_tup (pa_cons (pe_callTy (kTup K) (by rfl) E.f_tuple (by decide +kernel) (pa_cons (pv 0) pa_nil)) (pa_cons (pe_tup pa_nil) (pa_cons (pe_int) pa_nil))))))
   pss_nil)
  (pss_cons (ps_set (i := 3) nd rfl (.inl rfl) (pe_callB (kLen K) (by rfl) E.f_len (by decide +kernel) (pa_cons (pv 1) pa_nil)))
  (pss_cut (ps_for PassesOwn.never rfl (pi_range3 (by rfl) E.f_range (pa_cons (pe_callB (kLen K) (by rfl) E.f_len (by decide +kernel) (pa_cons (pv 1) pa_nil)) (pa_cons (pe_int) (pa_cons (pe_un un_neg (pe_int)) pa_nil)))) (pg_name (i := 4) nd rfl (.inr rfl))
   (pss_cons (ps_set (i := 5) nd rfl (.inl rfl) (pe_op xDiv (pe_callB (kLen K) (by rfl) E.f_len (by decide +kernel) (pa_cons (pv 1) pa_nil)) (pv 4)))
  (pss_cons (ps_if (PW.pt (pw_or (pt_cmpR (kNe K hr) (pe_op (kMul K) (pv 5) (pv 4)) (pe_callB (kLen K) (by rfl) E.f_len (by decide +kernel) (pa_cons (pv 1) pa_nil)) (nomark _)) (pw_or1 (pt_cmpR (kNe K hr) (pe_op xMod (pe_callTy xInt (by rfl) E.f_int (by decide +kernel) (pa_cons (pv 2) pa_nil)) (pv 5)) (pe_int) (nomark _)))))
   (pss_one (ps_continue))
   pss_nil)
  (pss_cons (ps_set (i := 6) nd rfl (.inr rfl) (pe_op xDiv (pv 2) (pv 5)))
  (pss_one (ps_if (kTru K (pe_callB (kAll K rfl) (by rfl) E.f_all (by decide +kernel) (pa_cons (pe_lc (own := [("k", 9)]) (g := gName 9) (tt := tYes) rfl nd (pi_range1 (by rfl) E.f_range (pa_cons (pe_op xSub (pe_callB (kLen K) (by rfl) E.f_len (by decide +kernel) (pa_cons (pv 1) pa_nil)) (pv 4)) pa_nil)) (blkOk_by (N := N__law_plain) (sc := defScope s__law_plain) (by decide +kernel)) (fun _ _ _ _ _ => pg_name (i := 9) nd rfl (Or.inl rfl)) (fun _ _ _ _ _ => pts_nil) (fun _ _ _ _ _ => pe_cmpR (kEq K hr) (pe_ix (kIx K) (pv 1) (pe_op (kAdd K) (pv 9) (pv 4)) (fun _ _ => rfl)) (pe_op (kAdd K) (pe_ix (kIx K) (pv 1) (pv 9) (fun _ _ => rfl)) (pv 6)) (nomark _))) pa_nil)) (by intro _; rfl))
   (pss_one (ps_set (i := 3) nd rfl (.inl rfl) (pv 4)))
   pss_nil))))))
  (pss_cons (ps_set (i := 2) nd rfl (.inl rfl) (pe_op xDiv (pv 2) (pe_op xDiv (pe_callB (kLen K) (by rfl) E.f_len (by decide +kernel) (pa_cons (pv 1) pa_nil)) (pv 3))))
  (pss_cons (ps_set (i := 7) nd rfl (.inl rfl) (pe_op (kAdd K) (pe_callTy (kLst K) (by rfl) E.f_list (by decide +kernel) (pa_cons (pv 0) pa_nil)) (pe_callTy (kLst K) (by rfl) E.f_list (by decide +kernel) (pa_cons (pe_slice (kSl K) (pv 1) po_none (po_some (pv 3))) pa_nil))))
  (pss_cons (ps_set (i := 8) nd rfl (.inl rfl) (pe_callB (kLen K) (by rfl) E.f_len (by decide +kernel) (pa_cons (pv 7) pa_nil)))
  (pss_cons (ps_while PassesOwn.never (PW.pt (pw_and (pt_cmpR op_gt (pv 8) (pv 3) (nomark _)) (pw_and1 (pt_cmpR (kEq K hr) (pe_ix (kIx K) (pv 7) (pe_op xSub (pe_op xSub (pv 8) (pe_int)) (pv 3)) (fun _ _ => rfl)) (pe_op xSub (pe_ix (kIx K) (pv 7) (pe_op xSub (pv 8) (pe_int)) (fun _ _ => rfl)) (pv 2)) (nomark _)))))
   (pss_one (ps_set (i := 8) nd rfl (.inl rfl) (pe_op xSub (pv 8) (pe_int)))))
  (pss_one (ps_ret (pe_tup (pa_cons (pe_callTy (kTup K) (by rfl) E.f_tuple (by decide +kernel) (pa_cons (pe_slice (kSl K) (pv 7) po_none (po_some (pe_op xSub (pv 8) (pv 3)))) pa_nil)) (pa_cons (pe_callTy (kTup K) (by rfl) E.f_tuple (by decide +kernel) (pa_cons (pe_slice (kSl K) (pv 7) (po_some (pe_op xSub (pv 8) (pv 3))) (po_some (pv 8))) pa_nil)) (pa_cons (pv 2) pa_nil))))))))))))), ?_⟩
  change (_ : TS) _ [some v0, some v1, some v2, none, none, none, none, none, none, none] H
  try dsimp only [cxOf, Cx.nox, Cx.blk]
  obtain ⟨b1, b2, h, l, r, hh, hl, hri, hr0, ⟨r1, r2, r3, r4⟩, k⟩ := h
  obtain ⟨th, rfl, s1⟩ := dp_seqE hh
  obtain ⟨tl, rfl, s2⟩ := dp_seqE hl
  obtain rfl := dp_toInt hri
  unfold lawF at k
  walk_at "w"
  by_cases hn : l = []
  · subst hn
    rw [if_pos rfl] at k
    walk_at "w"
    intro p0 H0 e0 s0
    walk_at "w"
    intro p1 H1 n1 e1 h1
    walk_at "w"
    intro p2 H2 n2 e2 h2
    exact k _ _ ((e0.trans e1).trans e2) (dp_of_raw (st_of h2) (ex_t e2 (ex_t e1 s0)) (ex_t e2 (st_of h1)))
  · rw [if_neg hn] at k
    have hl0 : 0 < l.length := List.length_pos_iff.mpr hn
    walk_at "w"
    refine w_cut (M := fun σ' H' => ∃ (s : Nat) (a b c : Option V), σ' = [some (.ref th), some (.ref tl), some (.int r), some (.int s), a, b, c, none, none, none] ∧ Ex H H' ∧ 1 ≤ s ∧ s ≤ l.length ∧ (s = l.length ∨ slOk l r s) ∧ ∀ j, 1 ≤ j → j < s → ¬ slOk l r j) ?_ ?_
    · walk_at "w"
      refine i_r3 ?_
      walk_at "w"
      have hrg : RgC (l.length : Int) 0 (-1) l.length := by
        have := RgC.neg (i := (l.length : Int)) (j := 0) (by omega) (by omega) (by omega) (by omega)
        rwa [show ((l.length : Int) - 0).toNat = l.length by omega] at this
      refine i_x3 (n := l.length) hrg ?_
      refine for_rangeC (lo := l.length) (c := -1) (n := l.length) (Pv := fun i σ' H' => ∃ (s : Nat) (a b c : Option V), σ' = [some (.ref th), some (.ref tl), some (.int r), some (.int s), a, b, c, none, none, none] ∧ Ex H H' ∧ 1 ≤ s ∧ s ≤ l.length ∧ (s = l.length ∨ slOk l r s) ∧ ∀ j, l.length < j + i → j < s → ¬ slOk l r j)
        ⟨l.length, _, _, _, rfl, Ex.refl H, by omega, Nat.le_refl _, .inl rfl, fun j h1 h2 => by omega⟩ ?_ ?_
      · rintro i σ' H' hi ⟨s, a, b, c, rfl, e, hs1, hs2, hs3, hnot⟩
        obtain ⟨m, hm⟩ : ∃ m : Nat, m + i = l.length := ⟨l.length - i, by omega⟩
        have hm0 : 0 < m := by omega
        rw [show ((l.length : Int) + (i : Int) * -1) = (m : Int) by omega]
        have hq : 0 < (l.length : Int) / m := Int.le_ediv_of_mul_le (by omega) (by omega)
        have hq2 : (l.length : Int) / m ≤ l.length := Int.ediv_le_self _ (by omega)
        have hme : (l.length : Int) % m + m * ((l.length : Int) / m) = l.length := Int.emod_add_mul_ediv ..
        have hno : ¬ slOk l r m → ∀ j, l.length < j + (i + 1) → j < s → ¬ slOk l r j := fun hn j h1 h2 => by
          by_cases hj : j = m
          · rw [hj]; exact hn
          · exact hnot j (by omega) h2
        walk_at "w"
        by_cases c1 : (l.length : Int) % m = 0
        · have c1' : (l.length : Int) / m * m = l.length := by rw [Int.mul_comm]; omega
          walk_at "w"
          by_cases c2 : r % ((l.length : Int) / m) = 0
          · walk_at "w"
            refine lcJ_r0 (v := fun i => .bl (decide (gI l (i + m) = gI l i + r / ((l.length : Int) / m)))) (by omega) (fun x => [_, _, _, _, _, _, _, _, _, some x]) (fun x => rfl) (fun x => rfl) (fun j H1 Q' e1 hj hq => ?_) (fun p H2 np e2 hp => ?_)
            · walk_at "w"
              exact hq H1 (Ex.refl _)
            · rw [map_bl_range] at hp
              walk_at "w"
              refine r_all (sq_of hp) rfl ?_
              rw [all_range]
              walk_at "w"
              by_cases c3 : ∀ j : Nat, j < ((l.length : Int) - m).toNat → gI l (j + m) = gI l j + r / ((l.length : Int) / m)
              · walk_at "w"
                exact ⟨m, _, _, _, rfl, e.trans e2, hm0, by omega, .inr ⟨c1, c2, fun j hj => c3 j (by omega)⟩, fun j h1 h2 => by omega⟩
              · walk_at "w"
                refine ⟨s, _, _, _, rfl, e.trans e2, hs1, hs2, hs3, hno fun h => c3 fun j hj => ?_⟩
                exact h.2.2 j (by omega)
          · walk_at "w"
            refine w_cont ?_
            exact ⟨s, _, _, _, rfl, e, hs1, hs2, hs3, hno fun h => c2 h.2.1⟩
        · have c1' : ¬ ((l.length : Int) / m * m = l.length) := by rw [Int.mul_comm]; omega
          walk_at "w"
          refine w_cont ?_
          exact ⟨s, _, _, _, rfl, e, hs1, hs2, hs3, hno fun h => c1 h.1⟩
      · rintro σ' H' ⟨s, a, b, c, rfl, e, hs1, hs2, hs3, hnot⟩
        exact ⟨s, a, b, c, rfl, e, hs1, hs2, hs3, fun j h1 h2 => hnot j (by omega) h2⟩
    rintro σ' H1 ⟨s, a, b, c, rfl, e1, hs1, hs2, hs3, hnot⟩
    have hsl : shortLoop l r = (l.take s, r / ((l.length : Int) / s)) := by
      by_cases q : s = l.length
      · rw [shortLoop_none (fun j h1 h2 => hnot j h1 (by omega)), q, List.take_length, Int.ediv_self (by omega), Int.ediv_one]
      · exact shortLoop_some hs1 (by omega) (hs3.resolve_left q) hnot
    have hq : 0 < (l.length : Int) / s := Int.le_ediv_of_mul_le (by omega) (by omega)
    have hq2 : (l.length : Int) / s ≤ l.length := Int.ediv_le_self _ (by omega)
    have hlen : (l.take s).length = s := by rw [List.length_take]; omega
    rw [hsl] at k
    dsimp only at k
    rw [hlen] at k
    walk_at "w"
    intro p2 H2 n2 e2 h2
    walk_at "w"
    intro p3 H3 e3 s3
    walk_at "w"
    intro p4 H4 n4 e4 h4
    rw [Int.toNat_natCast] at h4
    refine r_addL (e4 _ _ (e3 _ _ h2)) h4 (by walk_at "sz") fun p5 H5 n5 e5 h5 => ?_
    rw [show vI h ++ vI (l.take s) = vI (h ++ l.take s) from List.map_append.symm] at h5
    have hrl : (h ++ l.take s).length = h.length + s := by rw [List.length_append, hlen]
    generalize hrow : h ++ l.take s = row at *
    generalize hr' : r / ((l.length : Int) / s) = r' at *
    walk_at "w"
    refine ⟨fun m σ' H' => σ' = [some (.ref th), some (.ref tl), some (.int r'), some (.int s), a, b, c, some (.ref p5), some (.int (m : Int)), none] ∧ H' = H5 ∧ s ≤ m ∧ m ≤ row.length ∧ lcut row s r' row.length = lcut row s r' m, ⟨row.length, rfl, rfl, by omega, Nat.le_refl _, rfl⟩, ?_⟩
    rintro m σ' H' ⟨rfl, rfl, hm1, hm2, hc⟩
    walk_at "w"
    cases m with
    | zero => omega
    | succ m =>
      have fin : lcut row s r' (m + 1) = m + 1 → tRet (tTup (tCons (tCB (rTupU K) (tCons (tSl (rSl K) (tVar 7) tNoPart (tPart (tOp rSubI (tVar 8) (tVar 3)))) tNil)) (tCons (tCB (rTupU K) (tCons (tSl (rSl K) (tVar 7) (tPart (tOp rSubI (tVar 8) (tVar 3))) (tPart (tVar 8))) tNil)) (tCons (tVar 2) tNil))))
          { nx := fun _ H' => Q .non H', rt := Q } [some (.ref th), some (.ref tl), some (.int r'), some (.int s), a, b, c, some (.ref p5), some (.int ((m + 1 : Nat) : Int)), none] H' := by
        intro hf
        walk_at "w"
        intro p6 H6 n6 e6 h6
        walk_at "w"
        intro p7 H7 e7 s7
        walk_at "w"
        intro p8 H8 n8 e8 h8
        walk_at "w"
        intro p9 H9 e9 s9
        walk_at "w"
        intro p10 H10 n10 e10 h10
        rw [hc, hf] at k
        rw [show (((m + 1 : Nat) : Int) - s).toNat = m + 1 - s by omega] at s7 s9
        rw [show (((m + 1 : Nat) : Int) - (((m + 1 : Nat) : Int) - s)).toNat = s by omega] at s9
        exact k _ _ (by walk_at "ex") (dp_of_raw (st_of h10) (by walk_at "hp") (by walk_at "hp"))
      by_cases c1 : (s : Int) < ((m + 1 : Nat) : Int)
      · walk_at "w"
        rw [show ((m + 1 : Nat) : Int) - 1 = (m : Int) by omega]
        by_cases c2 : gI row ((m : Int) - s) = gI row m - r'
        · walk_at "w"
          refine ⟨_, fun σ2 H2 h2 => ⟨m, Nat.lt_succ_self m, h2⟩, ?_⟩
          walk_at "w"
          rw [show ((m + 1 : Nat) : Int) - 1 = (m : Int) by omega]
          refine ⟨rfl, rfl, by omega, by omega, ?_⟩
          rw [hc]
          exact if_pos ⟨by omega, c2⟩
        · refine w_dF c2 ?_
          exact fin (if_neg fun q => c2 q.2)
      · refine w_dF c1 ?_
        with_reducible refine w_bF rfl ?_
        exact fin (if_neg fun q => c1 (by omega))

end
section
/-- the loop going on both ways -/
def extL (l : List Int) (r : Int) (i : Int) : Int := gI l (i % l.length) + r * (i / l.length)
def Per (g : Int → Int) (s : Nat) (d : Int) : Prop := ∀ i : Int, g (i + s) = g i + d
theorem Per.mulN {g : Int → Int} {s : Nat} {d : Int} (p : Per g s d) : ∀ (z : Nat) (i : Int), g (i + s * z) = g i + d * z
  | 0, i => by simp
  | z + 1, i => by
    rw [show i + (s : Int) * ((z + 1 : Nat) : Int) = (i + s * z) + s by rw [Int.natCast_add, Int.mul_add]; omega, p, p.mulN z i, Int.natCast_add, Int.mul_add]
    omega
theorem Per.mul {g : Int → Int} {s : Nat} {d : Int} (p : Per g s d) (z i : Int) : g (i + s * z) = g i + d * z := by
  rcases Int.le_total 0 z with h | h
  · obtain ⟨n, rfl⟩ := Int.eq_ofNat_of_zero_le h
    exact p.mulN n i
  · obtain ⟨n, hn⟩ := Int.eq_ofNat_of_zero_le (show 0 ≤ -z by omega)
    obtain rfl : z = -(n : Int) := by omega
    have := p.mulN n (i + s * -(n : Int))
    rw [show i + (s : Int) * -(n : Int) + s * n = i by rw [Int.mul_neg]; omega] at this
    rw [this, Int.mul_neg, Int.mul_neg]
    omega
theorem Per.ext {g g' : Int → Int} {s : Nat} {d : Int} (hs : 1 ≤ s) (p : Per g s d) (p' : Per g' s d) (h : ∀ k : Nat, k < s → g k = g' k) (i : Int) : g i = g' i := by
  have e : i % s + s * (i / s) = i := Int.emod_add_mul_ediv ..
  have h0 := Int.emod_nonneg i (show (s : Int) ≠ 0 by omega)
  have h1 := Int.emod_lt_of_pos i (show (0 : Int) < s by omega)
  obtain ⟨k, hk⟩ := Int.eq_ofNat_of_zero_le h0
  rw [← e, p.mul, p'.mul, hk, h k (by omega)]
theorem Per.shift {g : Int → Int} {s : Nat} {d : Int} (p : Per g s d) (m : Int) : Per (fun i => g (i + m)) s d := fun i => by
  show g (i + s + m) = g (i + m) + d
  rw [show i + (s : Int) + m = i + m + s by omega, p]
theorem Per.unshift {g : Int → Int} {s : Nat} {d : Int} (m : Int) (p : Per (fun i => g (i + m)) s d) : Per g s d := fun i => by
  have := p (i - m)
  simp only at this
  rwa [show i - m + (s : Int) + m = i + s by omega, show i - m + m = i by omega] at this
theorem Per.val {g : Int → Int} {s : Nat} {d : Int} (p : Per g s d) : g s - g 0 = d := by
  have := p 0
  rw [Int.zero_add] at this
  omega
theorem extL_per {l : List Int} {r : Int} (hl : l ≠ []) : Per (extL l r) l.length r := fun i => by
  have h0 : 0 < l.length := List.length_pos_iff.mpr hl
  unfold extL
  rw [Int.add_emod_right, Int.add_ediv_of_dvd_right (Int.dvd_refl _), Int.ediv_self (by omega), Int.mul_add]
  omega
theorem extL_small {l : List Int} {r : Int} {k : Nat} (h : k < l.length) : extL l r k = gI l k := by
  unfold extL
  rw [Int.emod_eq_of_lt (by omega) (by omega), Int.ediv_eq_zero_of_lt (by omega) (by omega)]
  omega
theorem bkV_ext {l : List Int} {r : Int} (hl : l ≠ []) (back : Int) : bkV l r back = extL l r (-1 - back) := by
  have h0 : 0 < l.length := List.length_pos_iff.mpr hl
  have e : back % l.length + l.length * (back / l.length) = back := Int.emod_add_mul_ediv ..
  have h1 := Int.emod_nonneg back (show (l.length : Int) ≠ 0 by omega)
  have h2 := Int.emod_lt_of_pos back (show (0 : Int) < l.length by omega)
  have e2 : -1 - back = (-1 - back % l.length + l.length) + l.length * (-(back / l.length) - 1) := by
    rw [Int.mul_sub, Int.mul_neg]
    omega
  unfold extL bkV
  generalize back % (l.length : Int) = t at *
  generalize back / (l.length : Int) = q at *
  rw [e2, Int.add_mul_emod_self_left, Int.add_mul_ediv_left _ _ (by omega), Int.emod_eq_of_lt (by omega) (by omega), Int.ediv_eq_zero_of_lt (by omega) (by omega), Int.zero_add, Int.mul_sub, Int.mul_add, Int.mul_neg]
  omega
/-- the value behind j others -/
def fV (h l : List Int) (r : Int) (j : Nat) : Int := if j < h.length then gI h j else extL l r ((j : Int) - h.length)
theorem vat_fV {h l : List Int} {r : Int} (hl : l ≠ []) (j : Nat) : vat h l r ((j : Int) + 1) = some (fV h l r j) := by
  unfold vat fV
  rw [if_neg (by omega), if_neg hl]
  by_cases c : j < h.length
  · rw [if_pos (by omega), if_pos c, show (j : Int) + 1 - 1 = j by omega]
  · rw [if_neg (by omega), if_neg c]
    unfold extL
    rw [show (j : Int) + 1 - h.length - 1 = j - h.length by omega]
theorem fV_head {h l : List Int} {r : Int} {j : Nat} (c : j < h.length) : fV h l r j = gI h j := if_pos c
theorem fV_loop {h l : List Int} {r : Int} {j : Nat} (c : h.length ≤ j) : fV h l r j = extL l r ((j : Int) - h.length) := if_neg (by omega)
theorem slOk_per {l : List Int} {r : Int} {m : Nat} (hl : l ≠ []) (hm : 1 ≤ m) (h : slOk l r m) : Per (extL l r) m (r / ((l.length : Int) / m)) := by
  obtain ⟨h1, h2, h3⟩ := h
  have h0 : 0 < l.length := List.length_pos_iff.mpr hl
  obtain ⟨q, hq⟩ : m ∣ l.length := Int.natCast_dvd_natCast.mp (Int.dvd_of_emod_eq_zero h1)
  have hqL : (l.length : Int) / m = q := by
    rw [hq, Int.natCast_mul, Int.mul_ediv_cancel_left _ (by omega)]
  rw [hqL] at h2 h3 ⊢
  have hq0 : 0 < q := by
    rcases Nat.eq_zero_or_pos q with e | e
    · rw [e, Nat.mul_zero] at hq; omega
    · exact e
  obtain ⟨d, hd⟩ := Int.dvd_of_emod_eq_zero h2
  have hdq : r / (q : Int) = d := by rw [hd, Int.mul_ediv_cancel_left _ (by omega)]
  rw [hdq] at h3 ⊢
  have run : ∀ (k u : Nat), u + m * k < l.length → gI l ((u + m * k : Nat) : Int) = gI l u + d * k := by
    intro k
    induction k with
    | zero => intro u _; simp
    | succ k ih =>
      intro u hu
      rw [Nat.mul_add, Nat.mul_one, ← Nat.add_assoc] at hu ⊢
      rw [Int.natCast_add, h3 (u + m * k) hu, ih u (by omega), Int.natCast_add, Int.mul_add]
      omega
  have P := extL_per (r := r) hl
  intro i
  have e : i % l.length + l.length * (i / l.length) = i := Int.emod_add_mul_ediv ..
  have g0 := Int.emod_nonneg i (show (l.length : Int) ≠ 0 by omega)
  have g1 := Int.emod_lt_of_pos i (show (0 : Int) < l.length by omega)
  obtain ⟨t, ht⟩ := Int.eq_ofNat_of_zero_le g0
  rw [ht] at e g1
  generalize i / l.length = z at e
  subst e
  rw [show (t : Int) + l.length * z + m = ((t + m : Nat) : Int) + l.length * z by omega, P.mul, P.mul, extL_small (k := t) (by omega)]
  by_cases c : t + m < l.length
  · rw [extL_small c, Int.natCast_add, h3 t c]
    omega
  · have hu : t + m = (t + m - l.length) + l.length := by omega
    obtain ⟨q', rfl⟩ : ∃ q', q = q' + 1 := ⟨q - 1, by omega⟩
    have hq' : l.length = m * q' + m := by rw [hq, Nat.mul_add, Nat.mul_one]
    rw [hu, Int.natCast_add, P, extL_small (by omega)]
    have := run q' (t + m - l.length) (by omega)
    rw [show t + m - l.length + m * q' = t by omega] at this
    rw [this, hd, Int.natCast_add, Int.add_mul, Int.mul_comm d]
    simp only [Int.natCast_one, Int.one_mul]
    generalize (q' : Int) * d = y
    omega
theorem per_slOk {l : List Int} {r d : Int} {m q : Nat} (hm : 1 ≤ m) (hq : 1 ≤ q) (hL : l.length = m * q) (hr : r = d * q) (p : Per (extL l r) m d) : slOk l r m ∧ r / ((l.length : Int) / m) = d := by
  have hqL : (l.length : Int) / m = q := by
    rw [hL, Int.natCast_mul, Int.mul_ediv_cancel_left _ (by omega)]
  have hrq : r / (q : Int) = d := by rw [hr, Int.mul_ediv_cancel _ (by omega)]
  refine ⟨⟨by rw [hL, Int.natCast_mul, Int.mul_emod_right], by rw [hqL, hr, Int.mul_emod_left], fun i hi => ?_⟩, by rw [hqL, hrq]⟩
  rw [hqL, hrq]
  have := p i
  rw [extL_small (by omega), ← Int.natCast_add, extL_small hi] at this
  exact this
theorem per_dvd {g : Int → Int} {s L : Nat} {d r : Int} (hs : 1 ≤ s) (p : Per g s d) (hmin : ∀ t, 1 ≤ t → t < s → ∀ d, ¬ Per g t d) (P : Per g L r) : L = s * (L / s) ∧ r = d * ((L / s : Nat) : Int) := by
  have e : s * (L / s) + L % s = L := Nat.div_add_mod ..
  have hlt := Nat.mod_lt L hs
  have hz : L % s = 0 := by
    rcases Nat.eq_zero_or_pos (L % s) with h | h
    · exact h
    · refine (hmin _ h hlt (r - d * ((L / s : Nat) : Int)) fun i => ?_).elim
      have h1 := P i
      have h2 := p.mulN (L / s) (i + ((L % s : Nat) : Int))
      rw [show i + ((L % s : Nat) : Int) + (s : Int) * ((L / s : Nat) : Int) = i + L by
        rw [← Int.natCast_mul]; omega] at h2
      omega
  refine ⟨by omega, ?_⟩
  have h1 := P 0
  have h2 := p.mulN (L / s) 0
  rw [show (0 : Int) + (s : Int) * ((L / s : Nat) : Int) = 0 + L by rw [← Int.natCast_mul]; omega] at h2
  omega
theorem least_nat {p : Nat → Prop} {n : Nat} (h : p n) : ∃ m, m ≤ n ∧ p m ∧ ∀ j, j < m → ¬ p j := by
  induction n using Nat.strongRecOn with
  | _ n ih =>
    by_cases q : ∃ j, j < n ∧ p j
    · obtain ⟨j, h1, h2⟩ := q
      obtain ⟨m, h3, h4⟩ := ih j h1 h2
      exact ⟨m, by omega, h4⟩
    · exact ⟨n, Nat.le_refl _, h, fun j h1 h2 => q ⟨j, h1, h2⟩⟩
theorem shortLoop_char {l : List Int} {r : Int} (hl : l ≠ []) : ∃ s : Nat, 1 ≤ s ∧ s ≤ l.length ∧ shortLoop l r = (l.take s, extL l r s - extL l r 0) ∧ Per (extL l r) s (extL l r s - extL l r 0) ∧ ∀ t, 1 ≤ t → t < s → ∀ d, ¬ Per (extL l r) t d := by
  have h0 : 0 < l.length := List.length_pos_iff.mpr hl
  have P := extL_per (r := r) hl
  obtain ⟨s, hs, ⟨hs1, d, p⟩, hmin⟩ := least_nat (p := fun s => 1 ≤ s ∧ ∃ d, Per (extL l r) s d) (n := l.length) ⟨h0, r, P⟩
  have hmin' : ∀ t, 1 ≤ t → t < s → ∀ d, ¬ Per (extL l r) t d := fun t h1 h2 d h => hmin t h2 ⟨h1, d, h⟩
  refine ⟨s, hs1, hs, ?_, by rw [p.val]; exact p, hmin'⟩
  rw [p.val]
  have hno : ∀ j, 1 ≤ j → j < s → ¬ slOk l r j := fun j h1 h2 h => hmin' j h1 h2 _ (slOk_per hl h1 h)
  obtain ⟨e1, e2⟩ := per_dvd hs1 p hmin' P
  have hq : 1 ≤ l.length / s := Nat.div_pos hs hs1
  obtain ⟨o1, o2⟩ := per_slOk hs1 hq e1 e2 p
  by_cases c : s < l.length
  · rw [shortLoop_some hs1 c o1 hno, o2]
  · obtain rfl : s = l.length := by omega
    rw [shortLoop_none hno, List.take_length, ← p.val, P.val]
theorem gI_take {l : List Int} {s k : Nat} (h : k < s) : gI (l.take s) k = gI l k := by
  unfold gI
  rw [Int.toNat_natCast, List.getD_eq_getElem?_getD, List.getD_eq_getElem?_getD, List.getElem?_take_of_lt h]
theorem extL_take {l : List Int} {r d : Int} {s : Nat} (h1 : 1 ≤ s) (hs : s ≤ l.length) (p : Per (extL l r) s d) (i : Int) : extL (l.take s) d i = extL l r i := by
  have hl : (l.take s).length = s := by rw [List.length_take]; omega
  have P := extL_per (l := l.take s) (r := d) (by intro e; rw [e] at hl; simp at hl; omega)
  rw [hl] at P
  refine P.ext h1 p (fun k hk => ?_) i
  rw [extL_small (by omega), extL_small (by omega), gI_take hk]
theorem cutH_eq {h l : List Int} {r : Int} : ∀ k, ∀ j, cutH h l r k ≤ j → j < k → gI h j = bkV l r ((h.length : Int) - (j + 1))
  | 0, j, _, h2 => by omega
  | k + 1, j, h1, h2 => by
    unfold cutH at h1
    split at h1
    · rename_i c
      by_cases e : j = k
      · subst e; exact c
      · exact cutH_eq k j h1 (by omega)
    · omega
theorem cutH_ne {h l : List Int} {r : Int} : ∀ k c, cutH h l r k = c + 1 → gI h c ≠ bkV l r ((h.length : Int) - (c + 1))
  | 0, c, e => by simp [cutH] at e
  | k + 1, c, e => by
    unfold cutH at e
    split at e
    · exact cutH_ne k c e
    · rename_i q
      obtain rfl : k = c := by omega
      exact q

end
section
/-- the least period and the least head, from the values alone -/
structure PFat (f : Nat → Int) (g : Int → Int) (c s : Nat) (pf : List Int × List Int × Int) : Prop where
  s1 : 1 ≤ s
  per : Per g s (g s - g 0)
  min : ∀ t, 1 ≤ t → t < s → ∀ d, ¬ Per g t d
  eq : ∀ j : Nat, c ≤ j → f j = g j
  ne : ∀ c', c = c' + 1 → f c' ≠ g c'
  pf : pf = ((List.range c).map f, (List.range s).map fun i : Nat => g ((c + i : Nat) : Int), g s - g 0)
theorem PFat.uniq {f : Nat → Int} {g : Int → Int} {c s c' s' : Nat} {p q : List Int × List Int × Int} (a : PFat f g c s p) (b : PFat f g c' s' q) : p = q := by
  have e1 : s = s' := by
    rcases Nat.lt_trichotomy s s' with h | h | h
    · exact (b.min _ a.s1 h _ a.per).elim
    · exact h
    · exact (a.min _ b.s1 h _ b.per).elim
  have key : ∀ {c c' s s' : Nat} {p q : List Int × List Int × Int}, PFat f g c s p → PFat f g c' s' q → ¬ c < c' := fun {c c' s s' p q} a b h => by
    obtain ⟨m, rfl⟩ : ∃ m, c' = m + 1 := ⟨c' - 1, by omega⟩
    exact b.ne m rfl (a.eq m (by omega))
  have e2 : c = c' := by have := key a b; have := key b a; omega
  rw [a.pf, b.pf, e1, e2]
theorem gI_map_range {f : Nat → Int} {n k : Nat} (h : k < n) : gI ((List.range n).map f) k = f k := by
  unfold gI
  rw [Int.toNat_natCast, List.getD_eq_getElem?_getD, List.getElem?_map, List.getElem?_range h]
  rfl
theorem ext_gI {a b : List Int} (hl : a.length = b.length) (h : ∀ k : Nat, k < a.length → gI a k = gI b k) : a = b := by
  refine List.ext_getElem hl fun k h1 h2 => ?_
  have := h k h1
  unfold gI at this
  rw [Int.toNat_natCast, List.getD_eq_getElem?_getD, List.getD_eq_getElem?_getD, List.getElem?_eq_getElem h1, List.getElem?_eq_getElem h2] at this
  exact this
theorem plainF_at {h l : List Int} {r : Int} (hl : l ≠ []) : ∃ c s, c ≤ h.length ∧ s ≤ l.length ∧ PFat (fV h l r) (fun i => extL l r (i - h.length)) c s (plainF h l r) := by
  obtain ⟨s, h1, h2, e, p, hmin⟩ := shortLoop_char (r := r) hl
  have hs : (l.take s).length = s := by rw [List.length_take]; omega
  have hls : l.take s ≠ [] := fun e => by rw [e] at hs; simp at hs; omega
  have E := extL_take h1 h2 p
  have pv : ∀ m : Int, extL l r (s - m) - extL l r (0 - m) = extL l r s - extL l r 0 := fun m => by
    have q1 := p (0 - m)
    rw [show (0 : Int) - m + s = s - m by omega] at q1
    omega
  refine ⟨cutH h (l.take s) (extL l r s - extL l r 0) h.length, s, cutH_le _ _ _ _, h2, h1, ?_, ?_, fun j hj => ?_, fun c' hc => ?_, ?_⟩
  · show Per _ _ (extL l r (s - h.length) - extL l r (0 - h.length))
    rw [pv]
    intro i
    have := p (i - h.length)
    rwa [show i - (h.length : Int) + s = i + s - h.length by omega] at this
  · intro t t1 t2 d q
    refine hmin t t1 t2 d (Per.unshift (-(h.length : Int)) ?_)
    intro i
    have := q i
    simp only [Int.sub_eq_add_neg] at this ⊢
    exact this
  · by_cases c : j < h.length
    · rw [fV_head c, cutH_eq _ j hj c, bkV_ext hls, E]
      congr 1
      omega
    · exact fV_loop (by omega)
  · have hle := cutH_le h (l.take s) (extL l r s - extL l r 0) h.length
    have := cutH_ne _ c' hc
    rw [bkV_ext hls, E] at this
    rw [fV_head (by omega)]
    intro q
    refine this (q.trans ?_)
    congr 1
    omega
  · unfold plainF
    rw [if_neg hl, e]
    dsimp only
    have hle := cutH_le h (l.take s) (extL l r s - extL l r 0) h.length
    generalize hcd : cutH h (l.take s) (extL l r s - extL l r 0) h.length = c at *
    have hc1 : ∀ j, c ≤ j → j < h.length → gI h j = extL l r ((j : Int) - h.length) := fun j a b => by
      have := cutH_eq h.length j (by rw [hcd]; exact a) b
      rw [this, bkV_ext hls, E]
      congr 1
      omega
    rw [pv, hs]
    refine congr (congrArg _ ?_) (congr (congrArg _ ?_) rfl)
    · refine ext_gI (by rw [List.length_take, List.length_map, List.length_range]; omega) fun k hk => ?_
      rw [List.length_take] at hk
      rw [gI_take (by omega), gI_map_range (by omega), fV_head (by omega)]
    · refine List.map_congr_left fun i _ => ?_
      rw [show (c : Int) + 1 + i = ((c + i : Nat) : Int) + 1 by omega, vat_fV hls]
      show fV h (l.take s) _ (c + i) = _
      by_cases q : c + i < h.length
      · rw [fV_head q, hc1 _ (by omega) q]
      · rw [fV_loop (by omega), E]

end
section
theorem gI_append {a b : List Int} {k : Nat} : gI (a ++ b) k = if k < a.length then gI a k else gI b ((k - a.length : Nat) : Int) := by
  unfold gI
  rw [Int.toNat_natCast, Int.toNat_natCast, List.getD_eq_getElem?_getD, List.getD_eq_getElem?_getD, List.getD_eq_getElem?_getD]
  split
  · rename_i h
    rw [List.getElem?_append_left h]
  · rename_i h
    rw [List.getElem?_append_right (by omega)]
theorem gI_drop {a : List Int} {m k : Nat} : gI (a.drop m) k = gI a ((m + k : Nat) : Int) := by
  unfold gI
  rw [Int.toNat_natCast, Int.toNat_natCast, List.getD_eq_getElem?_getD, List.getD_eq_getElem?_getD, List.getElem?_drop]
theorem lcut_cutH {h l' : List Int} {r' : Int} {row : List Int} {s : Nat} (hs : 1 ≤ s) (hl : l' ≠ []) (hp : Per (extL l' r') s r')
    (h1 : ∀ k : Nat, k < h.length → gI row k = gI h k) (h2 : ∀ k : Nat, k < s → gI row ((h.length + k : Nat) : Int) = extL l' r' k) :
    ∀ k, k ≤ h.length → (∀ j : Nat, k ≤ j → j < h.length → gI h j = extL l' r' ((j : Int) - h.length)) → lcut row s r' (k + s) = cutH h l' r' k + s
  | 0, _, _ => by
    obtain ⟨s, rfl⟩ : ∃ t, s = t + 1 := ⟨s - 1, by omega⟩
    rw [Nat.zero_add]
    unfold lcut cutH
    rw [if_neg (by omega), Nat.zero_add]
  | k + 1, hk, hj => by
    have hkk : gI row ((k + s : Nat) : Int) = extL l' r' ((k : Int) - h.length) + r' := by
      have := hp ((k : Int) - h.length)
      rw [← this]
      by_cases c : k + s < h.length
      · rw [h1 _ c, hj _ (by omega) c]
        congr 1
        omega
      · have := h2 (k + s - h.length) (by omega)
        rw [show h.length + (k + s - h.length) = k + s by omega] at this
        rw [this]
        congr 1
        omega
    have e1 : gI row (((k + s : Nat) : Int) - s) = gI h k := by
      rw [show ((k + s : Nat) : Int) - s = (k : Int) by omega, h1 k (by omega)]
    have e2 : bkV l' r' ((h.length : Int) - (k + 1)) = extL l' r' ((k : Int) - h.length) := by
      rw [bkV_ext hl]
      congr 1
      omega
    rw [show k + 1 + s = (k + s) + 1 by omega]
    unfold lcut cutH
    rw [e1, hkk, e2]
    by_cases c : gI h k = extL l' r' ((k : Int) - h.length)
    · rw [if_pos ⟨by omega, by omega⟩, if_pos c]
      refine lcut_cutH hs hl hp h1 h2 k (by omega) fun j a b => ?_
      by_cases q : j = k
      · subst q; exact c
      · exact hj j (by omega) b
    · rw [if_neg (fun q => c (by omega)), if_neg c]
      omega
theorem lawF_eq (h l : List Int) (r : Int) : lawF h l r = plainF h l r := by
  by_cases hl : l = []
  · unfold lawF plainF
    rw [if_pos hl, if_pos hl]
  obtain ⟨s, h1, h2, e, p, hmin⟩ := shortLoop_char (r := r) hl
  have hs : (l.take s).length = s := by rw [List.length_take]; omega
  have hls : l.take s ≠ [] := fun e => by rw [e] at hs; simp at hs; omega
  have E := extL_take h1 h2 p
  have p' : Per (extL (l.take s) (extL l r s - extL l r 0)) s (extL l r s - extL l r 0) := fun i => by rw [E, E, p]
  unfold lawF plainF
  rw [if_neg hl, if_neg hl, e]
  dsimp only
  rw [hs, List.length_append, hs]
  have r1 : ∀ k : Nat, k < h.length → gI (h ++ l.take s) k = gI h k := fun k hk => by rw [gI_append, if_pos hk]
  have r2 : ∀ k : Nat, k < s → gI (h ++ l.take s) ((h.length + k : Nat) : Int) = extL (l.take s) (extL l r s - extL l r 0) k := fun k hk => by
    rw [gI_append, if_neg (by omega), show h.length + k - h.length = k by omega, extL_small (by omega)]
  have e3 := lcut_cutH h1 hls p' r1 r2 h.length (Nat.le_refl _) (fun j a b => by omega)
  have hle := cutH_le h (l.take s) (extL l r s - extL l r 0) h.length
  rw [e3, Nat.add_sub_cancel]
  have hc1 := fun j (a : cutH h (l.take s) (extL l r s - extL l r 0) h.length ≤ j) (b : j < h.length) => cutH_eq h.length j a b
  generalize cutH h (l.take s) (extL l r s - extL l r 0) h.length = c at *
  refine congr (congrArg _ ?_) (congr (congrArg _ ?_) rfl)
  · rw [List.take_append_of_le_length hle]
  · refine ext_gI (by rw [List.length_take, List.length_drop, List.length_append, hs, List.length_map, List.length_range]; omega) fun k hk => ?_
    rw [List.length_take, List.length_drop, List.length_append, hs] at hk
    have hk : k < s := by omega
    rw [gI_take hk, gI_drop, gI_map_range (f := fun i : Nat => (vat h (l.take s) (extL l r s - extL l r 0) ((c : Int) + 1 + i)).getD 0) hk, show (c : Int) + 1 + k = ((c + k : Nat) : Int) + 1 by omega, vat_fV hls]
    show _ = fV h (l.take s) _ (c + k)
    by_cases q : c + k < h.length
    · rw [r1 _ q, fV_head q]
    · have := r2 (c + k - h.length) (by omega)
      rw [show h.length + (c + k - h.length) = c + k by omega] at this
      rw [this, fV_loop (by omega)]
      congr 1
      omega
theorem gI_nn {a : List Int} (h : allPos a) (i : Int) : 0 ≤ gI a i := by
  unfold gI
  rw [List.getD_eq_getElem?_getD]
  by_cases c : i.toNat < a.length
  · rw [List.getElem?_eq_getElem c]
    exact h _ (List.getElem_mem _)
  · rw [List.getElem?_eq_none (by omega)]
    exact Int.le_refl _
theorem extL_nn {l : List Int} {r i : Int} (h : allPos l) (hr : 0 ≤ r) (hi : 0 ≤ i) : 0 ≤ extL l r i :=
  Int.add_nonneg (gI_nn h _) (Int.mul_nonneg hr (Int.ediv_nonneg hi (by omega)))
theorem fV_nn {h l : List Int} {r : Int} (V : Val h l r) (j : Nat) : 0 ≤ fV h l r j := by
  unfold fV
  split
  · exact gI_nn V.p1 _
  · exact extL_nn V.p2 V.r0 (by omega)
theorem extL_up {h l : List Int} {r : Int} (V : Val h l r) (hl : l ≠ []) (i : Int) : extL l r i ≤ extL l r (i + 1) := by
  have h0 : 0 < l.length := List.length_pos_iff.mpr hl
  have P := extL_per (r := r) hl
  have e : i % l.length + l.length * (i / l.length) = i := Int.emod_add_mul_ediv ..
  have g0 := Int.emod_nonneg i (show (l.length : Int) ≠ 0 by omega)
  have g1 := Int.emod_lt_of_pos i (show (0 : Int) < l.length by omega)
  obtain ⟨t, ht⟩ := Int.eq_ofNat_of_zero_le g0
  rw [ht] at e g1
  generalize i / l.length = z at e
  subst e
  rw [show (t : Int) + l.length * z + 1 = ((t + 1 : Nat) : Int) + l.length * z by omega, P.mul, P.mul, extL_small (k := t) (by omega)]
  by_cases c : t + 1 < l.length
  · rw [extL_small c]
    have := V.r2 t c
    rw [show ((t + 1 : Nat) : Int) = (t : Int) + 1 by omega]
    omega
  · have := V.ll hl
    have q := P 0
    have q0 := extL_small (r := r) (l := l) (k := 0) h0
    rw [Int.zero_add] at q
    rw [show (l.length : Int) - 1 = t by omega] at this
    rw [show t + 1 = l.length by omega, q, show (0 : Int) = ((0 : Nat) : Int) from rfl, q0]
    show gI l t + r * z ≤ gI l 0 + r + r * z
    omega
theorem fV_up {h l : List Int} {r : Int} (V : Val h l r) (hl : l ≠ []) (j : Nat) : fV h l r j ≤ fV h l r (j + 1) := by
  by_cases c : j + 1 < h.length
  · rw [fV_head c, fV_head (by omega)]
    exact V.r1 j c
  · by_cases d : j < h.length
    · rw [fV_head d, fV_loop (by omega)]
      have := V.hl (by intro e; rw [e] at d; simp at d) hl
      rw [show ((j + 1 : Nat) : Int) - h.length = ((0 : Nat) : Int) by omega, extL_small (List.length_pos_iff.mpr hl)]
      rw [show (h.length : Int) - 1 = j by omega] at this
      exact this
    · rw [fV_loop (by omega), fV_loop (by omega)]
      have := extL_up V hl ((j : Int) - h.length)
      rwa [show (j : Int) - h.length + 1 = ((j + 1 : Nat) : Int) - h.length by omega] at this
theorem tell_gI {f : Nat → Int} {n cut k : Nat} (h : cut + k < n) : gI (((List.range n).map f).drop cut) k = f (cut + k) := by
  rw [gI_drop, gI_map_range h]
theorem tell_gT {f : Nat → Int} {n cut k : Nat} (h : k < cut) (h2 : k < n) : gI (((List.range n).map f).take cut) k = f k := by
  rw [gI_take h, gI_map_range h2]
theorem tell_plain {h l : List Int} {r : Int} (hl : l ≠ []) (more turns : Nat) (ht : 1 ≤ turns) :
    plainF (((List.range (h.length + more + l.length * turns)).map (fV h l r)).take (h.length + more)) (((List.range (h.length + more + l.length * turns)).map (fV h l r)).drop (h.length + more)) (r * turns) = plainF h l r := by
  have h0 : 0 < l.length := List.length_pos_iff.mpr hl
  have hL : 0 < l.length * turns := Nat.mul_pos h0 ht
  have e1 : (((List.range (h.length + more + l.length * turns)).map (fV h l r)).take (h.length + more)).length = h.length + more := by
    rw [List.length_take, List.length_map, List.length_range]; omega
  have e2 : (((List.range (h.length + more + l.length * turns)).map (fV h l r)).drop (h.length + more)).length = l.length * turns := by
    rw [List.length_drop, List.length_map, List.length_range]; omega
  have g1 : ∀ k, k < h.length + more → gI (((List.range (h.length + more + l.length * turns)).map (fV h l r)).take (h.length + more)) k = fV h l r k := fun k hk => tell_gT hk (by omega)
  have g2 : ∀ k, k < l.length * turns → gI (((List.range (h.length + more + l.length * turns)).map (fV h l r)).drop (h.length + more)) k = fV h l r (h.length + more + k) := fun k hk => tell_gI (by omega)
  generalize ((List.range (h.length + more + l.length * turns)).map (fV h l r)).take (h.length + more) = h2 at *
  generalize ((List.range (h.length + more + l.length * turns)).map (fV h l r)).drop (h.length + more) = l2 at *
  have hl2 : l2 ≠ [] := fun e => by rw [e] at e2; simp at e2; omega
  have P2 := extL_per (r := r * turns) hl2
  have P1 : Per (fun i => extL l r (i + more)) l2.length (r * turns) := Per.shift (fun i => by
    rw [e2, Int.natCast_mul, (extL_per hl).mulN]) more
  have ee := P2.ext (by omega) P1 fun k hk => by
    rw [extL_small hk, g2 k (by omega), fV_loop (by omega)]
    congr 1
    omega
  have fe : fV h2 l2 (r * turns) = fV h l r := funext fun j => by
    by_cases c : j < h2.length
    · rw [fV_head c, g1 j (by omega)]
    · rw [fV_loop (by omega), ee, fV_loop (by omega), e1]
      congr 1
      omega
  have ge : (fun i : Int => extL l2 (r * turns) (i - h2.length)) = fun i => extL l r (i - h.length) := funext fun i => by
    rw [ee, e1]
    congr 1
    omega
  obtain ⟨c, s, _, _, A⟩ := plainF_at (h := h) (r := r) hl
  obtain ⟨c2, s2, _, _, B⟩ := plainF_at (h := h2) (r := r * turns) hl2
  rw [fe, ge] at B
  exact B.uniq A
theorem tell_val {h l : List Int} {r : Int} (V : Val h l r) (hl : l ≠ []) (more turns : Nat) (ht : 1 ≤ turns) (z1 : h.length + more ≤ 50000) (z2 : l.length * turns ≤ 50000) (z3 : r * turns < 1152921504606846976) :
    Val (((List.range (h.length + more + l.length * turns)).map (fV h l r)).take (h.length + more)) (((List.range (h.length + more + l.length * turns)).map (fV h l r)).drop (h.length + more)) (r * turns) := by
  have h0 : 0 < l.length := List.length_pos_iff.mpr hl
  have hL : 0 < l.length * turns := Nat.mul_pos h0 ht
  have e1 : (((List.range (h.length + more + l.length * turns)).map (fV h l r)).take (h.length + more)).length = h.length + more := by
    rw [List.length_take, List.length_map, List.length_range]; omega
  have e2 : (((List.range (h.length + more + l.length * turns)).map (fV h l r)).drop (h.length + more)).length = l.length * turns := by
    rw [List.length_drop, List.length_map, List.length_range]; omega
  have g1 : ∀ k, k < h.length + more → gI (((List.range (h.length + more + l.length * turns)).map (fV h l r)).take (h.length + more)) k = fV h l r k := fun k hk => tell_gT hk (by omega)
  have g2 : ∀ k, k < l.length * turns → gI (((List.range (h.length + more + l.length * turns)).map (fV h l r)).drop (h.length + more)) k = fV h l r (h.length + more + k) := fun k hk => tell_gI (by omega)
  have ps : ∀ n ∈ (List.range (h.length + more + l.length * turns)).map (fV h l r), 0 ≤ n := fun n hn => by
    obtain ⟨k, _, rfl⟩ := List.mem_map.mp hn
    exact fV_nn V k
  have p1 : allPos (((List.range (h.length + more + l.length * turns)).map (fV h l r)).take (h.length + more)) := fun n hn => ps n (List.mem_of_mem_take hn)
  have p2 : allPos (((List.range (h.length + more + l.length * turns)).map (fV h l r)).drop (h.length + more)) := fun n hn => ps n (List.mem_of_mem_drop hn)
  generalize ((List.range (h.length + more + l.length * turns)).map (fV h l r)).take (h.length + more) = h2 at *
  generalize ((List.range (h.length + more + l.length * turns)).map (fV h l r)).drop (h.length + more) = l2 at *
  have up := fV_up V hl
  have rt : 0 ≤ r * turns := Int.mul_nonneg V.r0 (by omega)
  refine ⟨p1, p2, fun i hi => ?_, fun i hi => ?_, rt, fun e => ?_, fun hne _ => ?_, fun _ => ?_, ⟨by omega, z3, by omega, by omega⟩⟩
  · rw [g1 i (by omega), show (i : Int) + 1 = ((i + 1 : Nat) : Int) by omega, g1 (i + 1) (by omega)]
    exact up i
  · rw [g2 i (by omega), show (i : Int) + 1 = ((i + 1 : Nat) : Int) by omega, g2 (i + 1) (by omega)]
    exact up (h.length + more + i)
  · rw [e] at e2; simp at e2; omega
  · have hp : 0 < h2.length := List.length_pos_iff.mpr hne
    rw [e1, show ((h.length + more : Nat) : Int) - 1 = ((h.length + more - 1 : Nat) : Int) by omega, g1 _ (by omega)]
    have := g2 0 hL
    rw [show (0 : Int) = ((0 : Nat) : Int) from rfl, this]
    have := up (h.length + more - 1)
    rwa [show h.length + more - 1 + 1 = h.length + more + 0 by omega] at this
  · rw [e2, show ((l.length * turns : Nat) : Int) - 1 = ((l.length * turns - 1 : Nat) : Int) by omega, g2 _ (by omega)]
    have q := g2 0 hL
    rw [show (0 : Int) = ((0 : Nat) : Int) from rfl, q]
    have u := up (h.length + more + (l.length * turns - 1))
    have P := (extL_per (r := r) hl).mulN turns ((more : Nat) : Int)
    rw [fV_loop (j := h.length + more + (l.length * turns - 1) + 1) (by omega)] at u
    rw [fV_loop (j := h.length + more + 0) (by omega), show (((h.length + more + 0 : Nat) : Int) - h.length) = more by omega, ← P]
    refine Int.le_trans u (Int.le_of_eq ?_)
    congr 1
    rw [← Int.natCast_mul]
    omega
/-- the plain form's parts are small and no less than 0 -/
theorem plainF_ok {h l : List Int} {r : Int} (V : Val h l r) : allPos (plainF h l r).1 ∧ allPos (plainF h l r).2.1 ∧ 0 ≤ (plainF h l r).2.2 ∧ (plainF h l r).2.2 ≤ r ∧ (plainF h l r).1.length ≤ h.length ∧ (plainF h l r).2.1.length ≤ l.length := by
  by_cases hl : l = []
  · unfold plainF
    rw [if_pos hl]
    exact ⟨V.p1, fun n hn => by simp at hn, Int.le_refl _, V.r0, Nat.le_refl _, Nat.zero_le _⟩
  · obtain ⟨q1, q2⟩ := shortLoop_len l r
    obtain ⟨q3, q4⟩ := shortLoop_rise (l := l) V.r0
    have q5 := q2 hl
    have pl : allPos (shortLoop l r).1 := by
      rcases shortLoop_cases l r with e | ⟨m, _, _, _, e⟩
      · rw [e]; exact V.p2
      · rw [e]; exact fun n hn => V.p2 n (List.mem_of_mem_take hn)
    unfold plainF
    rw [if_neg hl]
    refine ⟨fun n hn => V.p1 n (List.mem_of_mem_take hn), fun n hn => ?_, q3, q4, by show (h.take _).length ≤ _; rw [List.length_take]; omega, by show (List.map _ _).length ≤ _; rw [List.length_map, List.length_range]; exact q1⟩
    obtain ⟨i, _, rfl⟩ := List.mem_map.mp hn
    generalize cutH h (shortLoop l r).1 (shortLoop l r).2 h.length = c
    show 0 ≤ (vat h _ _ ((c : Int) + 1 + i)).getD 0
    rw [show (c : Int) + 1 + i = ((c + i : Nat) : Int) + 1 by omega, vat_fV q5]
    show 0 ≤ fV h _ _ (c + i)
    unfold fV
    split
    · exact gI_nn V.p1 _
    · exact extL_nn pl q3 (by omega)

end
section
/-- two tables with the same values have one plain form -/
theorem plain_ext {h l h' l' : List Int} {r r' : Int} (hl : l ≠ []) (hl' : l' ≠ []) (e : ∀ j, fV h l r j = fV h' l' r' j) : plainF h l r = plainF h' l' r' := by
  have l0 : 0 < l.length := List.length_pos_iff.mpr hl
  have l1 : 0 < l'.length := List.length_pos_iff.mpr hl'
  have P := (extL_per (r := r) hl)
  have P' := (extL_per (r := r') hl')
  have fe : fV h l r = fV h' l' r' := funext e
  have big : ∀ j : Nat, h.length ≤ j → h'.length ≤ j → extL l r ((j : Int) - h.length) = extL l' r' ((j : Int) - h'.length) := fun j a b => by
    rw [← fV_loop a, ← fV_loop b, e]
  have Q : Per (fun i => extL l r (i - h.length)) (l.length * l'.length) (r * l'.length) := fun i => by
    show extL l r (i + ((l.length * l'.length : Nat) : Int) - h.length) = extL l r (i - h.length) + _
    rw [← P.mulN, Int.natCast_mul]
    congr 1
    omega
  have Q' : Per (fun i => extL l' r' (i - h'.length)) (l.length * l'.length) (r' * l.length) := fun i => by
    show extL l' r' (i + ((l.length * l'.length : Nat) : Int) - h'.length) = extL l' r' (i - h'.length) + _
    rw [← P'.mulN, Int.natCast_mul, Int.mul_comm (l.length : Int)]
    congr 1
    omega
  generalize hM : h.length + h'.length = M at *
  have sl : r * l'.length = r' * l.length := by
    have a := Q M
    have b := Q' M
    have c := big M (by omega) (by omega)
    have d := big (M + l.length * l'.length) (by omega) (by omega)
    simp only at a b
    rw [Int.natCast_add] at d
    omega
  rw [← sl] at Q'
  have ge : (fun i : Int => extL l r (i - h.length)) = fun i => extL l' r' (i - h'.length) := by
    have key := (Q.shift M).ext (Nat.mul_pos l0 l1) (Q'.shift M) fun k _ => by
      have := big (k + M) (by omega) (by omega)
      rw [Int.natCast_add] at this
      exact this
    refine funext fun i => ?_
    have this : extL l r (i - M + M - h.length) = extL l' r' (i - M + M - h'.length) := key (i - M)
    rwa [show i - (M : Int) + M = i by omega] at this
  obtain ⟨c, s, _, _, A⟩ := plainF_at (h := h) (r := r) hl
  obtain ⟨c2, s2, _, _, B⟩ := plainF_at (h := h') (r := r') hl'
  rw [← fe, ← ge] at B
  exact A.uniq B
/-- a row of numbers that goes on evenly makes a table -/
theorem val_of {f : Nat → Int} {xs : List Int} {c s : Nat} {d : Int} (h0 : ∀ j, 0 ≤ f j) (up : ∀ j, f j ≤ f (j + 1)) (hs : 1 ≤ s) (per : ∀ j, c ≤ j → f (j + s) = f j + d)
    (hx : xs.length = c + s) (hf : ∀ k : Nat, k < c + s → gI xs k = f k) (zc : c ≤ 50000) (zs : s ≤ 50000) (zd : d < 1152921504606846976) :
    Val (xs.take c) (xs.drop c) d ∧ xs.drop c ≠ [] ∧ ∀ j, fV (xs.take c) (xs.drop c) d j = f j := by
  have e1 : (xs.take c).length = c := by rw [List.length_take]; omega
  have e2 : (xs.drop c).length = s := by rw [List.length_drop]; omega
  have g1 : ∀ k : Nat, k < c → gI (xs.take c) k = f k := fun k hk => by rw [gI_take hk, hf k (by omega)]
  have g2 : ∀ k : Nat, k < s → gI (xs.drop c) k = f (c + k) := fun k hk => by rw [gI_drop, hf _ (by omega)]
  have ps : ∀ n ∈ xs, 0 ≤ n := fun n hn => by
    obtain ⟨k, hk, rfl⟩ := List.getElem_of_mem hn
    have := hf k (by omega)
    unfold gI at this
    rw [Int.toNat_natCast, List.getD_eq_getElem?_getD, List.getElem?_eq_getElem hk] at this
    have e : xs[k] = f k := this
    rw [e]
    exact h0 k
  have p1 : allPos (xs.take c) := fun n hn => ps n (List.mem_of_mem_take hn)
  have p2 : allPos (xs.drop c) := fun n hn => ps n (List.mem_of_mem_drop hn)
  generalize xs.take c = h at *
  generalize xs.drop c = l at *
  have hl : l ≠ [] := fun e => by rw [e] at e2; simp at e2; omega
  have d0 : 0 ≤ d := by
    have a := per c (Nat.le_refl _)
    have mono : ∀ k, f c ≤ f (c + k) := fun k => by
      induction k with
      | zero => exact Int.le_refl _
      | succ k ih => exact Int.le_trans ih (up (c + k))
    have := mono s
    omega
  refine ⟨⟨p1, p2, fun i hi => ?_, fun i hi => ?_, d0, fun e => absurd e hl, fun hne _ => ?_, fun _ => ?_, ⟨by omega, zd, by omega, by omega⟩⟩, hl, fun j => ?_⟩
  · rw [g1 i (by omega), show (i : Int) + 1 = ((i + 1 : Nat) : Int) by omega, g1 (i + 1) (by omega)]
    exact up i
  · rw [g2 i (by omega), show (i : Int) + 1 = ((i + 1 : Nat) : Int) by omega, g2 (i + 1) (by omega)]
    exact up (c + i)
  · have hp : 0 < h.length := List.length_pos_iff.mpr hne
    rw [e1, show (c : Int) - 1 = ((c - 1 : Nat) : Int) by omega, g1 _ (by omega)]
    have q := g2 0 hs
    rw [show (0 : Int) = ((0 : Nat) : Int) from rfl, q]
    have := up (c - 1)
    rwa [show c - 1 + 1 = c + 0 by omega] at this
  · rw [e2, show (s : Int) - 1 = ((s - 1 : Nat) : Int) by omega, g2 _ (by omega)]
    have q := g2 0 hs
    rw [show (0 : Int) = ((0 : Nat) : Int) from rfl, q]
    have u := up (c + (s - 1))
    rw [show c + (s - 1) + 1 = c + 0 + s by omega, per (c + 0) (by omega)] at u
    exact u
  · by_cases hj : j < c
    · rw [fV_head (by omega), g1 j hj]
    · rw [fV_loop (by omega), e1]
      have pn : ∀ z k, f (c + k + s * z) = f (c + k) + d * z := fun z k => by
        induction z with
        | zero => simp
        | succ z ih =>
          rw [Nat.mul_succ, show c + k + (s * z + s) = (c + k + s * z) + s by omega, per _ (by omega), ih, Int.natCast_add, Int.mul_add]
          omega
      have P := (extL_per (r := d) hl).mulN ((j - c) / s) ((((j - c) % s : Nat)) : Int)
      have hm : (j - c) % s + s * ((j - c) / s) = j - c := Nat.mod_add_div ..
      have hlt : (j - c) % s < s := Nat.mod_lt _ hs
      rw [e2, extL_small (by omega), g2 _ hlt, ← Int.natCast_mul, ← Int.natCast_add, hm] at P
      rw [show (j : Int) - c = ((j - c : Nat) : Int) by omega, P, ← pn]
      congr 1
      omega
/-- the value behind j others, or none -/
def TV (h l : List Int) (r : Int) (j : Nat) : Option Int := if l = [] then h[j]? else some (fV h l r j)
theorem gI_get {h : List Int} {j : Nat} (c : j < h.length) : h[j]? = some (gI h j) := by
  unfold gI
  rw [Int.toNat_natCast, List.getD_eq_getElem?_getD, List.getElem?_eq_getElem c]
  rfl
theorem vat_TV {h l : List Int} {r : Int} (j : Nat) : vat h l r ((j : Int) + 1) = TV h l r j := by
  unfold TV
  by_cases hl : l = []
  · subst hl
    rw [if_pos rfl]
    unfold vat
    rw [if_neg (by omega)]
    by_cases c : j < h.length
    · rw [if_pos (by omega), gI_get c, show (j : Int) + 1 - 1 = j by omega]
    · rw [if_neg (by omega), if_pos rfl, List.getElem?_eq_none (by omega)]
  · rw [if_neg hl, vat_fV hl]
theorem plainF_nil {h : List Int} {r : Int} : plainF h [] r = (h, [], 0) := by
  unfold plainF
  rw [if_pos rfl]
/-- the plain form is a table with the same values, and stays -/
theorem plainF_val {h l : List Int} {r : Int} (V : Val h l r) : Val (plainF h l r).1 (plainF h l r).2.1 (plainF h l r).2.2 ∧ (∀ j, TV (plainF h l r).1 (plainF h l r).2.1 (plainF h l r).2.2 j = TV h l r j) ∧
    plainF (plainF h l r).1 (plainF h l r).2.1 (plainF h l r).2.2 = plainF h l r ∧ (plainF h l r).1.length ≤ h.length ∧
    (l ≠ [] → (plainF h l r).2.1 ≠ [] ∧ ∃ q : Nat, l.length = (plainF h l r).2.1.length * q ∧ r = (plainF h l r).2.2 * q) := by
  by_cases hl : l = []
  · subst hl
    have r0 := V.e0 rfl
    subst r0
    rw [plainF_nil]
    exact ⟨V, fun j => rfl, plainF_nil, Nat.le_refl _, fun e => absurd rfl e⟩
  · obtain ⟨c, s, hc, hs, A⟩ := plainF_at (h := h) (r := r) hl
    obtain ⟨z1, z2, z3, z4⟩ := V.sm
    have l0 : 0 < l.length := List.length_pos_iff.mpr hl
    have fr : ∀ j, c ≤ j → fV h l r (j + s) = fV h l r j + ((fun i => extL l r (i - h.length)) s - (fun i => extL l r (i - h.length)) 0) := fun j hj => by
      have a := A.eq (j + s) (by omega)
      have b := A.eq j hj
      have p := A.per (j : Int)
      rw [Int.natCast_add] at a
      rw [a, b]
      exact p
    have hG : Per (fun i => extL l r (i - h.length)) l.length r := fun i => by
      have := extL_per (r := r) hl (i - h.length)
      show extL l r (i + l.length - h.length) = _
      rw [show i + (l.length : Int) - h.length = i - h.length + l.length by omega, this]
    obtain ⟨k1, k2⟩ := per_dvd A.s1 A.per A.min hG
    generalize hd : ((fun i => extL l r (i - h.length)) s - (fun i => extL l r (i - h.length)) 0) = d at *
    have d0 : 0 ≤ d := by
      have mono : ∀ k, fV h l r c ≤ fV h l r (c + k) := fun k => by
        induction k with
        | zero => exact Int.le_refl _
        | succ k ih => exact Int.le_trans ih (fV_up V hl (c + k))
      have a := mono s
      have b := fr c (Nat.le_refl _)
      omega
    have q1 : 1 ≤ l.length / s := by
      rcases Nat.eq_zero_or_pos (l.length / s) with e | e
      · rw [e, Nat.mul_zero] at k1; omega
      · exact e
    have dr : d ≤ r := by
      have := Int.mul_le_mul_of_nonneg_left (show (1 : Int) ≤ ((l.length / s : Nat) : Int) by omega) d0
      rw [Int.mul_one] at this
      exact Int.le_trans this (Int.le_of_eq k2.symm)
    have B := val_of (f := fV h l r) (xs := (List.range (c + s)).map (fV h l r)) (c := c) (s := s) (d := d) (fV_nn V) (fV_up V hl) A.s1 fr (by rw [List.length_map, List.length_range]) (fun k hk => gI_map_range hk) (by omega) (by omega) (by omega)
    have t1 : ((List.range (c + s)).map (fV h l r)).take c = (List.range c).map (fV h l r) := by
      rw [← List.map_take, List.take_range]
      congr 2
      omega
    have t2 : ((List.range (c + s)).map (fV h l r)).drop c = (List.range s).map fun i : Nat => (fun i => extL l r (i - h.length)) ((c + i : Nat) : Int) := by
      refine ext_gI (by rw [List.length_drop, List.length_map, List.length_map, List.length_range, List.length_range]; omega) fun k hk => ?_
      rw [List.length_drop, List.length_map, List.length_range] at hk
      rw [tell_gI (by omega), gI_map_range (by omega), A.eq _ (by omega)]
    rw [t1, t2] at B
    have pf := A.pf
    rw [hd] at pf
    obtain ⟨B1, B2, B3⟩ := B
    have e1 : (plainF h l r).1 = (List.range c).map (fV h l r) := by rw [pf]
    have e2 : (plainF h l r).2.1 = (List.range s).map fun i : Nat => (fun i => extL l r (i - h.length)) ((c + i : Nat) : Int) := by rw [pf]
    have e3 : (plainF h l r).2.2 = d := by rw [pf]
    rw [e1, e2, e3]
    refine ⟨B1, fun j => ?_, ?_, by rw [List.length_map, List.length_range]; exact hc, fun _ => ⟨B2, l.length / s, by rw [List.length_map, List.length_range]; exact k1, k2⟩⟩
    · unfold TV
      rw [if_neg B2, if_neg hl, B3]
    · exact plain_ext B2 hl B3
/-- the plain form with these values -/
structure Pl (f : Nat → Option Int) (h l : List Int) (r : Int) : Prop where
  val : Val h l r
  pf : plainF h l r = (h, l, r)
  tv : ∀ j, TV h l r j = f j
theorem Pl.of {h l : List Int} {r : Int} (V : Val h l r) : Pl (TV h l r) (plainF h l r).1 (plainF h l r).2.1 (plainF h l r).2.2 := by
  obtain ⟨a, b, c, _⟩ := plainF_val V
  exact ⟨a, c, b⟩
theorem Pl.uniq {f : Nat → Option Int} {h l h' l' : List Int} {r r' : Int} (a : Pl f h l r) (b : Pl f h' l' r') : h = h' ∧ l = l' ∧ r = r' := by
  have e : ∀ j, TV h l r j = TV h' l' r' j := fun j => (a.tv j).trans (b.tv j).symm
  have nn : ∀ {h l h' l' : List Int} {r r' : Int}, (∀ j, TV h l r j = TV h' l' r' j) → l = [] → l' ≠ [] → False := fun {h l h' l' r r'} e c d => by
    have := e h.length
    unfold TV at this
    rw [if_pos c, if_neg d, List.getElem?_eq_none (Nat.le_refl _)] at this
    cases this
  by_cases c : l = []
  · by_cases d : l' = []
    · subst c; subst d
      refine ⟨List.ext_getElem? fun i => ?_, rfl, (a.val.e0 rfl).trans (b.val.e0 rfl).symm⟩
      have := e i
      unfold TV at this
      rwa [if_pos rfl, if_pos rfl] at this
    · exact (nn e c d).elim
  · by_cases d : l' = []
    · exact (nn (fun j => (e j).symm) d c).elim
    · have := plain_ext c d fun j => by
        have := e j
        unfold TV at this
        rw [if_neg c, if_neg d] at this
        exact Option.some.inj this
      rw [a.pf, b.pf] at this
      cases this
      exact ⟨rfl, rfl, rfl⟩

end
section
local macro_rules | `(tactic| walk_at "hp") => `(tactic| first
  | with_reducible assumption
  | (with_reducible refine' ex_tab ?a ?b; (case a => with_reducible assumption); (case b => walk_at "hp")))
local macro_rules | `(tactic| walk_at "w2") => `(tactic| first
  | ((with_reducible refine' r_tabHead ?a ?b ?q); (case a => with_reducible assumption); (case b => walk_at "hp"))
  | ((with_reducible refine' r_tabLoop ?a ?b ?q); (case a => with_reducible assumption); (case b => walk_at "hp"))
  | ((with_reducible refine' r_tabRise ?a ?b ?q); (case a => with_reducible assumption); (case b => walk_at "hp")))
abbrev N__law_table : List Str := ["raw"]
theorem sc__law_table : FnScope N__law_table ["raw"] (defScope s__law_table) := ⟨rfl, rfl, rfl, by decide +kernel, rfl, by decide +kernel, by decide +kernel⟩
theorem ok__law_table {P : Program} {w : World} {K : PySem.W.Frag} {mg : Str → Option Value} {base : Heap} (E : Env P K mg) : Fn P w K mg base CX0 12 "_law_table" (sp1 fun v H Q _ => ∃ h l r, Dp K H v (dRaw h l r) ∧ Val h l r ∧ ∀ x H2, Ex H H2 → TabAt K H2 x (plainF h l r).1 (plainF h l r).2.1 (plainF h l r).2.2 → Q (.ref x) H2) := by
  obtain ⟨fd, F⟩ := E.dd__law_table
  refine Fn.mk0 F E.g__law_table sc__law_table sp1_len (fun _ _ _ _ _ _ us hl => match us, hl with | [_], _ => rfl) (fun cdv A outer s H vs Q X hr h => ?_)
  have nd := sc__law_table.nd
  obtain ⟨v0, rfl, h⟩ := h
  refine ⟨_, (pss_one (ps_ret (pmk (ok_Table3 E) hr (by decide) pass0 rfl (pa_cons (pe_ix (kIx K) (pv 0) (pe_int) (fun _ _ => rfl)) (pa_cons (pe_ix (kIx K) (pv 0) (pe_int) (fun _ _ => rfl)) (pa_cons (pe_ix (kIx K) (pv 0) (pe_int) (fun _ _ => rfl)) pa_nil)))))), ?_⟩
  change (_ : TS) _ [some v0] H
  try dsimp only [cxOf, Cx.nox, Cx.blk]
  obtain ⟨h, l, r, hD, W, k⟩ := h
  obtain ⟨a, th, tl, rfl, s1, s2, s3⟩ := dp_raw hD
  walk_at "w"
  exact mk_tab (b1 := true) (b2 := true) rfl (dp_of_ints s2) (dp_of_ints s3) (.int r) W k
abbrev N__law_same : List Str := ["table", "raw", "one"]
theorem sc__law_same : FnScope N__law_same ["table", "raw"] (defScope s__law_same) := ⟨rfl, rfl, rfl, by decide +kernel, rfl, by decide +kernel, by decide +kernel⟩
theorem ok__law_same {P : Program} {w : World} {K : PySem.W.Frag} {mg : Str → Option Value} {base : Heap} (E : Env P K mg) : Fn P w K mg base CX0 3 "_law_same" (sp2 fun a b H Q _ => ∃ x h l r, a = .ref x ∧ TabAt K H x h l r ∧ Dp K H b (dRaw h l r) ∧ allPos h ∧ allPos l ∧ 0 ≤ r ∧ h.length ≤ 50000 ∧ l.length ≤ 50000 ∧ RetD K (.bool true) H Q) := by
  obtain ⟨fd, F⟩ := E.dd__law_same
  refine Fn.mk0 F E.g__law_same sc__law_same sp2_len (fun _ _ _ _ _ _ us hl => match us, hl with | [_, _], _ => rfl) (fun cdv A outer s H vs Q X hr h => ?_)
  have nd := sc__law_same.nd
  obtain ⟨v0, v1, rfl, h⟩ := h
  refine ⟨_, (pss_cons (ps_if (PW.pt (pw_or (pt_not (kTru K (pe_callB (kIsi K) (by rfl) E.f_isinstance (by decide +kernel) (pa_cons (pv 0) (pa_cons (pe_glob (v := .ref (He.ga K "Table")) (by rfl) E.g_Table rfl) pa_nil))) (by intro _; rfl))) (pw_or (pt_cmpR (kNe K hr) (kFld K (pv 0) rfl) (pe_ix (kIx K) (pv 1) (pe_int) (fun _ _ => rfl)) (nomark _)) (pw_or1 (pt_cmpR (kNe K hr) (kFld K (pv 0) rfl) (pe_ix (kIx K) (pv 1) (pe_int) (fun _ _ => rfl)) (nomark _))))))
   (pss_one (ps_ret (pe_bl)))
   pss_nil)
  (pss_cons (ps_if (PW.pt (pw_or (pt_not (kTru K (pe_callB (kIsi K) (by rfl) E.f_isinstance (by decide +kernel) (pa_cons (kFld K (pv 0) rfl) (pa_cons (pe_bltn (v := .ty "tuple") (by rfl) E.f_tuple (by decide +kernel) rfl) pa_nil))) (by intro _; rfl))) (pw_or1 (pt_not (kTru K (pe_callB (kIsi K) (by rfl) E.f_isinstance (by decide +kernel) (pa_cons (kFld K (pv 0) rfl) (pa_cons (pe_bltn (v := .ty "tuple") (by rfl) E.f_tuple (by decide +kernel) rfl) pa_nil))) (by intro _; rfl))))))
   (pss_one (ps_ret (pe_bl)))
   pss_nil)
  (pss_cons (ps_if (pt_not (kTru K (pe_callB (kAll K rfl) (by rfl) E.f_all (by decide +kernel) (pa_cons (pe_lc (own := [("one", 2)]) (g := gName 2) (tt := tYes) rfl nd (kSeq K (pe_op (kAdd K) (kFld K (pv 0) rfl) (kFld K (pv 0) rfl))) (blkOk_by (N := N__law_same) (sc := defScope s__law_same) (by decide +kernel)) (fun _ _ _ _ _ => pg_name (i := 2) nd rfl (Or.inl rfl)) (fun _ _ _ _ _ => pts_nil) (fun _ _ _ _ _ => pc (ok__law_is_count E) hr (by decide) pass0 rfl (pa_cons (pv 2) pa_nil))) pa_nil)) (by intro _; rfl)))
   (pss_one (ps_ret (pe_bl)))
   pss_nil)
  (pss_one (ps_ret (pe_and (pc (ok__law_is_count E) hr (by decide) pass0 rfl (pa_cons (kFld K (pv 0) rfl) pa_nil)) (pe_one (pe_cmpR (kEq K hr) (kFld K (pv 0) rfl) (pe_ix (kIx K) (pv 1) (pe_int) (fun _ _ => rfl)) (nomark _))))))))), ?_⟩
  change (_ : TS) _ [some v0, some v1, none] H
  try dsimp only [cxOf, Cx.nox, Cx.blk]
  obtain ⟨x, h, l, r, rfl, t, hD, p1, p2, p3, z1, z2, k⟩ := h
  obtain ⟨a, th, tl, rfl, s1, s2, s3⟩ := dp_raw hD
  walk_at "w"
  refine r_isiC (insB_ok E.ins_Table E.c_Table (tab_mine t).choose_spec.choose_spec) E.kit_Table_self ?_
  walk_at "w"
  intro th1 q1
  walk_at "w"
  intro tl1 q2
  walk_at "w"
  intro th2 q3
  walk_at "w"
  intro tl2 q4
  walk_at "w"
  refine i_seqT ?_
  walk_at "w"
  intro th3 q5
  walk_at "w"
  intro tl3 q6
  walk_at "w"
  refine r_addT q5 q6 (by walk_at "sz") fun p5 H5 e5 h5 => ?_
  walk_at "w"
  rw [show vI h ++ vI l = vI (h ++ l) from List.map_append.symm] at h5
  have hp : ∀ n ∈ h ++ l, 0 ≤ n := fun n hn => (List.mem_append.mp hn).elim (p1 n) (p2 n)
  refine lcJ_tup (v := fun _ => .bl true) h5 (by rw [List.length_map, List.length_append]; omega) (fun x => [_, _, some x]) (fun x => rfl) (fun x => rfl) (fun x H2 Q' e2 hx hq => ?_) (fun p H2 n2 e2 hp => ?_)
  · walk_at "w"
    obtain ⟨n, hn, rfl⟩ := List.mem_map.mp hx
    refine ⟨.int n, .int n, fun v H3 e3 d3 => ?_⟩
    rw [show dIsCount (.int n) = true from decide_eq_true (hp n hn)] at d3
    obtain rfl := dp_toBl d3
    exact hq H3 e3
  · walk_at "w"
    refine r_all (bs := (vI (h ++ l)).map fun _ => true) (sq_of hp) (List.map_map ..).symm ?_
    have : ((vI (h ++ l)).map fun _ => true).all id = true := by simp
    rw [this]
    walk_at "w"
    refine ⟨.int r, .int r, fun v H3 e3 d3 => ?_⟩
    rw [show dIsCount (.int r) = true from decide_eq_true p3] at d3
    obtain rfl := dp_toBl d3
    walk_at "w"
    rw [decide_eq_true (rfl : r = r)]
    exact k.bl (by walk_at "ex")

end
section
def leO : Option Int → Option Int → Bool
  | _, none => true
  | none, some _ => false
  | some a, some b => decide (a ≤ b)
def topO (a b : Option Int) : Option Int := if leO a b = true then b else a
def lowO (a b : Option Int) : Option Int := if leO a b = true then a else b
def jnO (g : Bool) (a b : Option Int) : Option Int := if g = true then topO a b else lowO a b
theorem lcm_div (i j : Nat) : ((i : Int) / (Int.gcd i j : Int)) * j = ((Nat.lcm i j : Nat) : Int) := by
  show ((i : Int) / ((Nat.gcd i j : Nat) : Int)) * j = _
  rw [← Int.natCast_ediv, ← Int.natCast_mul]
  congr 1
  unfold Nat.lcm
  exact (Nat.div_mul_right_comm (Nat.gcd_dvd_left i j) j)
/-- the counts ahead of the first never -/
def cnts : List (Option Int) → List Int
  | some a :: r => a :: cnts r
  | _ => []
theorem cnts_snoc : ∀ {xs : List (Option Int)} {i : Nat} {a : Int}, (cnts (xs.take i)).length = i → xs[i]? = some (some a) → cnts (xs.take (i + 1)) = cnts (xs.take i) ++ [a] ∧ (cnts (xs.take (i + 1))).length = i + 1
  | [], _, _, _, e => by simp at e
  | none :: r, 0, a, _, e => by simp at e
  | some b :: r, 0, a, _, e => by
    simp at e
    subst e
    simp [cnts]
  | none :: r, i + 1, a, h, _ => by simp [cnts] at h
  | some b :: r, i + 1, a, h, e => by
    simp only [List.take_succ_cons, cnts, List.length_cons] at h
    have := cnts_snoc (xs := r) (i := i) (a := a) (by omega) (by simpa using e)
    simp only [List.take_succ_cons, cnts, List.length_cons, List.cons_append]
    exact ⟨congrArg _ this.1, by omega⟩
theorem cnts_stop : ∀ {xs : List (Option Int)} {i : Nat}, (cnts (xs.take i)).length = i → xs[i]? = some none → cnts xs = cnts (xs.take i)
  | [], _, _, e => by simp at e
  | none :: r, 0, _, _ => rfl
  | some b :: r, 0, _, e => by simp at e
  | none :: r, i + 1, h, _ => by simp [cnts] at h
  | some b :: r, i + 1, h, e => by
    simp only [List.take_succ_cons, cnts, List.length_cons] at h
    have := cnts_stop (xs := r) (i := i) (by omega) (by simpa using e)
    simp only [List.take_succ_cons, cnts]
    rw [this]
abbrev N_until_never : List Str := ["values", "told", "value"]
theorem sc_until_never : FnScope N_until_never ["values"] (defScope s_until_never) := ⟨rfl, rfl, rfl, by decide +kernel, rfl, by decide +kernel, by decide +kernel⟩
theorem ok_until_never {P : Program} {w : World} {K : PySem.W.Frag} {mg : Str → Option Value} {base : Heap} (E : Env P K mg) : Fn P w K mg base CX0 1 "until_never" (sp1 fun v H Q _ => ∃ a xs, v = .ref a ∧ SqL K H a (xs.map optV) ∧ xs.length ≤ 60000 ∧ ∀ p H', H p = none → Ex H H' → H' p = some (.lst (vI (cnts xs))) → Q (.ref p) H') := by
  obtain ⟨fd, F⟩ := E.dd_until_never
  refine Fn.mk0 F E.g_until_never sc_until_never sp1_len (fun _ _ _ _ _ _ us hl => match us, hl with | [_], _ => rfl) (fun cdv A outer s H vs Q X hr h => ?_)
  have nd := sc_until_never.nd
  obtain ⟨v0, rfl, h⟩ := h
  refine ⟨_, (pss_cons (ps_set (i := 1) nd rfl (.inl rfl) (pe_lst (pa_nil)))
  (pss_cut (ps_for PassesOwn.never rfl (kSeq K (pv 0)) (pg_name (i := 2) nd rfl (.inl rfl))
   (pss_cons (ps_if (pt_cmpR xIs (pv 2) (pe_non) (nomark _))
   (pss_one (ps_break))
   pss_nil)
  (pss_one (ps_expr (kBM K (pe_bm PySem.F.plainAttrs_list PySem.F.slot_list_append PySem.F.type_list_append mt_append (pv 1) (pa_cons (pv 2) pa_nil)))))))
  (pss_one (ps_ret (pv 1))))), ?_⟩
  change (_ : TS) _ [some v0, none, none] H
  try dsimp only [cxOf, Cx.nox, Cx.blk]
  obtain ⟨a, xs, rfl, hx, hz, k⟩ := h
  walk_at "w"
  intro p H1 n1 e1 h1
  walk_at "w"
  refine w_cut (M := fun σ' H' => ∃ v, σ' = [some (.ref a), some (.ref p), v] ∧ Ex H H' ∧ H' p = some (.lst (vI (cnts xs)))) ?_ ?_
  · walk_at "w"
    refine i_seqL ?_
    walk_at "w"
    refine for_list (xs := xs.map optV) (Pv := fun i σ' H' => ∃ v, σ' = [some (.ref a), some (.ref p), v] ∧ Ex H H' ∧ H' p = some (.lst (vI (cnts (xs.take i)))) ∧ (cnts (xs.take i)).length = i) ⟨_, rfl, e1, h1, rfl⟩ (fun _ _ H' _ q => by obtain ⟨_, _, e, _⟩ := q; exact ex_l e hx) ?_ ?_
    · rintro i y σ' H' hi ⟨v, rfl, e, g, hl⟩
      rw [List.getElem?_map] at hi
      obtain ⟨o, ho, rfl⟩ : ∃ o, xs[i]? = some o ∧ optV o = y := by
        cases q : xs[i]? with
        | none => rw [q] at hi; cases hi
        | some o => rw [q] at hi; exact ⟨o, rfl, Option.some.inj hi⟩
      have hlt := (List.getElem?_eq_some_iff.mp ho).1
      cases o with
      | none =>
        simp only [optV]
        walk_at "w"
        exact ⟨_, rfl, e, by rw [cnts_stop hl ho]; exact g⟩
      | some c =>
        simp only [optV]
        obtain ⟨q1, q2⟩ := cnts_snoc hl ho
        walk_at "w"
        have hs : SqL K H' p (vI (cnts (xs.take i))) := sq_of g
        walk_at "w"
        refine r_app (K := K) g (sz_lt (by rw [List.length_map]; omega)) ?_
        walk_at "w"
        refine ⟨_, rfl, Ex.mut e n1, ?_, q2⟩
        rw [q1, show vI (cnts (xs.take i) ++ [c]) = vI (cnts (xs.take i)) ++ [V.int c] from List.map_append ..]
        exact upd_same
    · rintro σ' H' ⟨v, rfl, e, g, hl⟩
      walk_at "w"
      rw [List.length_map, List.take_length] at g
      exact ⟨_, rfl, e, g⟩
  rintro σ' H' ⟨v, rfl, e, g⟩
  walk_at "w"
  exact k p H' n1 e g

end
section
theorem fr_tab {K : PySem.W.Frag} {a x : Addr} {H H' : Hp} {h l : List Int} {r : Int} (f : Fr a H H') (s : SrcAt H a) (t : TabAt K H x h l r) : TabAt K H' x h l r := by
  obtain ⟨dx, th, tl, h1, h2, h3⟩ := t
  refine ⟨dx, th, tl, f x _ ?_ h1, fr_t f s h2, fr_t f s h3⟩
  rintro rfl
  obtain ⟨d, sd, c, q, _⟩ := s
  rw [h1] at q
  cases q
theorem valueAt_nn {h l : List Int} {r : Int} (ph : allPos h) (pl : allPos l) (hr : 0 ≤ r) (o : Option Int) : ∀ i, valueAt h l r o = some i → 0 ≤ i := by
  intro i e
  cases o with
  | none =>
    have e : endOf l r = some i := e
    unfold endOf at e
    split at e
    · cases e
    · cases e; exact gI_nn pl _
  | some p =>
    have e : vat h l r p = some i := e
    unfold vat at e
    split at e
    · cases e; exact Int.le_refl _
    · split at e
      · cases e; exact gI_nn ph _
      · split at e
        · cases e
        · rename_i c1 c2 _
          cases e
          exact Int.add_nonneg (gI_nn pl _) (Int.mul_nonneg hr (Int.ediv_nonneg (by omega) (by omega)))
theorem dp_toOpt {K : PySem.W.Frag} {H : Hp} {v : V} {o : Option Int} (h : Dp K H v (dOpt o)) : v = optV o := by
  cases o with
  | none => exact dp_toNon h
  | some i => exact dp_toInt h
theorem w_lstRg {K : PySem.W.Frag} {n : Int} {σ : L2.St} {H : Hp} {Q : VK} (ok : RgOk 0 n) (q : ∀ p H1, H p = none → Ex H H1 → H1 p = some (.lst (rgV 0 n)) → Q (.ref p) H1) : tLstRg (tRg1 (tC (.int n))) σ H Q := ⟨n, rfl, ok, fun p hp => q p _ hp (Ex.new hp) upd_same⟩
theorem src_fr {x y : Addr} {H H' : Hp} (n : x ≠ y) (f : Fr y H H') (q : SrcAt H x) : SrcAt H' x := by
  obtain ⟨d, s, c, w1, w2⟩ := q
  exact ⟨d, s, c, f _ _ n w1, w2⟩
theorem l_fr {K : PySem.W.Frag} {a x : Addr} {H0 H H' : Hp} {xs : List V} (f : Fr x H H') (s0 : SqL K H0 a xs) (n : H0 x = none) (s : SqL K H a xs) : SqL K H' a xs := by
  rcases s0 with s0 | s0
  · have hne : a ≠ x := by
      rintro rfl
      rcases s0 with q | ⟨o', q⟩ <;> rw [n] at q <;> cases q
    rcases s with s | s
    · rcases s with q | ⟨o', q⟩
      · exact .inl (.inl (f _ _ hne q))
      · exact .inl (.inr ⟨o', f _ _ hne q⟩)
    · exact .inr s
  · exact .inr s0

end
section
abbrev N_formed : List Str := ["values", "many", "rise", "cut"]
theorem sc_formed : FnScope N_formed ["values", "many", "rise"] (defScope s_formed) := ⟨rfl, rfl, rfl, by decide +kernel, rfl, by decide +kernel, by decide +kernel⟩
theorem ok_formed {P : Program} {w : World} {K : PySem.W.Frag} {mg : Str → Option Value} {base : Heap} (E : Env P K mg) : Fn P w K mg base CX0 4 "formed" (sp3 fun v m r H Q _ => ∃ (a : Addr) (xs : List Int) (c s : Nat) (d : Int), v = .ref a ∧ m = .int s ∧ r = .int d ∧ SqL K H a (vI xs) ∧ xs.length = c + s ∧ 0 ≤ d ∧ RSm (xs.take c) (xs.drop c) d ∧ RetD K (dPl (xs.take c) (xs.drop c) d) H Q) := by
  obtain ⟨fd, F⟩ := E.dd_formed
  refine Fn.mk0 F E.g_formed sc_formed sp3_len (fun _ _ _ _ _ _ us hl => match us, hl with | [_, _, _], _ => rfl) (fun cdv A outer s H vs Q X hr h => ?_)
  have nd := sc_formed.nd
  obtain ⟨v0, v1, v2, rfl, h⟩ := h
  refine ⟨_, (pss_cons (ps_set (i := 3) nd rfl (.inl rfl) (pe_op xSub (pe_callB (kLen K) (by rfl) E.f_len (by decide +kernel) (pa_cons (pv 0) pa_nil)) (pv 1)))
  (pss_one (ps_ret (pc (ok_plain_form E) hr (by decide) pass0 rfl (pa_cons (pe_callTy (kTup K) (by rfl) E.f_tuple (by decide +kernel) (pa_cons (pe_slice (kSl K) (pv 0) po_none (po_some (pv 3))) pa_nil)) (pa_cons (pe_callTy (kTup K) (by rfl) E.f_tuple (by decide +kernel) (pa_cons (pe_slice (kSl K) (pv 0) (po_some (pv 3)) po_none) pa_nil)) (pa_cons (pv 2) pa_nil))))))), ?_⟩
  change (_ : TS) _ [some v0, some v1, some v2, none] H
  try dsimp only [cxOf, Cx.nox, Cx.blk]
  obtain ⟨a, xs, c, s, d, rfl, rfl, rfl, hx, hl, hd, hR, k⟩ := h
  obtain ⟨z1, z2, z3, z4⟩ := id hR
  rw [List.length_take] at z3
  rw [List.length_drop] at z4
  have ec : (xs.length : Int) - s = c := by omega
  walk_at "w"
  rw [ec]
  walk_at "w"
  intro p1 H1 n1 e1 h1
  walk_at "w"
  intro p2 H2 e2 s2
  walk_at "w"
  intro p3 H3 n3 e3 h3
  walk_at "w"
  intro p4 H4 e4 s4
  rw [Int.toNat_natCast] at s2 s4
  walk_at "w"
  exact ⟨_, _, d, dp_of_ints (by walk_at "hp"), dp_of_ints s4, .int d, hd, hR, fun v H5 e5 d5 => k v H5 (by walk_at "ex") d5⟩
/-- the greater (lesser) one of two tables' values -/
def JV (g : Bool) (f1 f2 : Nat → Option Int) (j : Nat) : Option Int := jnO g (f1 j) (f2 j)
abbrev spJoinV (K : PySem.W.Frag) : Sp := sp4 fun a b c u H Q _ => ∃ (h1 l1 h2 l2 : List Int) (r1 r2 : Int) (g : Bool) (n : Nat), Dp K H a (dRaw h1 l1 r1) ∧ Dp K H b (dRaw h2 l2 r2) ∧ c = .bl g ∧ u = .int n ∧ n ≤ 60000 ∧ RSm h1 l1 r1 ∧ RSm h2 l2 r2 ∧
  ∀ p H', H p = none → Ex H H' → H' p = some (.lst ((List.range n).map fun j => optV (JV g (TV h1 l1 r1) (TV h2 l2 r2) j))) → Q (.ref p) H'

end
section
theorem topO_some (x y : Int) : topO (some x) (some y) = some (max x y) := by
  unfold topO leO
  by_cases h : x ≤ y
  · rw [if_pos (decide_eq_true h), Int.max_eq_right h]
  · rw [if_neg (by simpa using h), Int.max_eq_left (by omega)]
theorem lowO_some (x y : Int) : lowO (some x) (some y) = some (min x y) := by
  unfold lowO leO
  by_cases h : x ≤ y
  · rw [if_pos (decide_eq_true h), Int.min_eq_left h]
  · rw [if_neg (by simpa using h), Int.min_eq_right (by omega)]
theorem topO_none (x : Option Int) : topO x none = none ∧ topO none x = none := by cases x <;> exact ⟨rfl, rfl⟩
theorem lowO_none (x : Option Int) : lowO x none = x ∧ lowO none x = x := by cases x <;> exact ⟨rfl, rfl⟩
theorem jnO_some (g : Bool) (x y : Int) : jnO g (some x) (some y) = some (if g = true then max x y else min x y) := by
  unfold jnO
  cases g
  · exact lowO_some x y
  · exact topO_some x y
theorem leO_some {x y : Int} : leO (some x) (some y) = true ↔ x ≤ y := by unfold leO; exact decide_eq_true_iff
/-- values that do not fall and are no less than 0 -/
structure Gd (f : Nat → Option Int) : Prop where
  up : ∀ j, leO (f j) (f (j + 1)) = true
  nn : ∀ j v, f j = some v → 0 ≤ v
theorem jnO_mono {g : Bool} {a b c d : Option Int} (h1 : leO a c = true) (h2 : leO b d = true) : leO (jnO g a b) (jnO g c d) = true := by
  cases a with
  | none =>
    cases c with
    | some c => cases h1
    | none =>
      cases b with
      | none =>
        cases d with
        | some d => cases h2
        | none => cases g <;> rfl
      | some b =>
        cases d with
        | none => cases g <;> rfl
        | some d =>
          cases g
          · exact h2
          · rfl
  | some a =>
    cases b with
    | none =>
      cases d with
      | some d => cases h2
      | none =>
        cases c with
        | none => cases g <;> rfl
        | some c => cases g; exact h1; rfl
    | some b =>
      rw [jnO_some]
      cases c with
      | none =>
        cases d with
        | none => cases g <;> rfl
        | some d =>
          cases g
          · rw [leO_some] at h2
            show leO _ (some d) = true
            rw [leO_some, if_neg (by decide)]
            omega
          · rfl
      | some c =>
        rw [leO_some] at h1
        cases d with
        | none =>
          cases g
          · show leO _ (some c) = true
            rw [leO_some, if_neg (by decide)]
            omega
          · rfl
        | some d =>
          rw [leO_some] at h2
          rw [jnO_some, leO_some]
          cases g
          · rw [if_neg (by decide), if_neg (by decide)]; omega
          · rw [if_pos rfl, if_pos rfl]; omega
theorem jnO_val {g : Bool} {a b : Option Int} {v : Int} (h : jnO g a b = some v) : a = some v ∨ b = some v := by
  unfold jnO topO lowO at h
  cases g
  · rw [if_neg (by decide)] at h
    split at h
    · exact .inl h
    · exact .inr h
  · rw [if_pos rfl] at h
    split at h
    · exact .inr h
    · exact .inl h
theorem Gd.join {f1 f2 : Nat → Option Int} (g : Bool) (a : Gd f1) (b : Gd f2) : Gd (JV g f1 f2) :=
  ⟨fun j => jnO_mono (a.up j) (b.up j), fun j v h => (jnO_val h).elim (a.nn j v) (b.nn j v)⟩
theorem Gd.of {h l : List Int} {r : Int} (V : Val h l r) : Gd (TV h l r) := by
  by_cases hl : l = []
  · subst hl
    refine ⟨fun j => ?_, fun j v e => ?_⟩
    · unfold TV
      rw [if_pos rfl, if_pos rfl]
      by_cases c : j + 1 < h.length
      · rw [gI_get c, gI_get (show j < h.length by omega), leO_some]
        exact V.r1 j c
      · rw [List.getElem?_eq_none (show h.length ≤ j + 1 by omega)]
        cases h[j]? <;> rfl
    · unfold TV at e
      rw [if_pos rfl] at e
      exact V.p1 v (List.mem_of_getElem? e)
  · refine ⟨fun j => ?_, fun j v e => ?_⟩
    · unfold TV
      rw [if_neg hl, if_neg hl, leO_some]
      exact fV_up V hl j
    · unfold TV at e
      rw [if_neg hl] at e
      cases e
      exact fV_nn V j
theorem gd_none {f : Nat → Option Int} (a : Gd f) {n : Nat} (h : f n = none) : ∀ j, n ≤ j → f j = none := fun j hj => by
  obtain ⟨k, rfl⟩ := Nat.exists_eq_add_of_le hj
  clear hj
  induction k with
  | zero => exact h
  | succ k ih =>
    have := a.up (n + k)
    rw [ih] at this
    show f (n + k + 1) = none
    cases e : f (n + k + 1) with
    | none => rfl
    | some v => rw [e] at this; cases this
theorem cnts_get : ∀ {xs : List (Option Int)} {j : Nat}, (∀ i, xs[i]? = some none → ∀ k, i ≤ k → k < xs.length → xs[k]? = some none) → (cnts xs)[j]? = (xs[j]?).join
  | [], j, _ => by simp [cnts]
  | none :: r, j, h => by
    simp only [cnts]
    have := h 0 rfl j (Nat.zero_le _)
    by_cases c : j < (none :: r).length
    · rw [this c]; rfl
    · rw [List.getElem?_eq_none (l := none :: r) (by omega)]; rfl
  | some a :: r, 0, _ => by simp [cnts]
  | some a :: r, j + 1, h => by
    simp only [cnts, List.getElem?_cons_succ]
    exact cnts_get fun i hi k hik hk => by
      have := h (i + 1) (by simpa using hi) (k + 1) (by omega) (by simp; omega)
      simpa using this
theorem cnts_len (xs : List (Option Int)) : (cnts xs).length ≤ xs.length := by
  induction xs with
  | nil => exact Nat.le_refl _
  | cons o r ih =>
    cases o with
    | none => exact Nat.zero_le _
    | some a => exact Nat.succ_le_succ ih
/-- values that end make a table -/
theorem val_end {f : Nat → Option Int} (G : Gd f) {n : Nat} (hn : f n = none) (z : n ≤ 49999) : Val (cnts ((List.range (n + 1)).map f)) [] 0 ∧ (∀ j, TV (cnts ((List.range (n + 1)).map f)) [] 0 j = f j) ∧ (cnts ((List.range (n + 1)).map f)).length ≤ n := by
  have hg : ∀ j, (cnts ((List.range (n + 1)).map f))[j]? = f j := fun j => by
    rw [cnts_get fun i hi k hik hk => by
      rw [List.getElem?_map] at hi ⊢
      rw [List.length_map, List.length_range] at hk
      rw [List.getElem?_range (by omega)] at hi
      rw [List.getElem?_range hk]
      have e : f i = none := Option.some.inj hi
      exact congrArg some (gd_none G e k hik)]
    rw [List.getElem?_map]
    by_cases c : j < n + 1
    · rw [List.getElem?_range c]
      show Option.join (some (f j)) = f j
      cases f j <;> rfl
    · rw [List.getElem?_eq_none (by rw [List.length_range]; omega), gd_none G hn j (by omega)]
      rfl
  generalize cnts ((List.range (n + 1)).map f) = h at *
  have hl : h.length ≤ n := by
    have := hg n
    rw [hn] at this
    exact List.getElem?_eq_none_iff.mp this
  refine ⟨⟨fun v hv => ?_, fun v hv => by simp at hv, fun i hi => ?_, fun i hi => by simp at hi, Int.le_refl _, fun _ => rfl, fun _ q => absurd rfl q, fun q => absurd rfl q, ⟨by decide, by decide, by omega, by decide⟩⟩, fun j => ?_, hl⟩
  · obtain ⟨i, hi, rfl⟩ := List.getElem_of_mem hv
    have := hg i
    rw [List.getElem?_eq_getElem hi] at this
    exact G.nn i _ this.symm
  · have a := hg i
    have b := hg (i + 1)
    rw [gI_get (by omega)] at a
    rw [gI_get hi] at b
    have := G.up i
    rw [← a, ← b, leO_some] at this
    exact this
  · unfold TV
    rw [if_pos rfl]
    exact hg j
/-- values that go on evenly make a table -/
theorem val_on {f : Nat → Option Int} (G : Gd f) {c s : Nat} {d : Int} {xs : List Int} (hs : 1 ≤ s) (hc : ∀ j, f j ≠ none) (per : ∀ j, c ≤ j → f (j + s) = (f j).map (· + d))
    (hx : xs.map some = (List.range (c + s)).map f) (zc : c ≤ 50000) (zs : s ≤ 50000) (zd : d < 1152921504606846976) :
    Val (xs.take c) (xs.drop c) d ∧ xs.drop c ≠ [] ∧ xs.length = c + s ∧ ∀ j, TV (xs.take c) (xs.drop c) d j = f j := by
  have hl : xs.length = c + s := by
    have := congrArg List.length hx
    rwa [List.length_map, List.length_map, List.length_range] at this
  have hv : ∀ j, f j = some ((f j).getD 0) := fun j => by
    cases e : f j with
    | none => exact absurd e (hc j)
    | some v => rfl
  obtain ⟨A, B, C⟩ := val_of (f := fun j => (f j).getD 0) (xs := xs) (c := c) (s := s) (d := d) (fun j => G.nn j _ (hv j)) (fun j => by
    have := G.up j
    rw [hv j, hv (j + 1), leO_some] at this
    exact this) hs (fun j hj => by
    have := per j hj
    rw [hv (j + s), hv j] at this
    exact Option.some.inj this) hl (fun k hk => by
    have := congrArg (fun l => l[k]?) hx
    simp only [List.getElem?_map] at this
    rw [List.getElem?_range hk, gI_get (by omega)] at this
    have e : some (gI xs k) = f k := Option.some.inj this
    rw [hv k] at e
    exact Option.some.inj e) zc zs zd
  refine ⟨A, B, hl, fun j => ?_⟩
  unfold TV
  rw [if_neg B, C, hv j]
  rfl

end
section
def slp (l : List Int) (r : Int) (m : Nat) : Int := r * ((m : Int) / l.length)
/-- by how much the flatter one of two tables is greater -/
def lkV (h1 l1 : List Int) (r1 : Int) (h2 l2 : List Int) (r2 : Int) (m : Nat) (j : Nat) : Int :=
  if slp l1 r1 m > slp l2 r2 m then fV h2 l2 r2 j - fV h1 l1 r1 j else fV h1 l1 r1 j - fV h2 l2 r2 j
/-- the least number of rounds behind which the steeper one is ahead -/
structure Steps (lk : Nat → Int) (S m : Nat) (ap : Int) (s : Nat) : Prop where
  z : ap = 0 → s = 0
  up : ap ≠ 0 → ∀ k, k < m → lk (S + k) ≤ s * ap
  lo : s = 0 ∨ ∃ k, k < m ∧ ((s : Int) - 1) * ap < lk (S + k)
theorem ceil_ok {x ap : Int} (hx : 0 < x) (ha : 0 < ap) : x ≤ (x + ap - 1) / ap * ap ∧ ((x + ap - 1) / ap - 1) * ap < x ∧ 1 ≤ (x + ap - 1) / ap := by
  have e := Int.emod_add_mul_ediv (x + ap - 1) ap
  have h0 := Int.emod_nonneg (x + ap - 1) (show ap ≠ 0 by omega)
  have h1 := Int.emod_lt_of_pos (x + ap - 1) ha
  have h2 : 1 ≤ (x + ap - 1) / ap := Int.le_ediv_of_mul_le ha (by omega)
  generalize (x + ap - 1) / ap = q at *
  rw [Int.mul_comm] at e
  refine ⟨by omega, ?_, h2⟩
  rw [Int.sub_mul]
  omega
theorem steps_go {lk : Nat → Int} {S i : Nat} {ap : Int} {s : Nat} (ha : 0 < ap) (up : ∀ k, k < i → lk (S + k) ≤ s * ap) (lo : s = 0 ∨ ∃ k, k < i ∧ ((s : Int) - 1) * ap < lk (S + k)) (hx : 0 < lk (S + i)) :
    ∃ s' : Nat, (s' : Int) = max (s : Int) ((lk (S + i) + ap - 1) / ap) ∧ (∀ k, k < i + 1 → lk (S + k) ≤ s' * ap) ∧ (s' = 0 ∨ ∃ k, k < i + 1 ∧ ((s' : Int) - 1) * ap < lk (S + k)) := by
  obtain ⟨c1, c2, c3⟩ := ceil_ok hx ha
  generalize (lk (S + i) + ap - 1) / ap = q at *
  rcases Int.le_total q s with h | h
  · refine ⟨s, (Int.max_eq_left h).symm, fun k hk => ?_, lo.imp id fun ⟨k, a, b⟩ => ⟨k, by omega, b⟩⟩
    by_cases e : k = i
    · subst e
      exact Int.le_trans c1 (Int.mul_le_mul_of_nonneg_right h (by omega))
    · exact up k (by omega)
  · refine ⟨q.toNat, by rw [Int.toNat_of_nonneg (by omega), Int.max_eq_right h], fun k hk => ?_, .inr ⟨i, by omega, by rw [Int.toNat_of_nonneg (by omega)]; exact c2⟩⟩
    rw [Int.toNat_of_nonneg (by omega)]
    by_cases e : k = i
    · subst e; exact c1
    · exact Int.le_trans (up k (by omega)) (Int.mul_le_mul_of_nonneg_right h (by omega))
theorem steps_stay {lk : Nat → Int} {S i : Nat} {ap : Int} {s : Nat} (ha : 0 < ap) (up : ∀ k, k < i → lk (S + k) ≤ s * ap) (lo : s = 0 ∨ ∃ k, k < i ∧ ((s : Int) - 1) * ap < lk (S + k)) (hx : ¬ 0 < lk (S + i)) :
    (∀ k, k < i + 1 → lk (S + k) ≤ s * ap) ∧ (s = 0 ∨ ∃ k, k < i + 1 ∧ ((s : Int) - 1) * ap < lk (S + k)) := by
  refine ⟨fun k hk => ?_, lo.imp id fun ⟨k, a, b⟩ => ⟨k, by omega, b⟩⟩
  by_cases e : k = i
  · subst e
    have := Int.mul_nonneg (show (0 : Int) ≤ s by omega) (show 0 ≤ ap by omega)
    omega
  · exact up k (by omega)
theorem slp_le {l : List Int} {r : Int} {m : Nat} (r0 : 0 ≤ r) (r1 : r ≤ 1000000000000) (hm : m ≤ 50000) : 0 ≤ slp l r m ∧ slp l r m ≤ 50000000000000000 := by
  unfold slp
  have a : 0 ≤ (m : Int) / l.length := Int.ediv_nonneg (by omega) (by omega)
  have b : (m : Int) / l.length ≤ m := Int.ediv_le_self _ (by omega)
  refine ⟨Int.mul_nonneg r0 a, ?_⟩
  have := Int.mul_le_mul r1 (show (m : Int) / l.length ≤ 50000 by omega) a (by omega)
  omega

end
section
theorem slp_mul {l : List Int} {r : Int} {m q : Nat} (hl : l ≠ []) (d : l.length ∣ m) : slp l r (m * q) = slp l r m * q := by
  have l0 : 0 < l.length := List.length_pos_iff.mpr hl
  obtain ⟨p, rfl⟩ := d
  unfold slp
  have e1 : ((l.length * p * q : Nat) : Int) / l.length = ((p * q : Nat) : Int) := by rw [Nat.mul_assoc, Int.natCast_mul, Int.mul_ediv_cancel_left _ (by omega)]
  have e2 : ((l.length * p : Nat) : Int) / l.length = (p : Int) := by rw [Int.natCast_mul, Int.mul_ediv_cancel_left _ (by omega)]
  rw [e1, e2, Int.natCast_mul, Int.mul_assoc]
theorem fV_per {h l : List Int} {r : Int} {m : Nat} (hl : l ≠ []) (d : l.length ∣ m) {j : Nat} (hj : h.length ≤ j) : fV h l r (j + m) = fV h l r j + slp l r m := by
  have l0 : 0 < l.length := List.length_pos_iff.mpr hl
  obtain ⟨p, rfl⟩ := d
  have P := (extL_per (r := r) hl).mulN p ((j : Int) - h.length)
  rw [fV_loop (by omega), fV_loop hj]
  unfold slp
  rw [Int.natCast_mul, Int.mul_ediv_cancel_left _ (by omega), ← P]
  congr 1
  rw [Int.natCast_add, Int.natCast_mul]
  omega
theorem fV_perN {h l : List Int} {r : Int} {m : Nat} (hl : l ≠ []) (d : l.length ∣ m) {j : Nat} (hj : h.length ≤ j) : ∀ t : Nat, fV h l r (j + m * t) = fV h l r j + slp l r m * t
  | 0 => by simp
  | t + 1 => by
    rw [Nat.mul_succ, show j + (m * t + m) = (j + m * t) + m by omega, fV_per hl d (by omega), fV_perN hl d hj t, Int.natCast_add, Int.mul_add]
    omega
section
variable {P : Nat}
/-- a pace of growth: by a in P places -/
def Slo (P : Nat) (f : Nat → Option Int) (a : Int) : Prop := ∃ c, ∀ j, c ≤ j → ∃ v, f j = some v ∧ f (j + P) = some (v + a)
theorem Slo.uniq {f : Nat → Option Int} {a b : Int} (x : Slo P f a) (y : Slo P f b) : a = b := by
  obtain ⟨c, hc⟩ := x
  obtain ⟨d, hd⟩ := y
  obtain ⟨u, h1, h2⟩ := hc (c + d) (by omega)
  obtain ⟨v, h3, h4⟩ := hd (c + d) (by omega)
  rw [h1] at h3
  cases h3
  rw [h2] at h4
  have := Option.some.inj h4
  omega
theorem Slo.tab {h l : List Int} {r : Int} (hl : l ≠ []) (d : l.length ∣ P) : Slo P (TV h l r) (slp l r P) := ⟨h.length, fun j hj => ⟨fV h l r j, by unfold TV; rw [if_neg hl], by unfold TV; rw [if_neg hl, fV_per hl d hj]⟩⟩
/-- from N on the steeper one is not less -/
def Sr (P N : Nat) (f g : Nat → Option Int) : Prop := ∀ a b, Slo P f a → Slo P g b → b < a → ∀ j, N ≤ j → ∀ u v, f j = some u → g j = some v → v ≤ u
/-- ended at N, or going on for ever -/
def Knd (P N : Nat) (f : Nat → Option Int) : Prop := (∀ j, N ≤ j → f j = none) ∨ ((∃ a, Slo P f a) ∧ ∀ j, f j ≠ none)
theorem jn_none {g : Bool} {a b : Option Int} (h : jnO g a b ≠ none) : g = true → a ≠ none ∧ b ≠ none := fun e => by
  subst e
  cases a with
  | none => exact absurd (topO_none b).2 h
  | some a =>
    cases b with
    | none => exact absurd (topO_none (some a)).1 h
    | some b => exact ⟨fun e => (by cases e), fun e => (by cases e)⟩
theorem jn_ex {g : Bool} {f1 f2 : Nat → Option Int} {N : Nat} (G1 : Gd f1) (G2 : Gd f2) (K1 : Knd P N f1) (K2 : Knd P N f2) (s12 : Sr P N f1 f2) (s21 : Sr P N f2 f1) :
    Knd P N (JV g f1 f2) ∧ ∀ a, Slo P (JV g f1 f2) a → ∀ j, N ≤ j → ∀ u, JV g f1 f2 j = some u → (f1 j = some u ∧ Slo P f1 a) ∨ (f2 j = some u ∧ Slo P f2 a) := by
  rcases K1 with E1 | ⟨⟨a1, S1⟩, n1⟩
  · rcases K2 with E2 | ⟨⟨a2, S2⟩, n2⟩
    · have e : ∀ j, N ≤ j → JV g f1 f2 j = none := fun j hj => by unfold JV; rw [E1 j hj, E2 j hj]; cases g <;> rfl
      exact ⟨.inl e, fun a _ j hj u h => by rw [e j hj] at h; cases h⟩
    · cases g with
      | true =>
        have e : ∀ j, N ≤ j → JV true f1 f2 j = none := fun j hj => by unfold JV; rw [E1 j hj]; exact (topO_none _).2
        exact ⟨.inl e, fun a _ j hj u h => by rw [e j hj] at h; cases h⟩
      | false =>
        have e : ∀ j, N ≤ j → JV false f1 f2 j = f2 j := fun j hj => by unfold JV; rw [E1 j hj]; exact (lowO_none _).2
        have sl : Slo P (JV false f1 f2) a2 := by
          obtain ⟨c, hc⟩ := S2
          exact ⟨c + N, fun j hj => by rw [e j (by omega), e (j + P) (by omega)]; exact hc j (by omega)⟩
        refine ⟨.inr ⟨⟨a2, sl⟩, fun j h => ?_⟩, fun a h j hj u hu => .inr ⟨by rw [← e j hj]; exact hu, (h.uniq sl) ▸ S2⟩⟩
        have : JV false f1 f2 (j + N) = none := gd_none (G1.join false G2) h (j + N) (by omega)
        rw [e _ (by omega)] at this
        exact n2 _ this
  · rcases K2 with E2 | ⟨⟨a2, S2⟩, n2⟩
    · cases g with
      | true =>
        have e : ∀ j, N ≤ j → JV true f1 f2 j = none := fun j hj => by unfold JV; rw [E2 j hj]; exact (topO_none _).1
        exact ⟨.inl e, fun a _ j hj u h => by rw [e j hj] at h; cases h⟩
      | false =>
        have e : ∀ j, N ≤ j → JV false f1 f2 j = f1 j := fun j hj => by unfold JV; rw [E2 j hj]; exact (lowO_none _).1
        have sl : Slo P (JV false f1 f2) a1 := by
          obtain ⟨c, hc⟩ := S1
          exact ⟨c + N, fun j hj => by rw [e j (by omega), e (j + P) (by omega)]; exact hc j (by omega)⟩
        refine ⟨.inr ⟨⟨a1, sl⟩, fun j h => ?_⟩, fun a h j hj u hu => .inl ⟨by rw [← e j hj]; exact hu, (h.uniq sl) ▸ S1⟩⟩
        have : JV false f1 f2 (j + N) = none := gd_none (G1.join false G2) h (j + N) (by omega)
        rw [e _ (by omega)] at this
        exact n1 _ this
    · have hv1 : ∀ j, ∃ v, f1 j = some v := fun j => by
        cases e : f1 j with
        | none => exact absurd e (n1 j)
        | some v => exact ⟨v, rfl⟩
      have hv2 : ∀ j, ∃ v, f2 j = some v := fun j => by
        cases e : f2 j with
        | none => exact absurd e (n2 j)
        | some v => exact ⟨v, rfl⟩
      have hJ : ∀ j, ∃ u v, f1 j = some u ∧ f2 j = some v ∧ JV g f1 f2 j = some (if g = true then max u v else min u v) := fun j => by
        obtain ⟨u, hu⟩ := hv1 j
        obtain ⟨v, hv⟩ := hv2 j
        exact ⟨u, v, hu, hv, by unfold JV; rw [hu, hv]; exact jnO_some g u v⟩
      have hne : ∀ j, JV g f1 f2 j ≠ none := fun j h => by
        obtain ⟨u, v, _, _, e⟩ := hJ j
        rw [e] at h
        cases h
      have one : ∀ {a : Int}, Slo P f1 a → (∀ j, N ≤ j → JV g f1 f2 j = f1 j) → Slo P (JV g f1 f2) a := fun {a} S e => by
        obtain ⟨c, hc⟩ := S
        exact ⟨c + N, fun j hj => by rw [e j (by omega), e (j + P) (by omega)]; exact hc j (by omega)⟩
      have two : ∀ {a : Int}, Slo P f2 a → (∀ j, N ≤ j → JV g f1 f2 j = f2 j) → Slo P (JV g f1 f2) a := fun {a} S e => by
        obtain ⟨c, hc⟩ := S
        exact ⟨c + N, fun j hj => by rw [e j (by omega), e (j + P) (by omega)]; exact hc j (by omega)⟩
      rcases Int.lt_trichotomy a1 a2 with h | h | h
      · have ge : ∀ j, N ≤ j → ∀ u v, f1 j = some u → f2 j = some v → u ≤ v := fun j hj u v hu hv => s21 a2 a1 S2 S1 h j hj v u hv hu
        cases g with
        | true =>
          have e : ∀ j, N ≤ j → JV true f1 f2 j = f2 j := fun j hj => by
            obtain ⟨u, v, hu, hv, hj'⟩ := hJ j
            rw [hj', hv, if_pos rfl, Int.max_eq_right (ge j hj u v hu hv)]
          exact ⟨.inr ⟨⟨a2, two S2 e⟩, hne⟩, fun a hs j hj u hu => .inr ⟨by rw [← e j hj]; exact hu, (hs.uniq (two S2 e)) ▸ S2⟩⟩
        | false =>
          have e : ∀ j, N ≤ j → JV false f1 f2 j = f1 j := fun j hj => by
            obtain ⟨u, v, hu, hv, hj'⟩ := hJ j
            rw [hj', hu, if_neg (by decide), Int.min_eq_left (ge j hj u v hu hv)]
          exact ⟨.inr ⟨⟨a1, one S1 e⟩, hne⟩, fun a hs j hj u hu => .inl ⟨by rw [← e j hj]; exact hu, (hs.uniq (one S1 e)) ▸ S1⟩⟩
      · subst h
        have sl : Slo P (JV g f1 f2) a1 := by
          obtain ⟨c, hc⟩ := S1
          obtain ⟨d, hd⟩ := S2
          refine ⟨c + d, fun j hj => ?_⟩
          obtain ⟨u, h1, h2⟩ := hc j (by omega)
          obtain ⟨v, h3, h4⟩ := hd j (by omega)
          refine ⟨if g = true then max u v else min u v, by unfold JV; rw [h1, h3]; exact jnO_some g u v, ?_⟩
          unfold JV
          rw [h2, h4, jnO_some]
          cases g
          · rw [if_neg (by decide), if_neg (by decide)]; congr 1; omega
          · rw [if_pos rfl, if_pos rfl]; congr 1; omega
        refine ⟨.inr ⟨⟨a1, sl⟩, hne⟩, fun a hs j hj u hu => ?_⟩
        rw [hs.uniq sl]
        exact (jnO_val hu).imp (fun e => ⟨e, S1⟩) fun e => ⟨e, S2⟩
      · have ge : ∀ j, N ≤ j → ∀ u v, f1 j = some u → f2 j = some v → v ≤ u := fun j hj u v hu hv => s12 a1 a2 S1 S2 h j hj u v hu hv
        cases g with
        | true =>
          have e : ∀ j, N ≤ j → JV true f1 f2 j = f1 j := fun j hj => by
            obtain ⟨u, v, hu, hv, hj'⟩ := hJ j
            rw [hj', hu, if_pos rfl, Int.max_eq_left (ge j hj u v hu hv)]
          exact ⟨.inr ⟨⟨a1, one S1 e⟩, hne⟩, fun a hs j hj u hu => .inl ⟨by rw [← e j hj]; exact hu, (hs.uniq (one S1 e)) ▸ S1⟩⟩
        | false =>
          have e : ∀ j, N ≤ j → JV false f1 f2 j = f2 j := fun j hj => by
            obtain ⟨u, v, hu, hv, hj'⟩ := hJ j
            rw [hj', hv, if_neg (by decide), Int.min_eq_right (ge j hj u v hu hv)]
          exact ⟨.inr ⟨⟨a2, two S2 e⟩, hne⟩, fun a hs j hj u hu => .inr ⟨by rw [← e j hj]; exact hu, (hs.uniq (two S2 e)) ▸ S2⟩⟩
/-- what is put together is sorted against a third one -/
theorem Sr.joinL {g : Bool} {f1 f2 f3 : Nat → Option Int} {N : Nat} (G1 : Gd f1) (G2 : Gd f2) (K1 : Knd P N f1) (K2 : Knd P N f2) (s12 : Sr P N f1 f2) (s21 : Sr P N f2 f1) (s13 : Sr P N f1 f3) (s23 : Sr P N f2 f3) : Sr P N (JV g f1 f2) f3 := by
  intro a b ha hb hab j hj u v hu hv
  rcases (jn_ex G1 G2 K1 K2 s12 s21).2 a ha j hj u hu with ⟨e, s⟩ | ⟨e, s⟩
  · exact s13 a b s hb hab j hj u v e hv
  · exact s23 a b s hb hab j hj u v e hv
theorem Sr.joinR {g : Bool} {f1 f2 f3 : Nat → Option Int} {N : Nat} (G1 : Gd f1) (G2 : Gd f2) (K1 : Knd P N f1) (K2 : Knd P N f2) (s12 : Sr P N f1 f2) (s21 : Sr P N f2 f1) (s31 : Sr P N f3 f1) (s32 : Sr P N f3 f2) : Sr P N f3 (JV g f1 f2) := by
  intro a b ha hb hab j hj u v hu hv
  rcases (jn_ex G1 G2 K1 K2 s12 s21).2 b hb j hj v hv with ⟨e, s⟩ | ⟨e, s⟩
  · exact s31 a b ha s hab j hj u v hu e
  · exact s32 a b ha s hab j hj u v hu e
theorem lkV_swap {h1 l1 h2 l2 : List Int} {r1 r2 : Int} {m : Nat} (h : slp l1 r1 m ≠ slp l2 r2 m) : lkV h1 l1 r1 h2 l2 r2 m = lkV h2 l2 r2 h1 l1 r1 m := by
  funext j
  unfold lkV
  by_cases c : slp l1 r1 m > slp l2 r2 m
  · rw [if_pos c, if_neg (by omega)]
  · rw [if_neg c, if_pos (by omega)]
/-- with enough rounds the flatter one is no more greater -/
theorem join_one {N : Nat} {h1 l1 h2 l2 : List Int} {r1 r2 : Int} {S m s : Nat} (hl1 : l1 ≠ []) (hl2 : l2 ≠ []) (z1 : h1.length ≤ S) (z2 : h2.length ≤ S) (zS : S ≤ N + 2 * P) (d1 : l1.length ∣ m) (d2 : l2.length ∣ m) (dm : m ∣ P)
    (hP : 0 < P) (s12 : Sr P N (TV h1 l1 r1) (TV h2 l2 r2)) (c : slp l1 r1 m > slp l2 r2 m) (st : Steps (lkV h1 l1 r1 h2 l2 r2 m) S m ((slp l1 r1 m - slp l2 r2 m).natAbs : Int) s) :
    S + s * m ≤ N + 2 * P ∧ ∀ j, S + s * m ≤ j → fV h2 l2 r2 j ≤ fV h1 l1 r1 j := by
  obtain ⟨q, hq⟩ := dm
  have m0 : 0 < m := Nat.pos_of_ne_zero fun e => by rw [e, Nat.zero_mul] at hq; omega
  have q0 : 0 < q := Nat.pos_of_ne_zero fun e => by rw [e, Nat.mul_zero] at hq; omega
  have m12 : m ≤ P := by
    rw [hq]
    exact Nat.le_mul_of_pos_right m q0
  have dv1 : l1.length ∣ P := hq ▸ Nat.dvd_trans d1 (Nat.dvd_mul_right m q)
  have dv2 : l2.length ∣ P := hq ▸ Nat.dvd_trans d2 (Nat.dvd_mul_right m q)
  obtain ⟨z, up, lo⟩ := st
  have eap : ((slp l1 r1 m - slp l2 r2 m).natAbs : Int) = slp l1 r1 m - slp l2 r2 m := by omega
  have lk : ∀ j, lkV h1 l1 r1 h2 l2 r2 m j = fV h2 l2 r2 j - fV h1 l1 r1 j := fun j => by unfold lkV; rw [if_pos c]
  have lkP : ∀ j t, S ≤ j → lkV h1 l1 r1 h2 l2 r2 m (j + m * t) = lkV h1 l1 r1 h2 l2 r2 m j - (slp l1 r1 m - slp l2 r2 m) * t := fun j t hj => by
    rw [lk, lk, fV_perN hl1 d1 (by omega), fV_perN hl2 d2 (by omega), Int.sub_mul]
    omega
  have big : ∀ j, N ≤ j → fV h2 l2 r2 j ≤ fV h1 l1 r1 j := fun j hj => by
    refine s12 _ _ (Slo.tab hl1 dv1) (Slo.tab hl2 dv2) ?_ j hj _ _ (by unfold TV; rw [if_neg hl1]) (by unfold TV; rw [if_neg hl2])
    rw [hq, slp_mul hl1 d1, slp_mul hl2 d2]
    exact Int.mul_lt_mul_of_pos_right c (by omega)
  rw [eap] at up lo
  refine ⟨?_, fun j hj => ?_⟩
  · rcases lo with e | ⟨k, hk, hlt⟩
    · rw [e]; omega
    · by_cases e : s = 0
      · rw [e]; omega
      · have := lkP (S + k) (s - 1) (by omega)
        rw [show ((s - 1 : Nat) : Int) = (s : Int) - 1 by omega, Int.mul_comm] at this
        have hb : S + k + m * (s - 1) < N := by
          rcases Nat.lt_or_ge (S + k + m * (s - 1)) N with h | h
          · exact h
          · have := big _ h
            have := lk (S + k + m * (s - 1))
            omega
        obtain ⟨t, rfl⟩ : ∃ t, s = t + 1 := ⟨s - 1, by omega⟩
        rw [show t + 1 - 1 = t by omega] at hb
        rw [Nat.add_mul, Nat.mul_comm t m]
        omega
  · have hk : (j - S) % m < m := Nat.mod_lt _ m0
    have hm : (j - S) % m + m * ((j - S) / m) = j - S := Nat.mod_add_div ..
    have ht : s ≤ (j - S) / m := (Nat.le_div_iff_mul_le m0).mpr (by omega)
    have e := lkP (S + (j - S) % m) ((j - S) / m) (by omega)
    rw [show S + (j - S) % m + m * ((j - S) / m) = j by omega, lk] at e
    have u := up (by omega) ((j - S) % m) hk
    have w := Int.mul_le_mul_of_nonneg_left (show (s : Int) ≤ (((j - S) / m : Nat) : Int) by omega) (show 0 ≤ slp l1 r1 m - slp l2 r2 m by omega)
    rw [Int.mul_comm] at u
    omega
/-- from where on two tables put together go on evenly -/
theorem join_main {N : Nat} {h1 l1 h2 l2 : List Int} {r1 r2 : Int} {S m s : Nat} (g : Bool) (hl1 : l1 ≠ []) (hl2 : l2 ≠ []) (z1 : h1.length ≤ S) (z2 : h2.length ≤ S) (zS : S ≤ N + 2 * P) (d1 : l1.length ∣ m) (d2 : l2.length ∣ m) (dm : m ∣ P)
    (hP : 0 < P) (s12 : Sr P N (TV h1 l1 r1) (TV h2 l2 r2)) (s21 : Sr P N (TV h2 l2 r2) (TV h1 l1 r1)) (st : Steps (lkV h1 l1 r1 h2 l2 r2 m) S m ((slp l1 r1 m - slp l2 r2 m).natAbs : Int) s) :
    S + s * m ≤ N + 2 * P ∧ (∀ j, S + s * m ≤ j → JV g (TV h1 l1 r1) (TV h2 l2 r2) (j + m) = (JV g (TV h1 l1 r1) (TV h2 l2 r2) j).map (· + (if g = true then max (slp l1 r1 m) (slp l2 r2 m) else min (slp l1 r1 m) (slp l2 r2 m)))) ∧ ∀ j, JV g (TV h1 l1 r1) (TV h2 l2 r2) j ≠ none := by
  have J : ∀ j, JV g (TV h1 l1 r1) (TV h2 l2 r2) j = some (if g = true then max (fV h1 l1 r1 j) (fV h2 l2 r2 j) else min (fV h1 l1 r1 j) (fV h2 l2 r2 j)) := fun j => by
    unfold JV TV
    rw [if_neg hl1, if_neg hl2]
    exact jnO_some g _ _
  refine and_assoc.mp ⟨?_, fun j h => by rw [J] at h; cases h⟩
  rcases Int.lt_trichotomy (slp l1 r1 m) (slp l2 r2 m) with c | c | c
  · rw [lkV_swap (by omega), show (slp l1 r1 m - slp l2 r2 m).natAbs = (slp l2 r2 m - slp l1 r1 m).natAbs by omega] at st
    obtain ⟨a, b⟩ := join_one hl2 hl1 z2 z1 zS d2 d1 dm hP s21 c st
    refine ⟨a, fun j hj => ?_⟩
    have p := b j hj
    have q := b (j + m) (by omega)
    rw [J, J, fV_per hl1 d1 (by omega), fV_per hl2 d2 (by omega)]
    show some _ = some _
    congr 1
    rw [fV_per hl1 d1 (by omega), fV_per hl2 d2 (by omega)] at q
    dsimp only
    cases g
    · rw [if_neg (by decide), if_neg (by decide), if_neg (by decide)]; omega
    · rw [if_pos rfl, if_pos rfl, if_pos rfl]; omega
  · have s0 := st.z (by rw [c, Int.sub_self]; rfl)
    subst s0
    refine ⟨by omega, fun j hj => ?_⟩
    rw [J, J, fV_per hl1 d1 (by omega), fV_per hl2 d2 (by omega)]
    show some _ = some _
    congr 1
    dsimp only
    cases g
    · rw [if_neg (by decide), if_neg (by decide), if_neg (by decide)]; omega
    · rw [if_pos rfl, if_pos rfl, if_pos rfl]; omega
  · obtain ⟨a, b⟩ := join_one hl1 hl2 z1 z2 zS d1 d2 dm hP s12 c st
    refine ⟨a, fun j hj => ?_⟩
    have p := b j hj
    have q := b (j + m) (by omega)
    rw [J, J, fV_per hl1 d1 (by omega), fV_per hl2 d2 (by omega)]
    rw [fV_per hl1 d1 (by omega), fV_per hl2 d2 (by omega)] at q
    show some _ = some _
    congr 1
    dsimp only
    cases g
    · rw [if_neg (by decide), if_neg (by decide), if_neg (by decide)]; omega
    · rw [if_pos rfl, if_pos rfl, if_pos rfl]; omega
end

end
section
section
variable {P : Nat}
/-- a table of the family: N bounds its head, its loop goes around in P -/
structure Cl (P N : Nat) (h l : List Int) (r : Int) : Prop where
  val : Val h l r
  zh : h.length ≤ N + 2 * P
  dv : l ≠ [] → l.length ∣ P
  sb : slp l r P ≤ 10000000000
  kd : l = [] → h.length ≤ N
theorem Cl.zl {N : Nat} {h l : List Int} {r : Int} (hP : 0 < P) (C : Cl P N h l r) : l.length ≤ P := by
  by_cases c : l = []
  · subst c; exact Nat.zero_le _
  · exact Nat.le_of_dvd hP (C.dv c)
theorem slp_ge {l : List Int} {r : Int} (hP : 0 < P) (hl : l ≠ []) (d : l.length ∣ P) (h0 : 0 ≤ r) : r ≤ slp l r P := by
  obtain ⟨q, hq⟩ := d
  have l0 : 0 < l.length := List.length_pos_iff.mpr hl
  have q0 : 0 < q := Nat.pos_of_ne_zero fun e => by rw [e, Nat.mul_zero] at hq; omega
  unfold slp
  rw [hq, Int.natCast_mul, Int.mul_ediv_cancel_left _ (by omega)]
  have := Int.mul_le_mul_of_nonneg_left (show (1 : Int) ≤ (q : Int) by omega) h0
  rwa [Int.mul_one] at this
theorem Cl.br {N : Nat} {h l : List Int} {r : Int} (hP : 0 < P) (C : Cl P N h l r) : r ≤ 10000000000 := by
  by_cases c : l = []
  · rw [C.val.e0 c]; decide
  · exact Int.le_trans (slp_ge hP c (C.dv c) C.val.r0) C.sb
theorem Cl.knd {N : Nat} {h l : List Int} {r : Int} (C : Cl P N h l r) : Knd P N (TV h l r) := by
  by_cases c : l = []
  · refine .inl fun j hj => ?_
    have := C.kd c
    unfold TV
    rw [if_pos c, List.getElem?_eq_none (by omega)]
  · exact .inr ⟨⟨_, Slo.tab c (C.dv c)⟩, fun j h => by unfold TV at h; rw [if_neg c] at h; cases h⟩
theorem cl_plain {N : Nat} {h l : List Int} {r : Int} (V : Val h l r) (zh : h.length ≤ N + 2 * P) (hl : l ≠ []) (d : l.length ∣ P) (sb : slp l r P ≤ 10000000000) :
    Cl P N (plainF h l r).1 (plainF h l r).2.1 (plainF h l r).2.2 := by
  obtain ⟨a, b, c, e, f⟩ := plainF_val V
  obtain ⟨f1, q, f2, f3⟩ := f hl
  have dd : (plainF h l r).2.1.length ∣ P := Nat.dvd_trans ⟨q, f2⟩ d
  refine ⟨a, by omega, fun _ => dd, ?_, fun q => absurd q f1⟩
  obtain ⟨p, hp⟩ := d
  have l0 : 0 < l.length := List.length_pos_iff.mpr hl
  have l1 : 0 < (plainF h l r).2.1.length := List.length_pos_iff.mpr f1
  have e1 : slp l r P = r * p := by
    unfold slp
    rw [hp, Int.natCast_mul, Int.mul_ediv_cancel_left _ (by omega)]
  have e2 : slp (plainF h l r).2.1 (plainF h l r).2.2 P = (plainF h l r).2.2 * (q * p : Nat) := by
    unfold slp
    rw [hp, f2, Nat.mul_assoc, Int.natCast_mul, Int.mul_ediv_cancel_left _ (by omega)]
  rw [e2, Int.natCast_mul, ← Int.mul_assoc, ← f3, ← e1]
  exact sb
theorem cl_self {N : Nat} {h l : List Int} {r : Int} (V : Val h l r) (zh : h.length ≤ N) (d : l ≠ [] → l.length ∣ P) (sb : slp l r P ≤ 10000000000) : Cl P N h l r := ⟨V, by omega, d, sb, fun _ => zh⟩
theorem cl_plain2 {N : Nat} {h l : List Int} {r : Int} (C : Cl P N h l r) : Cl P N (plainF h l r).1 (plainF h l r).2.1 (plainF h l r).2.2 := by
  by_cases c : l = []
  · subst c
    have r0 := C.val.e0 rfl
    subst r0
    rw [plainF_nil]
    exact C
  · exact cl_plain C.val C.zh c (C.dv c) C.sb
/-- what ends -/
theorem join_end {N : Nat} {f : Nat → Option Int} (G : Gd f) {n : Nat} (hn : f n = none) (zn : n ≤ N + 2 * P) (zP : P ≤ 2000) (zN : N ≤ 40000) (hN : ∀ j, N ≤ j → f j = none) :
    Cl P N (cnts ((List.range (n + 1)).map f)) [] 0 ∧ Pl f (cnts ((List.range (n + 1)).map f)) [] 0 := by
  obtain ⟨V, T, z⟩ := val_end G hn (by omega)
  refine ⟨⟨V, by omega, fun e => absurd rfl e, by show (0 : Int) * _ ≤ _; rw [Int.zero_mul]; decide, fun _ => ?_⟩, ⟨V, plainF_nil, T⟩⟩
  have := T N
  rw [hN N (Nat.le_refl _)] at this
  exact List.getElem?_eq_none_iff.mp this
/-- what goes on -/
theorem join_go {N : Nat} {f : Nat → Option Int} (G : Gd f) {xs : List Int} {S m : Nat} {d : Int} (m0 : 1 ≤ m) (dm : m ∣ P) (hc : ∀ j, f j ≠ none) (per : ∀ j, S ≤ j → f (j + m) = (f j).map (· + d))
    (hx : xs.map some = (List.range (S + m)).map f) (zS : S ≤ N + 2 * P) (hP : 0 < P) (zP : P ≤ 2000) (zN : N ≤ 40000) (d0 : 0 ≤ d) (sb : d * ((P / m : Nat) : Int) ≤ 10000000000) :
    RSm (xs.take S) (xs.drop S) d ∧ xs.length = S + m ∧ Cl P N (plainF (xs.take S) (xs.drop S) d).1 (plainF (xs.take S) (xs.drop S) d).2.1 (plainF (xs.take S) (xs.drop S) d).2.2 ∧
      Pl f (plainF (xs.take S) (xs.drop S) d).1 (plainF (xs.take S) (xs.drop S) d).2.1 (plainF (xs.take S) (xs.drop S) d).2.2 := by
  have zm : m ≤ P := Nat.le_of_dvd hP dm
  obtain ⟨q, hq⟩ := dm
  have q0 : 0 < q := Nat.pos_of_ne_zero fun e => by rw [e, Nat.mul_zero] at hq; omega
  have hdiv : P / m = q := by rw [hq, Nat.mul_div_cancel_left _ m0]
  rw [hdiv] at sb
  have zd : d ≤ 10000000000 := by
    have := Int.mul_le_mul_of_nonneg_left (show (1 : Int) ≤ (q : Int) by omega) d0
    rw [Int.mul_one] at this
    omega
  obtain ⟨V, ne, hl, T⟩ := val_on G m0 hc per hx (by omega) (by omega) (by omega)
  have e2 : (xs.drop S).length = m := by rw [List.length_drop]; omega
  have e1 : (xs.take S).length = S := by rw [List.length_take]; omega
  obtain ⟨a, b, c, _⟩ := plainF_val V
  refine ⟨V.sm, hl, cl_plain V (by omega) ne (e2 ▸ ⟨q, hq⟩) ?_, ⟨a, c, fun j => (b j).trans (T j)⟩⟩
  unfold slp
  rw [e2, hq, Int.natCast_mul, Int.mul_ediv_cancel_left _ (by omega)]
  exact sb
end

end
section
theorem len0 (l : List Int) : decide ((l.length : Int) = 0) = decide (l = []) := by
  cases l with
  | nil => rfl
  | cons x y =>
    have a : ¬ (((x :: y).length : Int) = 0) := by rw [List.length_cons]; omega
    have b : ¬ (x :: y = []) := fun h => by cases h
    rw [decide_eq_false a, decide_eq_false b]
theorem dp_two {K : PySem.W.Frag} {H : Hp} {ys : List V} {b1 b2 : Bool} (h : DpAll K H ys [.bool b1, .bool b2]) : ys = [.bl b1, .bl b2] := by
  cases h with
  | cons a r =>
    cases r with
    | cons b r =>
      cases r
      obtain rfl := dp_toBl a
      obtain rfl := dp_toBl b
      rfl
theorem dp_two_i {K : PySem.W.Frag} {H : Hp} {ys : List V} {b1 b2 : Int} (h : DpAll K H ys [.int b1, .int b2]) : ys = [.int b1, .int b2] := by
  cases h with
  | cons a r =>
    cases r with
    | cons b r =>
      cases r
      obtain rfl := dp_toInt a
      obtain rfl := dp_toInt b
      rfl
theorem tv_nil {h l : List Int} {r : Int} {j : Nat} (c : l = []) (hj : h.length ≤ j) : TV h l r j = none := by
  unfold TV
  rw [if_pos c, List.getElem?_eq_none hj]
theorem tv_some {h l : List Int} {r : Int} {j : Nat} (c : l ≠ []) : TV h l r j = some (fV h l r j) := by
  unfold TV
  rw [if_neg c]
theorem slp_self {l : List Int} {r : Int} (c : l ≠ []) : slp l r l.length = r := by
  have l0 : 0 < l.length := List.length_pos_iff.mpr c
  unfold slp
  rw [Int.ediv_self (by omega), Int.mul_one]
theorem slp_12 {l : List Int} {r : Int} : r * ((12 / l.length : Nat) : Int) = slp l r 12 := by
  unfold slp
  rw [Int.natCast_ediv]

end
section
theorem gI_map {l : List Int} {f : Int → Int} {i : Nat} (h : i < l.length) : gI (l.map f) i = f (gI l i) := by
  unfold gI
  rw [Int.toNat_natCast, List.getD_eq_getElem?_getD, List.getD_eq_getElem?_getD, List.getElem?_map, List.getElem?_eq_getElem h]
  rfl
theorem val_add {h l : List Int} {r r' m : Int} (V : Val h l r) (m0 : 0 ≤ m) (r0 : 0 ≤ r') (r1 : r' < 1152921504606846976) (e0 : l = [] → r' = 0) (ll : l ≠ [] → gI l (l.length - 1) ≤ gI l 0 + r') : Val h (l.map (· + m)) r' := by
  obtain ⟨z1, z2, z3, z4⟩ := V.sm
  have g0 : l ≠ [] → gI (l.map (· + m)) 0 = gI l 0 + m := fun c => gI_map (i := 0) (List.length_pos_iff.mpr c)
  refine ⟨V.p1, fun n hn => ?_, V.r1, fun i hi => ?_, r0, fun e => e0 (List.map_eq_nil_iff.mp e), fun c d => ?_, fun d => ?_, ⟨by omega, r1, z3, by rw [List.length_map]; exact z4⟩⟩
  · obtain ⟨k, hk, rfl⟩ := List.mem_map.mp hn
    have := V.p2 k hk
    omega
  · rw [List.length_map] at hi
    have := V.r2 i hi
    rw [show (i : Int) + 1 = ((i + 1 : Nat) : Int) by omega] at this ⊢
    rw [gI_map hi, gI_map (by omega)]
    omega
  · have c' : l ≠ [] := fun e => d (by rw [e]; rfl)
    rw [g0 c']
    have := V.hl c c'
    omega
  · have c' : l ≠ [] := fun e => d (by rw [e]; rfl)
    have l0 : 0 < l.length := List.length_pos_iff.mpr c'
    have := ll c'
    rw [g0 c', List.length_map, show (l.length : Int) - 1 = ((l.length - 1 : Nat) : Int) by omega, gI_map (by omega)]
    rw [show (l.length : Int) - 1 = ((l.length - 1 : Nat) : Int) by omega] at this
    omega
theorem val_half {h l : List Int} {r : Int} (V : Val h l r) (hl : l ≠ []) (rb : r + 1 < 1152921504606846976) : Val (h.map (· / 2)) l (r + 1) := by
  obtain ⟨z1, z2, z3, z4⟩ := V.sm
  have r0 := V.r0
  refine ⟨fun n hn => ?_, V.p2, fun i hi => ?_, V.r2, by omega, fun e => absurd e hl, fun c d => ?_, fun d => by have := V.ll d; omega, ⟨by omega, rb, by rw [List.length_map]; exact z3, z4⟩⟩
  · obtain ⟨k, hk, rfl⟩ := List.mem_map.mp hn
    have := V.p1 k hk
    omega
  · rw [List.length_map] at hi
    have := V.r1 i hi
    rw [show (i : Int) + 1 = ((i + 1 : Nat) : Int) by omega] at this ⊢
    rw [gI_map hi, gI_map (by omega)]
    omega
  · have c' : h ≠ [] := fun e => c (by rw [e]; rfl)
    have l0 : 0 < h.length := List.length_pos_iff.mpr c'
    have := V.hl c' d
    rw [List.length_map, show (h.length : Int) - 1 = ((h.length - 1 : Nat) : Int) by omega, gI_map (by omega)]
    rw [show (h.length : Int) - 1 = ((h.length - 1 : Nat) : Int) by omega] at this
    have := gI_nn V.p1 ((h.length - 1 : Nat) : Int)
    omega
def addV (m : Int) : V → V
  | .int n => .int (n + m)
  | x => x
def halfV : V → V
  | .int n => .int (n / 2)
  | x => x
theorem map_addV (l : List Int) (m : Int) : (vI l).map (addV m) = vI (l.map (· + m)) := by
  show (l.map V.int).map (addV m) = (l.map (· + m)).map V.int
  rw [List.map_map, List.map_map]
  rfl
theorem map_halfV (l : List Int) : (vI l).map halfV = vI (l.map (· / 2)) := by
  show (l.map V.int).map halfV = (l.map (· / 2)).map V.int
  rw [List.map_map, List.map_map]
  rfl

end
section
theorem leO_refl (a : Option Int) : leO a a = true := by
  cases a with
  | none => rfl
  | some v => exact leO_some.mpr (Int.le_refl _)
theorem leO_trans {a b c : Option Int} (h : leO a b = true) (h' : leO b c = true) : leO a c = true := by
  cases c with
  | none => cases a <;> rfl
  | some c =>
    cases b with
    | none => cases h'
    | some b =>
      cases a with
      | none => cases h
      | some a =>
        rw [leO_some] at h h' ⊢
        omega
theorem gd_mono {f : Nat → Option Int} (G : Gd f) {i j : Nat} (h : i ≤ j) : leO (f i) (f j) = true := by
  obtain ⟨d, rfl⟩ := Nat.exists_eq_add_of_le h
  clear h
  induction d with
  | zero => exact leO_refl _
  | succ d ih => exact leO_trans ih (G.up (i + d))
theorem fV_mono {h l : List Int} {r : Int} (V : Val h l r) (hl : l ≠ []) {i j : Nat} (c : i ≤ j) : fV h l r i ≤ fV h l r j := by
  have := gd_mono (Gd.of V) c
  rw [tv_some hl, tv_some hl, leO_some] at this
  exact this
/-- a settled table: the loop has one value -/
theorem settled {h l : List Int} (V : Val h l 0) (hl : l ≠ []) {j : Nat} (c : h.length ≤ j) : fV h l 0 j = gI l (l.length - 1) := by
  have l0 : 0 < l.length := List.length_pos_iff.mpr hl
  have e1 : fV h l 0 (h.length + (l.length - 1)) = gI l (l.length - 1) := by
    rw [fV_loop (by omega), show (((h.length + (l.length - 1) : Nat) : Int) - h.length) = ((l.length - 1 : Nat) : Int) by omega, extL_small (by omega)]
    congr 1
    omega
  have e0 : fV h l 0 h.length = gI l 0 := by
    rw [fV_loop (Nat.le_refl _), show ((h.length : Int) - h.length) = ((0 : Nat) : Int) by omega, extL_small l0]
    rfl
  have P : ∀ t : Nat, fV h l 0 (h.length + l.length * t) = gI l 0 := fun t => by
    rw [fV_perN hl (Nat.dvd_refl _) (Nat.le_refl _), e0, slp_self hl]
    omega
  have ll := V.ll hl
  have lo := fV_mono V hl (show h.length ≤ h.length + (l.length - 1) by omega)
  rw [e0, e1] at lo
  have hi := fV_mono V hl (show j ≤ h.length + l.length * j by
    have : j ≤ l.length * j := Nat.le_mul_of_pos_left j l0
    omega)
  have lw := fV_mono V hl c
  rw [P] at hi
  rw [e0] at lw
  omega
/-- values at greater places are no less; never is the greatest place -/
theorem at_mono {h l : List Int} {r : Int} (V : Val h l r) {p q : Option Int} (hp : ∀ i, p = some i → 0 ≤ i) (c : leO p q = true) : leO (valueAt h l r p) (valueAt h l r q) = true := by
  have z : ∀ h l r, vat h l r 0 = some 0 := fun h l r => by unfold vat; rw [if_pos rfl]
  cases p with
  | none =>
    cases q with
    | none => exact leO_refl _
    | some q => cases c
  | some i =>
    have i0 := hp i rfl
    cases q with
    | some k =>
      rw [leO_some] at c
      show leO (vat h l r i) (vat h l r k) = true
      by_cases ci : i = 0
      · subst ci
        rw [z]
        have nn := valueAt_nn V.p1 V.p2 V.r0 (some k)
        cases e : vat h l r k with
        | none => rfl
        | some v => exact leO_some.mpr (nn v e)
      · obtain ⟨a, rfl⟩ : ∃ a : Nat, i = (a : Int) + 1 := ⟨(i - 1).toNat, by omega⟩
        obtain ⟨b, rfl⟩ : ∃ b : Nat, k = (b : Int) + 1 := ⟨(k - 1).toNat, by omega⟩
        rw [vat_TV, vat_TV]
        exact gd_mono (Gd.of V) (by omega)
    | none =>
      show leO (vat h l r i) (endOf l r) = true
      unfold endOf
      split
      · cases vat h l r i <;> rfl
      · rename_i cc
        have hl : l ≠ [] := fun e => cc (.inl e)
        have r0 : r = 0 := by
          have := V.r0
          have : ¬ r > 0 := fun e => cc (.inr e)
          omega
        subst r0
        by_cases ci : i = 0
        · subst ci
          rw [z]
          exact leO_some.mpr (gI_nn V.p2 _)
        · obtain ⟨a, rfl⟩ : ∃ a : Nat, i = (a : Int) + 1 := ⟨(i - 1).toNat, by omega⟩
          rw [vat_TV, tv_some hl, leO_some, ← settled V hl (show h.length ≤ a + h.length by omega)]
          exact fV_mono V hl (by omega)
/-- the values of one table at the values of another one -/
def CV (h1 l1 : List Int) (r1 : Int) (g : Nat → Option Int) (j : Nat) : Option Int := valueAt h1 l1 r1 (g j)
theorem Gd.comp {h l : List Int} {r : Int} {g : Nat → Option Int} (V : Val h l r) (G : Gd g) : Gd (CV h l r g) :=
  ⟨fun j => at_mono V (G.nn j) (G.up j), fun j => valueAt_nn V.p1 V.p2 V.r0 (g j)⟩
/-- behind its head an ended or settled table has its end -/
theorem tv_end {h l : List Int} {r : Int} (V : Val h l r) (c : l = [] ∨ r = 0) {j : Nat} (hj : h.length ≤ j) : TV h l r j = endOf l r := by
  unfold endOf
  rcases c with c | c
  · rw [if_pos (.inl c)]
    exact tv_nil c hj
  · subst c
    by_cases hl : l = []
    · rw [if_pos (.inl hl)]
      exact tv_nil hl hj
    · rw [if_neg (by rintro (e | e); exact hl e; omega), tv_some hl, settled V hl hj]
/-- the loop goes on at numbers, too -/
theorem vat_add {h l : List Int} {r v : Int} (hl : l ≠ []) {e : Nat} (d : l.length ∣ e) (hv : (h.length : Int) < v) : vat h l r (v + e) = (vat h l r v).map (· + slp l r e) := by
  obtain ⟨a, rfl⟩ : ∃ a : Nat, v = (a : Int) + 1 := ⟨(v - 1).toNat, by omega⟩
  rw [show (a : Int) + 1 + e = ((a + e : Nat) : Int) + 1 by omega, vat_fV hl, vat_fV hl, fV_per hl d (by omega)]
  rfl
theorem vat_over {h : List Int} {r v : Int} (hv : (h.length : Int) < v) : vat h [] r v = none := by
  unfold vat
  rw [if_neg (by omega), if_neg (by omega), if_pos rfl]
/-- a steady table goes beyond every bound -/
theorem grows {h l : List Int} {r : Int} (V : Val h l r) (hl : l ≠ []) (hr : 0 < r) (b : Nat) : (b : Int) < fV h l r (h.length + l.length * (b + 1)) := by
  rw [fV_perN hl (Nat.dvd_refl _) (Nat.le_refl _), slp_self hl]
  have := fV_nn V h.length
  have := Int.mul_le_mul_of_nonneg_right (show (1 : Int) ≤ r by omega) (show (0 : Int) ≤ ((b + 1 : Nat) : Int) by omega)
  omega
/-- the steps of one loop through another one -/
theorem turns_ok {L1 : Nat} {r2 : Int} (h1 : 0 < L1) (h2 : 0 < r2) : ∃ t e : Nat, 0 < t ∧ t ∣ L1 ∧ ((L1 : Int) / (Int.gcd L1 r2 : Int)) = t ∧ r2 * t = ((L1 * e : Nat) : Int) ∧ r2 * t / L1 = e := by
  obtain ⟨n, rfl⟩ := Int.eq_ofNat_of_zero_le (show 0 ≤ r2 by omega)
  have hn : 0 < n := by omega
  have g0 : 0 < Nat.gcd L1 n := Nat.gcd_pos_of_pos_left n h1
  refine ⟨L1 / Nat.gcd L1 n, n / Nat.gcd L1 n, Nat.div_pos (Nat.le_of_dvd h1 (Nat.gcd_dvd_left ..)) g0, Nat.div_dvd_of_dvd (Nat.gcd_dvd_left ..), ?_, ?_, ?_⟩
  · show (L1 : Int) / ((Nat.gcd L1 n : Nat) : Int) = _
    rw [← Int.natCast_ediv]
  · rw [← Int.natCast_mul]
    congr 1
    rw [← Nat.mul_div_assoc _ (Nat.gcd_dvd_left ..), ← Nat.mul_div_assoc _ (Nat.gcd_dvd_right ..), Nat.mul_comm]
  · have e : (n : Int) * ((L1 / Nat.gcd L1 n : Nat) : Int) = ((L1 * (n / Nat.gcd L1 n) : Nat) : Int) := by
      rw [← Int.natCast_mul]
      congr 1
      rw [← Nat.mul_div_assoc _ (Nat.gcd_dvd_left ..), ← Nat.mul_div_assoc _ (Nat.gcd_dvd_right ..), Nat.mul_comm]
    rw [e, Int.natCast_mul, Int.mul_ediv_cancel_left _ (by omega)]

end
section
theorem vals_some {f : Nat → Option Int} (n : Nat) (hc : ∀ j, j < n → f j ≠ none) : (List.range n).map (fun j => optV (f j)) = vI ((List.range n).map fun j => (f j).getD 0) ∧ ((List.range n).map fun j => (f j).getD 0).map some = (List.range n).map f := by
  have hv : ∀ j, j < n → f j = some ((f j).getD 0) := fun j hj => by
    cases e : f j with
    | none => exact absurd e (hc j hj)
    | some v => rfl
  constructor
  · show _ = List.map V.int _
    rw [List.map_map]
    refine List.map_congr_left fun j hj => ?_
    rw [hv j (List.mem_range.mp hj)]
    rfl
  · rw [List.map_map]
    exact List.map_congr_left fun j hj => (hv j (List.mem_range.mp hj)).symm
theorem go_on {f : Nat → Option Int} (G : Gd f) {xs : List Int} {S m : Nat} {d : Int} (m0 : 1 ≤ m) (hc : ∀ j, f j ≠ none) (per : ∀ j, S ≤ j → f (j + m) = (f j).map (· + d))
    (hx : xs.map some = (List.range (S + m)).map f) (zS : S ≤ 50000) (zm : m ≤ 50000) (zd : d < 1152921504606846976) :
    RSm (xs.take S) (xs.drop S) d ∧ xs.length = S + m ∧ Pl f (plainF (xs.take S) (xs.drop S) d).1 (plainF (xs.take S) (xs.drop S) d).2.1 (plainF (xs.take S) (xs.drop S) d).2.2 ∧
      (plainF (xs.take S) (xs.drop S) d).1.length ≤ S ∧ (plainF (xs.take S) (xs.drop S) d).2.1.length ∣ m ∧ (plainF (xs.take S) (xs.drop S) d).2.2 ≤ d := by
  obtain ⟨V, ne, hl, T⟩ := val_on G m0 hc per hx zS zm zd
  have e2 : (xs.drop S).length = m := by rw [List.length_drop]; omega
  have e1 : (xs.take S).length = S := by rw [List.length_take]; omega
  obtain ⟨a, b, c, z, q⟩ := plainF_val V
  obtain ⟨n1, q, q1, q2⟩ := q ne
  refine ⟨V.sm, hl, ⟨a, c, fun j => (b j).trans (T j)⟩, by omega, ⟨q, by omega⟩, ?_⟩
  have q0 : 0 < q := Nat.pos_of_ne_zero fun e => by rw [e, Nat.mul_zero] at q1; omega
  have := Int.mul_le_mul_of_nonneg_left (show (1 : Int) ≤ (q : Int) by omega) a.r0
  rw [Int.mul_one] at this
  omega
theorem cnts_full {f : Nat → Option Int} {n : Nat} (hc : ∀ j, j < n → f j ≠ none) (hn : f n = none) : cnts ((List.range (n + 1)).map f) = (List.range n).map fun j => (f j).getD 0 := by
  have h1 : ∀ i, i ≤ n → (cnts (((List.range (n + 1)).map f).take i)).length = i ∧ cnts (((List.range (n + 1)).map f).take i) = (List.range i).map fun j => (f j).getD 0 := fun i hi => by
    induction i with
    | zero => exact ⟨rfl, rfl⟩
    | succ i ih =>
      obtain ⟨a, b⟩ := ih (by omega)
      have g : ((List.range (n + 1)).map f)[i]? = some (some ((f i).getD 0)) := by
        rw [List.getElem?_map, List.getElem?_range (by omega)]
        cases e : f i with
        | none => exact absurd e (hc i (by omega))
        | some v => exact congrArg some e
      obtain ⟨c, d⟩ := cnts_snoc a g
      exact ⟨d, by rw [c, b, List.range_succ, List.map_append]; rfl⟩
  obtain ⟨a, b⟩ := h1 n (Nat.le_refl _)
  rw [← b]
  refine cnts_stop a ?_
  rw [List.getElem?_map, List.getElem?_range (by omega), ← hn]
  rfl
/-- the first place from m on with a value above b -/
structure Beyond (f : Nat → Int) (m b p : Nat) : Prop where
  ge : m ≤ p
  hi : (b : Int) < f p
  lo : ∀ j, m ≤ j → j < p → f j ≤ b
theorem Beyond.le {f : Nat → Int} {m b p q : Nat} (B : Beyond f m b p) (h : m ≤ q) (hq : (b : Int) < f q) : p ≤ q := by
  by_cases c : q < p
  · have := B.lo q h c
    omega
  · omega
theorem tv_head {h l : List Int} {r : Int} {j : Nat} (c : j < h.length) : TV h l r j = some (gI h j) := by
  rw [← vat_TV]
  unfold vat
  rw [if_neg (by omega), if_pos (by omega), show (j : Int) + 1 - 1 = j by omega]
/-- what first * second is -/
structure Cmp (h1 l1 : List Int) (r1 : Int) (h2 l2 : List Int) (r2 : Int) (h l : List Int) (r : Int) : Prop where
  pl : Pl (CV h1 l1 r1 (TV h2 l2 r2)) h l r
  zh : h.length ≤ h2.length + l2.length * (h1.length + 1)
  dv : l ≠ [] → l.length = 1 ∨ (l1 ≠ [] ∧ l2 ≠ [] ∧ l.length ∣ l2.length * l1.length)
  br : r ≤ r1 * r2
theorem head_vals {h1 l1 h2 l2 : List Int} {r1 r2 : Int} (V2 : Val h2 l2 r2) (c : l2 = [] ∨ r2 = 0) : h2.map (fun n => optV (vat h1 l1 r1 n)) ++ [optV (valueAt h1 l1 r1 (endOf l2 r2))] = (List.range (h2.length + 1)).map fun j => optV (CV h1 l1 r1 (TV h2 l2 r2) j) := by
  have e : h2.map (fun n => optV (vat h1 l1 r1 n)) = (List.range h2.length).map fun j => optV (CV h1 l1 r1 (TV h2 l2 r2) j) := by
    refine List.ext_getElem (by rw [List.length_map, List.length_map, List.length_range]) fun i a b => ?_
    rw [List.length_map] at a
    rw [List.getElem_map, List.getElem_map, List.getElem_range]
    unfold CV
    rw [tv_head a]
    have := gI_get a
    rw [List.getElem?_eq_getElem a] at this
    rw [Option.some.inj this]
    rfl
  rw [e, List.range_succ, List.map_append]
  refine congrArg _ ?_
  show _ = [optV (CV h1 l1 r1 (TV h2 l2 r2) h2.length)]
  unfold CV
  rw [tv_end V2 c (Nat.le_refl _)]
/-- a second table that ends or settles -/
theorem cmp_none {h1 l1 h2 l2 : List Int} {r1 r2 : Int} (V1 : Val h1 l1 r1) (V2 : Val h2 l2 r2) (c : l2 = [] ∨ r2 = 0) (z : h2.length ≤ 40000) (e : valueAt h1 l1 r1 (endOf l2 r2) = none) :
    Cmp h1 l1 r1 h2 l2 r2 (cnts ((List.range (h2.length + 1)).map (CV h1 l1 r1 (TV h2 l2 r2)))) [] 0 := by
  have hn : CV h1 l1 r1 (TV h2 l2 r2) h2.length = none := by
    unfold CV
    rw [tv_end V2 c (Nat.le_refl _)]
    exact e
  obtain ⟨V, T, zl⟩ := val_end (Gd.comp V1 (Gd.of V2)) hn (by omega)
  exact ⟨⟨V, plainF_nil, T⟩, Nat.le_trans zl (Nat.le_add_right ..), fun e => absurd rfl e, Int.mul_nonneg V1.r0 V2.r0⟩
theorem cmp_set {h1 l1 h2 l2 : List Int} {r1 r2 : Int} {xs : List Int} (V1 : Val h1 l1 r1) (V2 : Val h2 l2 r2) (c : l2 = [] ∨ r2 = 0) (z : h2.length ≤ 40000) (e : valueAt h1 l1 r1 (endOf l2 r2) ≠ none)
    (hx : xs = (List.range (h2.length + 1)).map fun j => (CV h1 l1 r1 (TV h2 l2 r2) j).getD 0) :
    RSm (xs.take h2.length) (xs.drop h2.length) 0 ∧ xs.length = h2.length + 1 ∧ vI xs = (List.range (h2.length + 1)).map (fun j => optV (CV h1 l1 r1 (TV h2 l2 r2) j)) ∧
      Cmp h1 l1 r1 h2 l2 r2 (plainF (xs.take h2.length) (xs.drop h2.length) 0).1 (plainF (xs.take h2.length) (xs.drop h2.length) 0).2.1 (plainF (xs.take h2.length) (xs.drop h2.length) 0).2.2 := by
  have G := Gd.comp V1 (Gd.of V2)
  have he : ∀ j, h2.length ≤ j → CV h1 l1 r1 (TV h2 l2 r2) j = valueAt h1 l1 r1 (endOf l2 r2) := fun j hj => by
    unfold CV
    rw [tv_end V2 c hj]
  have hc : ∀ j, CV h1 l1 r1 (TV h2 l2 r2) j ≠ none := fun j h => by
    have := gd_none G h (j + h2.length) (by omega)
    rw [he _ (by omega)] at this
    exact e this
  obtain ⟨v1, v2⟩ := vals_some (h2.length + 1) fun j _ => hc j
  rw [← hx] at v1 v2
  obtain ⟨a, b, p, q, s, t⟩ := go_on G (Nat.le_refl 1) hc (d := 0) (fun j hj => by
    rw [he _ hj, he _ (by omega)]
    cases valueAt h1 l1 r1 (endOf l2 r2) with
    | none => rfl
    | some v => exact congrArg some (Int.add_zero v).symm) v2 (by omega) (by decide) (by decide)
  exact ⟨a, b, v1.symm, p, by omega, fun _ => .inl (Nat.dvd_one.mp s), Int.le_trans t (Int.mul_nonneg V1.r0 V2.r0)⟩
/-- a first table that ends -/
theorem cmp_cut {h1 l2 h2 : List Int} {r1 r2 : Int} {p : Nat} (V1 : Val h1 [] r1) (V2 : Val h2 l2 r2) (c : l2 ≠ []) (c2 : 0 < r2) (z : h2.length + l2.length * (h1.length + 1) ≤ 40000) (B : Beyond (fV h2 l2 r2) 0 h1.length p) :
    p ≤ 40000 ∧ (∀ j, j < p → CV h1 [] r1 (TV h2 l2 r2) j ≠ none) ∧ Cmp h1 [] r1 h2 l2 r2 ((List.range p).map fun j => (CV h1 [] r1 (TV h2 l2 r2) j).getD 0) [] 0 := by
  have zp := B.le (Nat.zero_le _) (grows V2 c c2 h1.length)
  have hn : CV h1 [] r1 (TV h2 l2 r2) p = none := by
    unfold CV
    rw [tv_some c]
    exact vat_over B.hi
  have hc : ∀ j, j < p → CV h1 [] r1 (TV h2 l2 r2) j ≠ none := fun j hj h => by
    have := B.lo j (Nat.zero_le _) hj
    have nn := fV_nn V2 j
    unfold CV at h
    rw [tv_some c] at h
    change vat h1 [] r1 _ = none at h
    unfold vat at h
    by_cases q : fV h2 l2 r2 j = 0
    · rw [if_pos q] at h; cases h
    · rw [if_neg q, if_pos this] at h; cases h
  obtain ⟨V, T, zl⟩ := val_end (Gd.comp V1 (Gd.of V2)) hn (by omega)
  rw [cnts_full hc hn] at V T zl
  exact ⟨by omega, hc, ⟨V, plainF_nil, T⟩, by omega, fun e => absurd rfl e, Int.mul_nonneg V1.r0 V2.r0⟩
/-- both go on -/
theorem cmp_go {h1 l1 h2 l2 : List Int} {r1 r2 : Int} {p t e : Nat} {xs : List Int} (V1 : Val h1 l1 r1) (V2 : Val h2 l2 r2) (c1 : l1 ≠ []) (c2 : l2 ≠ []) (hr : 0 < r2) (z : h2.length + l2.length * (h1.length + l1.length + 1) ≤ 40000)
    (z1 : r1 ≤ 1000000) (z2 : r2 ≤ 1000000) (B : Beyond (fV h2 l2 r2) h2.length h1.length p) (t0 : 0 < t) (dt : t ∣ l1.length) (he : r2 * t = ((l1.length * e : Nat) : Int))
    (hx : xs = (List.range (p + l2.length * t)).map fun j => (CV h1 l1 r1 (TV h2 l2 r2) j).getD 0) :
    RSm (xs.take p) (xs.drop p) (r1 * e) ∧ xs.length = p + l2.length * t ∧ vI xs = (List.range (p + l2.length * t)).map (fun j => optV (CV h1 l1 r1 (TV h2 l2 r2) j)) ∧ p ≤ 40000 ∧ l2.length * t ≤ 40000 ∧ 0 ≤ r1 * e ∧
      Cmp h1 l1 r1 h2 l2 r2 (plainF (xs.take p) (xs.drop p) (r1 * e)).1 (plainF (xs.take p) (xs.drop p) (r1 * e)).2.1 (plainF (xs.take p) (xs.drop p) (r1 * e)).2.2 := by
  have G := Gd.comp V1 (Gd.of V2)
  have zp := B.le (Nat.le_add_right ..) (grows V2 c2 hr h1.length)
  have l10 : 0 < l1.length := List.length_pos_iff.mpr c1
  have l20 : 0 < l2.length := List.length_pos_iff.mpr c2
  have zt : t ≤ l1.length := Nat.le_of_dvd l10 dt
  have zz : l2.length * (h1.length + l1.length + 1) = l2.length * (h1.length + 1) + l2.length * l1.length := by
    rw [← Nat.mul_add]
    congr 1
    omega
  have zlt : l2.length * t ≤ l2.length * l1.length := Nat.mul_le_mul_left _ zt
  have er : (e : Int) ≤ r2 := by
    have a : r2 * t ≤ r2 * l1.length := Int.mul_le_mul_of_nonneg_left (by omega) (by omega)
    rw [he, Int.natCast_mul, Int.mul_comm r2] at a
    exact Int.le_of_mul_le_mul_left a (by omega)
  have hc : ∀ j, CV h1 l1 r1 (TV h2 l2 r2) j ≠ none := fun j h => by
    unfold CV at h
    rw [tv_some c2] at h
    change vat h1 l1 r1 _ = none at h
    unfold vat at h
    split at h
    · cases h
    · split at h
      · cases h
      · first
          | cases h
          | (split at h; · (rename_i q; exact c1 q); · cases h)
  have m0 : 1 ≤ l2.length * t := Nat.mul_pos l20 t0
  have sl : slp l2 r2 (l2.length * t) = ((l1.length * e : Nat) : Int) := by
    rw [slp_mul c2 (Nat.dvd_refl _), slp_self c2, he]
  have sl1 : slp l1 r1 (l1.length * e) = r1 * e := by
    rw [slp_mul c1 (Nat.dvd_refl _), slp_self c1]
  have per : ∀ j, p ≤ j → CV h1 l1 r1 (TV h2 l2 r2) (j + l2.length * t) = (CV h1 l1 r1 (TV h2 l2 r2) j).map (· + r1 * e) := fun j hj => by
    have g := B.ge
    unfold CV
    rw [tv_some c2, tv_some c2, fV_per c2 ⟨t, rfl⟩ (by omega), sl]
    show vat h1 l1 r1 _ = (vat h1 l1 r1 _).map _
    have hi : (h1.length : Int) < fV h2 l2 r2 j := Int.lt_of_lt_of_le B.hi (fV_mono V2 c2 hj)
    rw [vat_add c1 ⟨e, rfl⟩ hi, sl1]
  obtain ⟨v1, v2⟩ := vals_some (p + l2.length * t) fun j _ => hc j
  rw [← hx] at v1 v2
  have d0 : 0 ≤ r1 * e := Int.mul_nonneg V1.r0 (by omega)
  have dle : r1 * e ≤ r1 * r2 := Int.mul_le_mul_of_nonneg_left er V1.r0
  have dz : r1 * r2 ≤ 1000000 * 1000000 := Int.mul_le_mul z1 z2 (by omega) (by decide)
  obtain ⟨a, b, q1, q2, q3, q4⟩ := go_on G m0 hc per v2 (by omega) (by omega) (by omega)
  exact ⟨a, b, v1.symm, by omega, by omega, d0, q1, by omega, fun _ => .inr ⟨c1, c2, Nat.dvd_trans q3 (Nat.mul_dvd_mul (Nat.dvd_refl _) dt)⟩, Int.le_trans q4 dle⟩

end
section
theorem jn_comm (g : Bool) (a b : Option Int) : jnO g a b = jnO g b a := by
  cases g <;> cases a <;> cases b <;> first | rfl | (rw [jnO_some, jnO_some]; congr 1; first | rw [if_neg (by decide), if_neg (by decide), Int.min_comm] | rw [if_pos rfl, if_pos rfl, Int.max_comm])
theorem jn_idem (g : Bool) (a : Option Int) : jnO g a a = a := by
  cases g <;> cases a <;> first | rfl | (rw [jnO_some]; congr 1; first | rw [if_neg (by decide), Int.min_self] | rw [if_pos rfl, Int.max_self])
theorem jnT_none (a : Option Int) : jnO true a none = none ∧ jnO true none a = none := topO_none a
theorem jnF_none (a : Option Int) : jnO false a none = a ∧ jnO false none a = a := lowO_none a
theorem jnT_some (x y : Int) : jnO true (some x) (some y) = some (max x y) := topO_some x y
theorem jnF_some (x y : Int) : jnO false (some x) (some y) = some (min x y) := lowO_some x y
theorem jn_assoc (g : Bool) (a b c : Option Int) : jnO g (jnO g a b) c = jnO g a (jnO g b c) := by
  cases g <;> cases a <;> cases b <;> cases c <;>
    simp only [(jnT_none _).1, (jnT_none _).2, (jnF_none _).1, (jnF_none _).2, jnT_some, jnF_some] <;> (congr 1; omega)
theorem jn_distT (a b c : Option Int) : jnO true a (jnO false b c) = jnO false (jnO true a b) (jnO true a c) := by
  cases a <;> cases b <;> cases c <;>
    simp only [(jnT_none _).1, (jnT_none _).2, (jnF_none _).1, (jnF_none _).2, jnT_some, jnF_some] <;> (congr 1; omega)
theorem jn_distF (a b c : Option Int) : jnO false a (jnO true b c) = jnO true (jnO false a b) (jnO false a c) := by
  cases a <;> cases b <;> cases c <;>
    simp only [(jnT_none _).1, (jnT_none _).2, (jnF_none _).1, (jnF_none _).2, jnT_some, jnF_some] <;> (congr 1; omega)
theorem jn_absT (a b : Option Int) : jnO true a (jnO false a b) = a := by
  cases a <;> cases b <;>
    simp only [(jnT_none _).1, (jnT_none _).2, (jnF_none _).1, (jnF_none _).2, jnT_some, jnF_some] <;> (congr 1; omega)
theorem jn_absF (a b : Option Int) : jnO false a (jnO true a b) = a := by
  cases a <;> cases b <;>
    simp only [(jnT_none _).1, (jnT_none _).2, (jnF_none _).1, (jnF_none _).2, jnT_some, jnF_some] <;> (congr 1; omega)

end
section
theorem leO_anti {a b : Option Int} (h : leO a b = true) (h' : leO b a = true) : a = b := by
  cases a <;> cases b
  · rfl
  · cases h
  · cases h'
  · rw [leO_some] at h h'
    congr 1
    omega
/-- the least count or never that no value exceeds -/
structure IsEnd (f : Nat → Option Int) (e : Option Int) : Prop where
  up : ∀ j, leO (f j) e = true
  lo : ∀ b, (∀ j, leO (f j) b = true) → leO e b = true
theorem IsEnd.uniq {f : Nat → Option Int} {a b : Option Int} (x : IsEnd f a) (y : IsEnd f b) : a = b := leO_anti (x.lo b y.up) (y.lo a x.up)
theorem leO_none {a : Option Int} : leO a none = true := by cases a <;> rfl
theorem end_of_tab {h l : List Int} {r : Int} (V : Val h l r) : IsEnd (TV h l r) (endOf l r) := by
  by_cases c : l = [] ∨ r = 0
  · refine ⟨fun j => ?_, fun b hb => ?_⟩
    · rw [← tv_end V c (show h.length ≤ j + h.length by omega)]
      exact gd_mono (Gd.of V) (by omega)
    · rw [← tv_end V c (Nat.le_refl _)]
      exact hb _
  · have hl : l ≠ [] := fun e => c (.inl e)
    have hr : 0 < r := by
      have := V.r0
      have : ¬ r = 0 := fun e => c (.inr e)
      omega
    have e : endOf l r = none := by
      unfold endOf
      rw [if_pos (.inr hr)]
    rw [e]
    refine ⟨fun j => leO_none, fun b hb => ?_⟩
    cases b with
    | none => rfl
    | some b =>
      have := grows V hl hr b.toNat
      have hh := hb (h.length + l.length * (b.toNat + 1))
      rw [tv_some hl, leO_some] at hh
      omega
theorem jn_le {g : Bool} {a b c : Option Int} : (leO (jnO g a b) c = true ↔ if g = true then leO a c = true ∧ leO b c = true else leO a c = true ∨ leO b c = true) := by
  cases c with
  | none => cases g <;> simp [leO_none]
  | some c =>
    cases g
    · cases a <;> cases b
      · simp [jnO, lowO, leO]
      · rw [(jnF_none _).2]; simp [leO]
      · rw [(jnF_none _).1]; simp [leO]
      · rw [jnO_some]
        simp only [leO_some]
        simp
        omega
    · cases a <;> cases b
      · simp [jnO, topO, leO]
      · rw [(jnT_none _).2]; simp [leO]
      · rw [(jnT_none _).1]; simp [leO]
      · rw [jnO_some]
        simp only [leO_some]
        simp
        omega
/-- ends go through both and either -/
theorem IsEnd.join {f g : Nat → Option Int} {a b : Option Int} (w : Bool) (F : Gd f) (G : Gd g) (x : IsEnd f a) (y : IsEnd g b) : IsEnd (JV w f g) (jnO w a b) := by
  refine ⟨fun j => jnO_mono (x.up j) (y.up j), fun c hc => ?_⟩
  cases w with
  | true =>
    have := fun j => (jn_le.mp (hc j))
    simp only [if_true] at this
    exact jn_le.mpr (by rw [if_pos rfl]; exact ⟨x.lo c fun j => (this j).1, y.lo c fun j => (this j).2⟩)
  | false =>
    refine jn_le.mpr ?_
    rw [if_neg (by decide)]
    by_cases q : ∀ j, leO (f j) c = true
    · exact .inl (x.lo c q)
    · refine .inr (y.lo c fun j => ?_)
      obtain ⟨i, hi⟩ := Classical.not_forall.mp q
      have := jn_le.mp (hc (i + j))
      rw [if_neg (by decide)] at this
      rcases this with h | h
      · exact absurd (leO_trans (gd_mono F (show i ≤ i + j by omega)) h) hi
      · exact leO_trans (gd_mono G (show j ≤ i + j by omega)) h
theorem leO_not {a b : Option Int} (h : ¬ leO a b = true) : leO b a = true := by
  cases a with
  | none => exact leO_none
  | some a =>
    cases b with
    | none => exact absurd rfl h
    | some b =>
      rw [leO_some] at h ⊢
      omega
/-- ends go through behind -/
theorem IsEnd.comp {h l : List Int} {r : Int} {g : Nat → Option Int} {e : Option Int} (V : Val h l r) (G : Gd g) (x : IsEnd g e) : IsEnd (CV h l r g) (valueAt h l r e) := by
  refine ⟨fun j => at_mono V (G.nn j) (x.up j), fun b hb => ?_⟩
  by_cases q : ∃ j, g j = e
  · obtain ⟨j, hj⟩ := q
    have := hb j
    unfold CV at this
    rwa [hj] at this
  · have e0 : e = none := by
      cases e with
      | none => rfl
      | some v =>
        have lt : ∀ j, leO (g j) (some (v - 1)) = true := fun j => by
          have h1 := x.up j
          cases gj : g j with
          | none => rw [gj] at h1; cases h1
          | some u =>
            rw [gj, leO_some] at h1
            rw [leO_some]
            have : u ≠ v := fun e => q ⟨j, by rw [gj, e]⟩
            omega
        have := x.lo _ lt
        rw [leO_some] at this
        omega
    subst e0
    refine (end_of_tab V).lo b fun j => ?_
    obtain ⟨i, hi⟩ : ∃ i, leO (some ((j : Int) + 1)) (g i) = true := by
      refine Classical.byContradiction fun n => ?_
      have : ∀ i, leO (g i) (some ((j : Int) + 1)) = true := fun i => leO_not fun h => n ⟨i, h⟩
      have := x.lo _ this
      cases this
    have := at_mono V (p := some ((j : Int) + 1)) (fun i hi => by cases hi; omega) hi
    rw [show valueAt h l r (some ((j : Int) + 1)) = TV h l r j from vat_TV j] at this
    exact leO_trans this (hb i)
/-- numbers of taken pieces: counts and never -/
def Cnt (p : Option Int) : Prop := ∀ i, p = some i → 0 ≤ i
theorem at_cases {p : Option Int} (hp : Cnt p) : p = none ∨ p = some 0 ∨ ∃ j : Nat, p = some ((j : Int) + 1) := by
  cases p with
  | none => exact .inl rfl
  | some i =>
    have := hp i rfl
    by_cases c : i = 0
    · subst c; exact .inr (.inl rfl)
    · exact .inr (.inr ⟨(i - 1).toNat, by congr 1; omega⟩)
theorem vat_zero (h l : List Int) (r : Int) : valueAt h l r (some 0) = some 0 := by
  show vat h l r 0 = _
  unfold vat
  rw [if_pos rfl]
/-- what is put together, at each place and at never -/
theorem join_at {w : Bool} {h1 l1 h2 l2 h l : List Int} {r1 r2 r : Int} (V1 : Val h1 l1 r1) (V2 : Val h2 l2 r2) (P : Pl (JV w (TV h1 l1 r1) (TV h2 l2 r2)) h l r) {p : Option Int} (hp : Cnt p) :
    valueAt h l r p = jnO w (valueAt h1 l1 r1 p) (valueAt h2 l2 r2 p) := by
  rcases at_cases hp with rfl | rfl | ⟨j, rfl⟩
  · have := end_of_tab P.val
    rw [show TV h l r = JV w (TV h1 l1 r1) (TV h2 l2 r2) from funext P.tv] at this
    exact this.uniq (IsEnd.join w (Gd.of V1) (Gd.of V2) (end_of_tab V1) (end_of_tab V2))
  · rw [vat_zero, vat_zero, vat_zero, jn_idem]
  · show vat _ _ _ _ = jnO w (vat _ _ _ _) (vat _ _ _ _)
    rw [vat_TV, vat_TV, vat_TV, P.tv]
    rfl
theorem comp_at {h1 l1 h2 l2 h l : List Int} {r1 r2 r : Int} (V1 : Val h1 l1 r1) (V2 : Val h2 l2 r2) (P : Pl (CV h1 l1 r1 (TV h2 l2 r2)) h l r) {p : Option Int} (hp : Cnt p) :
    valueAt h l r p = valueAt h1 l1 r1 (valueAt h2 l2 r2 p) := by
  rcases at_cases hp with rfl | rfl | ⟨j, rfl⟩
  · have := end_of_tab P.val
    rw [show TV h l r = CV h1 l1 r1 (TV h2 l2 r2) from funext P.tv] at this
    exact this.uniq (IsEnd.comp V1 (Gd.of V2) (end_of_tab V2))
  · rw [vat_zero, vat_zero, vat_zero]
  · show vat _ _ _ _ = valueAt h1 l1 r1 (vat _ _ _ _)
    rw [vat_TV, vat_TV, P.tv]
    rfl
/-- a table goes through both and either -/
theorem at_jn {w : Bool} {h l : List Int} {r : Int} (V : Val h l r) {p q : Option Int} (hp : Cnt p) (hq : Cnt q) : valueAt h l r (jnO w p q) = jnO w (valueAt h l r p) (valueAt h l r q) := by
  have key : ∀ {a b : Option Int}, leO a b = true → jnO w a b = if w = true then b else a := fun {a b} h => by
    unfold jnO topO lowO
    rw [if_pos h, if_pos h]
  by_cases c : leO p q = true
  · rw [key c, key (at_mono V hp c)]
    cases w <;> rfl
  · have c2 := leO_not c
    rw [jn_comm w p q, jn_comm w (valueAt h l r p), key c2, key (at_mono V hq c2)]
    cases w <;> rfl

end
section
abbrev N_first_beyond : List Str := ["raw", "least", "bound", "place", "value"]
theorem sc_first_beyond : FnScope N_first_beyond ["raw", "least", "bound"] (defScope s_first_beyond) := ⟨rfl, rfl, rfl, by decide +kernel, rfl, by decide +kernel, by decide +kernel⟩
theorem ok_first_beyond {P : Program} {w : World} {K : PySem.W.Frag} {mg : Str → Option Value} {base : Heap} (E : Env P K mg) : Fn P w K mg base CX0 3 "first_beyond" (sp3 fun a b c H Q _ => ∃ (h l : List Int) (r : Int) (m n : Nat), Dp K H a (dRaw h l r) ∧ b = .int m ∧ c = .int n ∧ l ≠ [] ∧ 0 < r ∧ Val h l r ∧ ∀ (p : Nat) H', Ex H H' → Beyond (fV h l r) m n p → Q (.int p) H') := by
  obtain ⟨fd, F⟩ := E.dd_first_beyond
  refine Fn.mk0 F E.g_first_beyond sc_first_beyond sp3_len (fun _ _ _ _ _ _ us hl => match us, hl with | [_, _, _], _ => rfl) (fun cdv A outer s H vs Q X hr h => ?_)
  have nd := sc_first_beyond.nd
  obtain ⟨v0, v1, v2, rfl, h⟩ := h
  refine ⟨_, (pss_cons (ps_set (i := 3) nd rfl (.inl rfl) (pv 1))
  (pss_one (ps_while PassesOwn.never (pt_val pe_bl)
   (pss_cons (ps_set (i := 4) nd rfl (.inl rfl) (pc (ok_value_at E) hr (by decide) pass0 rfl (pa_cons (pv 0) (pa_cons (pe_op (kAdd K) (pv 3) (pe_int)) pa_nil))))
  (pss_cons (ps_if (PW.pt (pw_or (pt_cmpR xIs (pv 4) (pe_non) (nomark _)) (pw_or1 (pt_cmpR op_gt (pv 4) (pv 2) (nomark _)))))
   (pss_one (ps_ret (pv 3)))
   pss_nil)
  (pss_one (ps_set (i := 3) nd rfl (.inl rfl) (pe_op (kAdd K) (pv 3) (pe_int))))))))), ?_⟩
  change (_ : TS) _ [some v0, some v1, some v2, none, none] H
  try dsimp only [cxOf, Cx.nox, Cx.blk]
  obtain ⟨h, l, r, m, n, d, rfl, rfl, hl, hr, W, k⟩ := h
  obtain ⟨a1, th, tl, rfl, s1, s2, s3⟩ := dp_raw d
  have B := grows W hl hr n
  generalize hM : h.length + l.length * (n + 1) = M at *
  walk_at "w"
  refine ⟨fun w σ' H' => ∃ (p : Nat) (x : Option V), σ' = [some (.ref a1), some (.int m), some (.int n), some (.int p), x] ∧ Ex H H' ∧ m ≤ p ∧ (∀ j, m ≤ j → j < p → fV h l r j ≤ n) ∧ w = M - p, ⟨M - m, m, _, rfl, Ex.refl _, Nat.le_refl _, fun j h1 h2 => by omega, rfl⟩, ?_⟩
  rintro w σ' H' ⟨p, x, rfl, e, hp, hlo, rfl⟩
  walk_at "w"
  refine ⟨_, fun σ2 H2 h2 => h2, ?_⟩
  walk_at "w"
  refine ⟨h, l, r, some ((p : Int) + 1), dp_of_raw (ex_t e s1) (ex_t e s2) (ex_t e s3), dp_of_opt (p := some _), fun i hi => by cases hi; omega, W.sm, fun v H2 e2 q2 => ?_⟩
  rw [show valueAt h l r (some ((p : Int) + 1)) = some (fV h l r p) from vat_fV hl _] at q2
  obtain rfl := dp_toOpt q2
  simp only [optV]
  walk_at "w"
  by_cases c : (n : Int) < fV h l r p
  · walk_at "w"
    exact k p _ (e.trans e2) ⟨hp, c, hlo⟩
  · walk_at "w"
    have c2 : p < M := by
      by_cases q : p < M
      · exact q
      · have := fV_mono W hl (show M ≤ p by omega)
        omega
    refine ⟨M - (p + 1), by omega, p + 1, _, rfl, e.trans e2, by omega, fun j h1 h2 => ?_, rfl⟩
    by_cases q : j = p
    · subst q; omega
    · exact hlo j h1 (by omega)
abbrev spBeh (K : PySem.W.Frag) : Sp := sp2 fun a b H Q _ => ∃ (h1 l1 h2 l2 : List Int) (r1 r2 : Int), Dp K H a (dRaw h1 l1 r1) ∧ Dp K H b (dRaw h2 l2 r2) ∧ Val h1 l1 r1 ∧ Val h2 l2 r2 ∧ h2.length + l2.length * (h1.length + l1.length + 1) ≤ 40000 ∧ r1 ≤ 1000000 ∧ r2 ≤ 1000000 ∧
  ∀ v H' h l r, Ex H H' → Dp K H' v (dRaw h l r) → Cmp h1 l1 r1 h2 l2 r2 h l r → Q v H'
theorem atI_last {α : Type} (xs : List α) (y : α) : atI (xs ++ [y]) (-1) = some y := by
  refine atI_neg (by decide) (by rw [List.length_append]; show -((xs.length + 1 : Nat) : Int) ≤ -1; omega) ?_
  rw [List.length_append, show ((-1 : Int) + ((xs.length + [y].length : Nat) : Int)).toNat = xs.length by show ((-1 : Int) + ((xs.length + 1 : Nat) : Int)).toNat = _; omega, List.getElem?_append_right (Nat.le_refl _), Nat.sub_self]
  rfl
def valV (h l : List Int) (r : Int) : V → V
  | .int n => optV (vat h l r n)
  | _ => .non
abbrev N_behind_raw : List Str := ["first", "second", "head", "loop", "rise", "last", "values", "own_head", "own_loop", "own_rise", "cut", "start", "turns", "many", "value", "place"]
theorem sc_behind_raw : FnScope N_behind_raw ["first", "second"] (defScope s_behind_raw) := ⟨rfl, rfl, rfl, by decide +kernel, rfl, by decide +kernel, by decide +kernel⟩
theorem ok_behind_raw {P : Program} {w : World} {K : PySem.W.Frag} {mg : Str → Option Value} {base : Heap} (E : Env P K mg) : Fn P w K mg base CX0 5 "behind_raw" (spBeh K) := by
  obtain ⟨fd, F⟩ := E.dd_behind_raw
  refine Fn.mk0 F E.g_behind_raw sc_behind_raw sp2_len (fun _ _ _ _ _ _ us hl => match us, hl with | [_, _], _ => rfl) (fun cdv A outer s H vs Q X hr h => ?_)
  have nd := sc_behind_raw.nd
  obtain ⟨v0, v1, rfl, h⟩ := h
  refine ⟨_, (pss_cons (ps_asg (pv 1) (kGtup K rfl (pgs_cons (pg_name (i := 2) nd rfl (.inl rfl)) (pgs_cons (pg_name (i := 3) nd rfl (.inl rfl)) (pgs_cons (pg_name (i := 4) nd rfl (.inl rfl)) (pgs_nil))))))
  (pss_cons (ps_if (PW.pt (pw_or (pt_cmpR (kEq K hr) (pe_callB (kLen K) (by rfl) E.f_len (by decide +kernel) (pa_cons (pv 3) pa_nil)) (pe_int) (nomark _)) (pw_or1 (pt_cmpR (kEq K hr) (pv 4) (pe_int) (nomark _)))))
   (pss_cons (ps_set (i := 5) nd rfl (.inl rfl) (pc (ok_end_of E) hr (by decide) pass0 rfl (pa_cons (pv 1) pa_nil)))
  (pss_cons (ps_setLc (i := 6) (own := [("value", 14)]) (g := gName 14) (tt := tYes) rfl nd rfl rfl (sw_true rfl rfl rfl (by decide +kernel)) (kSeq K (pv 2)) (blkOk_by (N := N_behind_raw) (sc := defScope s_behind_raw) (by decide +kernel)) (fun _ _ _ _ _ => pg_name (i := 14) nd rfl (Or.inl rfl)) (fun _ _ _ _ _ => pts_nil) (fun _ _ _ _ _ => pc (ok_value_at E) hr (by decide) pass0 rfl (pa_cons (pv 0) (pa_cons (pv 14) pa_nil))))
  (pss_cons (ps_set (i := 6) nd rfl (.inl rfl) (pe_op (kAdd K) (pv 6) (pe_lst (pa_cons (pc (ok_value_at E) hr (by decide) pass0 rfl (pa_cons (pv 0) (pa_cons (pv 5) pa_nil))) pa_nil))))
  (pss_cons (ps_if (pt_cmpR xIs (pe_ix (kIx K) (pv 6) (pe_un un_neg (pe_int)) (fun _ _ => rfl)) (pe_non) (nomark _))
   (pss_one (ps_ret (pe_tup (pa_cons (pe_callTy (kTup K) (by rfl) E.f_tuple (by decide +kernel) (pa_cons (pc (ok_until_never E) hr (by decide) pass0 rfl (pa_cons (pv 6) pa_nil)) pa_nil)) (pa_cons (pe_tup pa_nil) (pa_cons (pe_int) pa_nil))))))
   pss_nil)
  (pss_one (ps_ret (pc (ok_formed E) hr (by decide) pass0 rfl (pa_cons (pv 6) (pa_cons (pe_int) (pa_cons (pe_int) pa_nil))))))))))
   pss_nil)
  (pss_cons (ps_asg (pv 0) (kGtup K rfl (pgs_cons (pg_name (i := 7) nd rfl (.inl rfl)) (pgs_cons (pg_name (i := 8) nd rfl (.inl rfl)) (pgs_cons (pg_name (i := 9) nd rfl (.inl rfl)) (pgs_nil))))))
  (pss_cons (ps_if (pt_cmpR (kEq K hr) (pe_callB (kLen K) (by rfl) E.f_len (by decide +kernel) (pa_cons (pv 8) pa_nil)) (pe_int) (nomark _))
   (pss_cons (ps_set (i := 10) nd rfl (.inl rfl) (pc (ok_first_beyond E) hr (by decide) pass0 rfl (pa_cons (pv 1) (pa_cons (pe_int) (pa_cons (pe_callB (kLen K) (by rfl) E.f_len (by decide +kernel) (pa_cons (pv 7) pa_nil)) pa_nil)))))
  (pss_one (ps_ret (pe_tup (pa_cons (pe_callTy (kTup K) (by rfl) E.f_tuple (by decide +kernel) (pa_cons (pe_lc (own := [("place", 15)]) (g := gName 15) (tt := tYes) rfl nd (pi_range1 (by rfl) E.f_range (pa_cons (pv 10) pa_nil)) (blkOk_by (N := N_behind_raw) (sc := defScope s_behind_raw) (by decide +kernel)) (fun _ _ _ _ _ => pg_name (i := 15) nd rfl (Or.inl rfl)) (fun _ _ _ _ _ => pts_nil) (fun _ _ _ _ _ => pc (ok_value_at E) hr (by decide) pass0 rfl (pa_cons (pv 0) (pa_cons (pc (ok_value_at E) hr (by decide) pass0 rfl (pa_cons (pv 1) (pa_cons (pe_op (kAdd K) (pv 15) (pe_int)) pa_nil))) pa_nil)))) pa_nil)) (pa_cons (pe_tup pa_nil) (pa_cons (pe_int) pa_nil)))))))
   pss_nil)
  (pss_cons (ps_set (i := 11) nd rfl (.inl rfl) (pc (ok_first_beyond E) hr (by decide) pass0 rfl (pa_cons (pv 1) (pa_cons (pe_callB (kLen K) (by rfl) E.f_len (by decide +kernel) (pa_cons (pv 2) pa_nil)) (pa_cons (pe_callB (kLen K) (by rfl) E.f_len (by decide +kernel) (pa_cons (pv 7) pa_nil)) pa_nil)))))
  (pss_cons (ps_set (i := 12) nd rfl (.inl rfl) (pe_op xDiv (pe_callB (kLen K) (by rfl) E.f_len (by decide +kernel) (pa_cons (pv 8) pa_nil)) (pc (ok_common_divisor E) hr (by decide) pass0 rfl (pa_cons (pe_callB (kLen K) (by rfl) E.f_len (by decide +kernel) (pa_cons (pv 8) pa_nil)) (pa_cons (pv 4) pa_nil)))))
  (pss_cons (ps_set (i := 13) nd rfl (.inl rfl) (pe_op (kMul K) (pe_callB (kLen K) (by rfl) E.f_len (by decide +kernel) (pa_cons (pv 3) pa_nil)) (pv 12)))
  (pss_cons (ps_setLc (i := 6) (own := [("place", 15)]) (g := gName 15) (tt := tYes) rfl nd rfl rfl (sw_true rfl rfl rfl (by decide +kernel)) (pi_range1 (by rfl) E.f_range (pa_cons (pe_op (kAdd K) (pv 11) (pv 13)) pa_nil)) (blkOk_by (N := N_behind_raw) (sc := defScope s_behind_raw) (by decide +kernel)) (fun _ _ _ _ _ => pg_name (i := 15) nd rfl (Or.inl rfl)) (fun _ _ _ _ _ => pts_nil) (fun _ _ _ _ _ => pc (ok_value_at E) hr (by decide) pass0 rfl (pa_cons (pv 0) (pa_cons (pc (ok_value_at E) hr (by decide) pass0 rfl (pa_cons (pv 1) (pa_cons (pe_op (kAdd K) (pv 15) (pe_int)) pa_nil))) pa_nil))))
  (pss_one (ps_ret (pc (ok_formed E) hr (by decide) pass0 rfl (pa_cons (pv 6) (pa_cons (pv 13) (pa_cons (pe_op (kMul K) (pv 9) (pe_op xDiv (pe_op (kMul K) (pv 4) (pv 12)) (pe_callB (kLen K) (by rfl) E.f_len (by decide +kernel) (pa_cons (pv 8) pa_nil)))) pa_nil)))))))))))))), ?_⟩
  change (_ : TS) _ [some v0, some v1, none, none, none, none, none, none, none, none, none, none, none, none, none, none] H
  try dsimp only [cxOf, Cx.nox, Cx.blk]
  obtain ⟨h1, l1, h2, l2, r1, r2, d1, d2, V1, V2, zz, z1, z2, k⟩ := h
  obtain ⟨a1, th1, tl1, rfl, s1, s2, s3⟩ := dp_raw d1
  obtain ⟨a2, th2, tl2, rfl, t1, t2, t3⟩ := dp_raw d2
  have zz' : h2.length + l2.length * (h1.length + 1) ≤ 40000 := Nat.le_trans (Nat.add_le_add_left (Nat.mul_le_mul_left _ (by omega)) _) zz
  have zh2 : h2.length ≤ 40000 := Nat.le_trans (Nat.le_add_right ..) zz
  walk_at "w"
  by_cases c : l2 = [] ∨ r2 = 0
  · rcases Decidable.em (l2 = []) with q | q
    case' inl =>
      have q0 : l2.length = 0 := by rw [q]; rfl
      rw [if_pos (show decide ((l2.length : Int) = 0) = true from decide_eq_true (by omega)), if_pos rfl]
      walk_at "w"
      refine ⟨h2, l2, r2, dp_of_raw t1 t2 t3, fun v H1 e1 q1 => ?_⟩
      obtain rfl := dp_toOpt q1
    case' inr =>
      have q0 : 0 < l2.length := List.length_pos_iff.mpr q
      have q1 : r2 = 0 := c.resolve_left q
      rw [if_neg (show ¬ decide ((l2.length : Int) = 0) = true from fun h => by have := of_decide_eq_true h; omega)]
      walk_at "w"
      refine ⟨h2, l2, r2, dp_of_raw t1 t2 t3, fun v H1 e1 q1 => ?_⟩
      obtain rfl := dp_toOpt q1
    all_goals
      walk_at "w"
      refine i_seqT ?_
      walk_at "w"
      refine lcJ_tup (v := valV h1 l1 r1) (ex_t e1 t2) (by rw [List.length_map]; omega) (fun x => [_, _, _, _, _, _, _, _, _, _, _, _, _, _, some x, _]) (fun x => rfl) (fun x => rfl) (fun x H2 Q' e2 hx hq => ?_) (fun p2 H2 n2 e2 g2 => ?_)
      · obtain ⟨n, hn, rfl⟩ := List.mem_map.mp hx
        walk_at "w"
        have e12 := e1.trans e2
        refine ⟨h1, l1, r1, some n, dp_of_raw (ex_t e12 s1) (ex_t e12 s2) (ex_t e12 s3), dp_of_opt (p := some n), fun i hi => by cases hi; exact V2.p1 n hn, V1.sm, fun v H4 e4 q4 => ?_⟩
        obtain rfl := dp_toOpt q4
        exact hq _ e4
      · rw [List.map_map] at g2
        walk_at "w"
        have e12 := e1.trans e2
        refine ⟨h1, l1, r1, endOf l2 r2, dp_of_raw (ex_t e12 s1) (ex_t e12 s2) (ex_t e12 s3), dp_of_opt, valueAt_nn V2.p1 V2.p2 V2.r0 none, V1.sm, fun v H4 e4 q4 => ?_⟩
        obtain rfl := dp_toOpt q4
        walk_at "w"
        intro p5 H5 n5 e5 h5
        refine r_addL (e5 _ _ (e4 _ _ g2)) h5 (sz_of (show _ + 1 ≤ _ by rw [List.length_map]; omega)) fun p9 H9 n9 e9 h9 => ?_
        have hv := head_vals (h1 := h1) (l1 := l1) (r1 := r1) V2 c
        have hL : SqL K H9 p9 (h2.map (fun n => optV (vat h1 l1 r1 n)) ++ [optV (valueAt h1 l1 r1 (endOf l2 r2))]) := sq_of h9
        have hA : SqL K H9 p9 ((List.range (h2.length + 1)).map fun j => optV (CV h1 l1 r1 (TV h2 l2 r2) j)) := hv ▸ hL
        have e09 : Ex H H9 := ((e12.trans e4).trans e5).trans e9
        walk_at "w"
        refine r_ixL hL (atI_last _ _) ?_
        walk_at "w"
        by_cases ce : valueAt h1 l1 r1 (endOf l2 r2) = none
        · rw [ce]
          simp only [optV]
          walk_at "w"
          refine ⟨p9, (List.range (h2.length + 1)).map (CV h1 l1 r1 (TV h2 l2 r2)), rfl, by rw [List.map_map]; exact hA, by rw [List.length_map, List.length_range]; omega, fun p10 H10 n10 e10 h10 => ?_⟩
          walk_at "w"
          intro p11 H11 e11 s11
          walk_at "w"
          intro p12 H12 n12 e12 h12
          walk_at "w"
          intro p13 H13 n13 e13 h13
          exact k _ _ _ [] 0 (e09.trans (by walk_at "ex")) (dp_of_raw (st_of h13) (ex_t e13 (ex_t e12 s11)) (ex_t e13 (st_of h12))) (cmp_none V1 V2 c zh2 ce)
        · obtain ⟨w1, w2, w3, w4⟩ := cmp_set (xs := (List.range (h2.length + 1)).map fun j => (CV h1 l1 r1 (TV h2 l2 r2) j).getD 0) V1 V2 c zh2 ce rfl
          obtain ⟨vv, cv⟩ : ∃ vv, valueAt h1 l1 r1 (endOf l2 r2) = some vv := by
            cases q : valueAt h1 l1 r1 (endOf l2 r2) with
            | none => exact absurd q ce
            | some vv => exact ⟨vv, rfl⟩
          rw [cv]
          simp only [optV]
          walk_at "w"
          rw [← w3] at hA
          exact ⟨p9, _, h2.length, 1, 0, rfl, rfl, rfl, hA, w2, Int.le_refl _, w1, fun v H10 e10 d10 => k v H10 _ _ _ (e09.trans e10) d10 w4⟩
  · have c2 : l2 ≠ [] := fun e => c (.inl e)
    have hr : 0 < r2 := by
      have := V2.r0
      have : ¬ r2 = 0 := fun e => c (.inr e)
      omega
    have l20 : 0 < l2.length := List.length_pos_iff.mpr c2
    have hr0 : r2 ≠ 0 := by omega
    walk_at "w"
    by_cases c1 : l1 = []
    · subst c1
      have q0 : ([] : List Int).length = 0 := rfl
      rw [if_pos (show decide ((([] : List Int).length : Int) = 0) = true from rfl)]
      walk_at "w"
      refine ⟨h2, l2, r2, 0, h1.length, dp_of_raw t1 t2 t3, rfl, rfl, c2, hr, V2, fun p H1 e1 B => ?_⟩
      obtain ⟨zp, hc, C⟩ := cmp_cut V1 V2 c2 hr zz' B
      walk_at "w"
      refine lcJ_r0 (v := fun j => optV (CV h1 [] r1 (TV h2 l2 r2) j)) (by omega) (fun x => [_, _, _, _, _, _, _, _, _, _, _, _, _, _, _, some x]) (fun x => rfl) (fun x => rfl) (fun j H2 Q' e2 hj hq => ?_) (fun p2 H2 n2 e2 g2 => ?_)
      · walk_at "w"
        have e12 := e1.trans e2
        refine ⟨h2, l2, r2, some ((j : Int) + 1), dp_of_raw (ex_t e12 t1) (ex_t e12 t2) (ex_t e12 t3), dp_of_opt (p := some _), fun i hi => by cases hi; omega, V2.sm, fun v H3 e3 q3 => ?_⟩
        obtain rfl := dp_toOpt q3
        walk_at "w"
        have e13 := e12.trans e3
        refine ⟨h1, [], r1, valueAt h2 l2 r2 (some ((j : Int) + 1)), dp_of_raw (ex_t e13 s1) (ex_t e13 s2) (ex_t e13 s3), dp_of_opt, valueAt_nn V2.p1 V2.p2 V2.r0 _, V1.sm, fun v H4 e4 q4 => ?_⟩
        obtain rfl := dp_toOpt q4
        rw [show valueAt h2 l2 r2 (some ((j : Int) + 1)) = TV h2 l2 r2 j from vat_TV j]
        exact hq _ (e3.trans e4)
      · rw [Int.toNat_natCast, (vals_some p hc).1] at g2
        walk_at "w"
        intro p5 H5 e5 s5
        walk_at "w"
        intro p6 H6 n6 e6 h6
        walk_at "w"
        intro p7 H7 n7 e7 h7
        exact k _ _ _ [] 0 (by walk_at "ex") (dp_of_raw (st_of h7) (ex_t e7 (ex_t e6 s5)) (ex_t e7 (st_of h6))) C
    · have l10 : 0 < l1.length := List.length_pos_iff.mpr c1
      walk_at "w"
      refine ⟨h2, l2, r2, h2.length, h1.length, dp_of_raw t1 t2 t3, rfl, rfl, c2, hr, V2, fun p H1 e1 B => ?_⟩
      walk_at "w"
      refine ⟨l1.length, r2, rfl, rfl, by omega, by omega, ?_⟩
      obtain ⟨t, e, t0, dt, ht, he, he2⟩ := turns_ok l10 hr
      have g0 : (0 : Int) < Int.gcd l1.length r2 := by
        have := Int.gcd_pos_of_ne_zero_left r2 (show (l1.length : Int) ≠ 0 by omega)
        omega
      have zl1 : l1.length ≤ 40000 := by
        have := Nat.le_mul_of_pos_left (h1.length + l1.length + 1) l20
        omega
      have g1 : (Int.gcd l1.length r2 : Int) ≤ l1.length := Int.le_of_dvd (by omega) (Int.gcd_dvd_left ..)
      have C := fun xs => cmp_go (xs := xs) V1 V2 c1 c2 hr zz z1 z2 B t0 dt he
      obtain ⟨w1, w2, w3, w4, w5, w6, w7⟩ := C _ rfl
      have zt : t ≤ l1.length := Nat.le_of_dvd l10 dt
      have zl2 : l2.length ≤ 40000 := by
        have := Nat.le_mul_of_pos_right l2.length (show 0 < h1.length + l1.length + 1 by omega)
        omega
      have r10 := V1.r0
      have er : (e : Int) ≤ r2 := by
        have a : r2 * t ≤ r2 * l1.length := Int.mul_le_mul_of_nonneg_left (by omega) (by omega)
        rw [he, Int.natCast_mul, Int.mul_comm r2] at a
        exact Int.le_of_mul_le_mul_left a (by omega)
      walk_at "w"
      rw [ht]
      walk_at "w"
      rw [← Int.natCast_mul]
      generalize hm : l2.length * t = m at *
      refine lcJ_r0 (n := p + m) (v := fun j => optV (CV h1 l1 r1 (TV h2 l2 r2) j)) (by omega) (fun x => [_, _, _, _, _, _, _, _, _, _, _, _, _, _, _, some x]) (fun x => rfl) (fun x => rfl) (fun j H2 Q' e2 hj hq => ?_) (fun p2 H2 n2 e2 g2 => ?_)
      · walk_at "w"
        have e12 := e1.trans e2
        refine ⟨h2, l2, r2, some ((j : Int) + 1), dp_of_raw (ex_t e12 t1) (ex_t e12 t2) (ex_t e12 t3), dp_of_opt (p := some _), fun i hi => by cases hi; omega, V2.sm, fun v H3 e3 q3 => ?_⟩
        obtain rfl := dp_toOpt q3
        walk_at "w"
        have e13 := e12.trans e3
        refine ⟨h1, l1, r1, valueAt h2 l2 r2 (some ((j : Int) + 1)), dp_of_raw (ex_t e13 s1) (ex_t e13 s2) (ex_t e13 s3), dp_of_opt, valueAt_nn V2.p1 V2.p2 V2.r0 _, V1.sm, fun v H4 e4 q4 => ?_⟩
        obtain rfl := dp_toOpt q4
        rw [show valueAt h2 l2 r2 (some ((j : Int) + 1)) = TV h2 l2 r2 j from vat_TV j]
        exact hq _ (e3.trans e4)
      · rw [← w3] at g2
        walk_at "w"
        rw [he2]
        exact ⟨p2, _, p, m, r1 * e, rfl, rfl, rfl, sq_of g2, w2, w6, w1, fun v H3 e3 d3 => k v H3 _ _ _ ((e1.trans e2).trans e3) d3 w7⟩

end
section
theorem steps_goQ {lk : Nat → Int} {S i : Nat} {ap q : Int} {s : Nat} (ha : 0 < ap) (up : ∀ k, k < i → lk (S + k) ≤ s * ap) (lo : s = 0 ∨ ∃ k, k < i ∧ ((s : Int) - 1) * ap < lk (S + k)) (c1 : lk (S + i) ≤ q * ap) (c2 : (q - 1) * ap < lk (S + i)) (c3 : 1 ≤ q) :
    ∃ s' : Nat, (s' : Int) = max (s : Int) q ∧ (∀ k, k < i + 1 → lk (S + k) ≤ s' * ap) ∧ (s' = 0 ∨ ∃ k, k < i + 1 ∧ ((s' : Int) - 1) * ap < lk (S + k)) := by
  rcases Int.le_total q s with h | h
  · refine ⟨s, (Int.max_eq_left h).symm, fun k hk => ?_, lo.imp id fun ⟨k, a, b⟩ => ⟨k, by omega, b⟩⟩
    by_cases e : k = i
    · subst e
      exact Int.le_trans c1 (Int.mul_le_mul_of_nonneg_right h (by omega))
    · exact up k (by omega)
  · refine ⟨q.toNat, by rw [Int.toNat_of_nonneg (by omega), Int.max_eq_right h], fun k hk => ?_, .inr ⟨i, by omega, by rw [Int.toNat_of_nonneg (by omega)]; exact c2⟩⟩
    rw [Int.toNat_of_nonneg (by omega)]
    by_cases e : k = i
    · subst e; exact c1
    · exact Int.le_trans (up k (by omega)) (Int.mul_le_mul_of_nonneg_right h (by omega))
theorem ceil_okN {x ap : Int} (hx : 0 < x) (ha : 0 < ap) : x ≤ -(-x / ap) * ap ∧ (-(-x / ap) - 1) * ap < x ∧ 1 ≤ -(-x / ap) := by
  have e := Int.emod_add_mul_ediv (-x) ap
  have h0 := Int.emod_nonneg (-x) (show ap ≠ 0 by omega)
  have h1 := Int.emod_lt_of_pos (-x) ha
  have h2 : -x / ap < 0 := Int.ediv_neg_of_neg_of_pos (by omega) ha
  generalize -x / ap = q at *
  rw [Int.mul_comm] at e
  refine ⟨?_, ?_, by omega⟩
  · rw [Int.neg_mul]; omega
  · rw [Int.sub_mul, Int.neg_mul]; omega
abbrev N__law_counts : List Str := ["values", "told", "value"]
theorem sc__law_counts : FnScope N__law_counts ["values"] (defScope s__law_counts) := ⟨rfl, rfl, rfl, by decide +kernel, rfl, by decide +kernel, by decide +kernel⟩
theorem ok__law_counts {P : Program} {w : World} {K : PySem.W.Frag} {mg : Str → Option Value} {base : Heap} (E : Env P K mg) : Fn P w K mg base CX0 1 "_law_counts" (sp1 fun v H Q _ => ∃ a xs, v = .ref a ∧ SqL K H a (xs.map optV) ∧ xs.length ≤ 60000 ∧ ∀ p H', H p = none → Ex H H' → H' p = some (.lst (vI (cnts xs))) → Q (.ref p) H') := by
  obtain ⟨fd, F⟩ := E.dd__law_counts
  refine Fn.mk0 F E.g__law_counts sc__law_counts sp1_len (fun _ _ _ _ _ _ us hl => match us, hl with | [_], _ => rfl) (fun cdv A outer s H vs Q X hr h => ?_)
  have nd := sc__law_counts.nd
  obtain ⟨v0, rfl, h⟩ := h
  refine ⟨_, (pss_cons (ps_set (i := 1) nd rfl (.inl rfl) (pe_lst (pa_nil)))
  (pss_cons (ps_for PassesOwn.never rfl (kSeq K (pv 0)) (pg_name (i := 2) nd rfl (.inl rfl))
   (pss_cons (ps_if (pt_cmpR xIs (pv 2) (pe_non) (nomark _))
   (pss_one (ps_ret (pv 1)))
   pss_nil)
  (pss_one (ps_expr (kBM K (pe_bm PySem.F.plainAttrs_list PySem.F.slot_list_append PySem.F.type_list_append mt_append (pv 1) (pa_cons (pv 2) pa_nil)))))))
  (pss_one (ps_ret (pv 1))))), ?_⟩
  change (_ : TS) _ [some v0, none, none] H
  try dsimp only [cxOf, Cx.nox, Cx.blk]
  obtain ⟨a, xs, rfl, hx, hz, k⟩ := h
  walk_at "w"
  intro p H1 n1 e1 h1
  walk_at "w"
  refine i_seqL ?_
  walk_at "w"
  refine for_list (xs := xs.map optV) (Pv := fun i σ' H' => ∃ v, σ' = [some (.ref a), some (.ref p), v] ∧ Ex H H' ∧ H' p = some (.lst (vI (cnts (xs.take i)))) ∧ (cnts (xs.take i)).length = i) ⟨_, rfl, e1, h1, rfl⟩ (fun _ _ H' _ q => by obtain ⟨_, _, e, _⟩ := q; exact ex_l e hx) ?_ ?_
  · rintro i y σ' H' hi ⟨v, rfl, e, g, hl⟩
    rw [List.getElem?_map] at hi
    obtain ⟨o, ho, rfl⟩ : ∃ o, xs[i]? = some o ∧ optV o = y := by
      cases q : xs[i]? with
      | none => rw [q] at hi; cases hi
      | some o => rw [q] at hi; exact ⟨o, rfl, Option.some.inj hi⟩
    have hlt := (List.getElem?_eq_some_iff.mp ho).1
    cases o with
    | none =>
      simp only [optV]
      walk_at "w"
      exact k p H' n1 e (by rw [cnts_stop hl ho]; exact g)
    | some c =>
      simp only [optV]
      obtain ⟨q1, q2⟩ := cnts_snoc hl ho
      walk_at "w"
      have hs : SqL K H' p (vI (cnts (xs.take i))) := sq_of g
      walk_at "w"
      refine r_app (K := K) g (sz_lt (by rw [List.length_map]; omega)) ?_
      walk_at "w"
      refine ⟨_, rfl, Ex.mut e n1, ?_, q2⟩
      rw [q1, show vI (cnts (xs.take i) ++ [c]) = vI (cnts (xs.take i)) ++ [V.int c] from List.map_append ..]
      exact upd_same
  · rintro σ' H' ⟨v, rfl, e, g, hl⟩
    walk_at "w"
    rw [List.length_map, List.take_length] at g
    exact k p H' n1 e g
abbrev N__law_fit : List Str := ["values", "many", "rise"]
theorem sc__law_fit : FnScope N__law_fit ["values", "many", "rise"] (defScope s__law_fit) := ⟨rfl, rfl, rfl, by decide +kernel, rfl, by decide +kernel, by decide +kernel⟩
theorem ok__law_fit {P : Program} {w : World} {K : PySem.W.Frag} {mg : Str → Option Value} {base : Heap} (E : Env P K mg) : Fn P w K mg base CX0 2 "_law_fit" (sp3 fun v m r H Q _ => ∃ (a : Addr) (xs : List Int) (c s : Nat) (d : Int), v = .ref a ∧ m = .int s ∧ r = .int d ∧ SqL K H a (vI xs) ∧ xs.length = c + s ∧ 0 ≤ d ∧ RSm (xs.take c) (xs.drop c) d ∧ RetD K (dPl (xs.take c) (xs.drop c) d) H Q) := by
  obtain ⟨fd, F⟩ := E.dd__law_fit
  refine Fn.mk0 F E.g__law_fit sc__law_fit sp3_len (fun _ _ _ _ _ _ us hl => match us, hl with | [_, _, _], _ => rfl) (fun cdv A outer s H vs Q X hr h => ?_)
  have nd := sc__law_fit.nd
  obtain ⟨v0, v1, v2, rfl, h⟩ := h
  refine ⟨_, (pss_one (ps_ret (pc (ok__law_plain E) hr (by decide) pass0 rfl (pa_cons (pe_slice (kSl K) (pv 0) po_none (po_some (pe_op xSub (pe_callB (kLen K) (by rfl) E.f_len (by decide +kernel) (pa_cons (pv 0) pa_nil)) (pv 1)))) (pa_cons (pe_slice (kSl K) (pv 0) (po_some (pe_op xSub (pe_callB (kLen K) (by rfl) E.f_len (by decide +kernel) (pa_cons (pv 0) pa_nil)) (pv 1))) po_none) (pa_cons (pv 2) pa_nil)))))), ?_⟩
  change (_ : TS) _ [some v0, some v1, some v2] H
  try dsimp only [cxOf, Cx.nox, Cx.blk]
  obtain ⟨a, xs, c, s, d, rfl, rfl, rfl, hx, hl, hd, hR, k⟩ := h
  obtain ⟨z1, z2, z3, z4⟩ := id hR
  rw [List.length_take] at z3
  rw [List.length_drop] at z4
  have ec : (xs.length : Int) - s = c := by omega
  walk_at "w"
  rw [ec]
  walk_at "w"
  intro p1 H1 n1 e1 h1
  walk_at "w"
  rw [ec]
  walk_at "w"
  intro p2 H2 n2 e2 h2
  rw [Int.toNat_natCast] at h1 h2
  walk_at "w"
  refine ⟨false, false, _, _, d, dp_of_intL (sq_of (e2 _ _ h1)), dp_of_intL (sq_of h2), .int d, hd, hR, fun v H5 e5 d5 => ?_⟩
  rw [lawF_eq] at d5
  exact k v H5 (by walk_at "ex") d5

end
section
local macro_rules | `(tactic| walk_at "hp") => `(tactic| first
  | with_reducible assumption
  | (with_reducible refine' ex_tab ?a ?b; (case a => with_reducible assumption); (case b => walk_at "hp")))
local macro_rules | `(tactic| walk_at "w2") => `(tactic| first
  | ((with_reducible refine' r_tabHead ?a ?b ?q); (case a => with_reducible assumption); (case b => walk_at "hp"))
  | ((with_reducible refine' r_tabLoop ?a ?b ?q); (case a => with_reducible assumption); (case b => walk_at "hp"))
  | ((with_reducible refine' r_tabRise ?a ?b ?q); (case a => with_reducible assumption); (case b => walk_at "hp")))
theorem tFlds_no {th tl : Addr} {r : Int} {m : Str} (h1 : ¬ m = "head") (h2 : ¬ m = "loop") (h3 : ¬ m = "rise") : (tFlds th tl r).lookup m = none := by
  unfold tFlds
  rw [lookup_putF, if_neg h3, lookup_putF, if_neg h2, lookup_putF, if_neg h1]
  rfl
/-- a table with the values f stands at x -/
def TB (N : Nat) (K : PySem.W.Frag) (H : Hp) (x : Addr) (f : Nat → Option Int) : Prop := ∃ h l r, TabAt K H x h l r ∧ Cl 144 N h l r ∧ Pl f h l r
theorem TB.ex {N : Nat} {K : PySem.W.Frag} {H H' : Hp} {x : Addr} {f : Nat → Option Int} (e : Ex H H') (t : TB N K H x f) : TB N K H' x f := by
  obtain ⟨h, l, r, a, b, c⟩ := t
  exact ⟨h, l, r, ex_tab e a, b, c⟩
theorem TB.fr {N : Nat} {K : PySem.W.Frag} {H H' : Hp} {a x : Addr} {f : Nat → Option Int} (e : Fr a H H') (s : SrcAt H a) (t : TB N K H x f) : TB N K H' x f := by
  obtain ⟨h, l, r, u, b, c⟩ := t
  exact ⟨h, l, r, fr_tab e s u, b, c⟩
theorem TB.of {N : Nat} {K : PySem.W.Frag} {H : Hp} {x : Addr} {h l : List Int} {r : Int} (C : Cl 144 N h l r) (t : TabAt K H x (plainF h l r).1 (plainF h l r).2.1 (plainF h l r).2.2) : TB N K H x (TV h l r) := ⟨_, _, _, t, cl_plain2 C, Pl.of C.val⟩
theorem TB.ins {N : Nat} {K : PySem.W.Frag} {H : Hp} {x : Addr} {f : Nat → Option Int} (t : TB N K H x f) : ∃ dx fs, H x = some (.ins (He.ga K "Table") dx fs) := by
  obtain ⟨h, l, r, ⟨dx, th, tl, e, _⟩, _⟩ := t
  exact ⟨dx, _, e⟩
theorem TB.gd {N : Nat} {K : PySem.W.Frag} {H : Hp} {x : Addr} {f : Nat → Option Int} (t : TB N K H x f) : Gd f ∧ Knd 144 N f := by
  obtain ⟨h, l, r, _, C, P⟩ := t
  have e : TV h l r = f := funext P.tv
  rw [← e]
  exact ⟨Gd.of C.val, C.knd⟩
abbrev N_Table_raw : List Str := ["self"]
theorem sc_Table_raw : FnScope N_Table_raw ["self"] (defScope s_Table_raw) := ⟨rfl, rfl, rfl, by decide +kernel, rfl, by decide +kernel, by decide +kernel⟩
theorem fx_Table_raw {P : Program} {w : World} {K : PySem.W.Frag} {mg : Str → Option Value} {base : Heap} (E : Env P K mg) : ∃ fd, FunD K "raw" "Table.raw" (defArgs s_Table_raw) (defBody s_Table_raw) (defScope s_Table_raw) (d_Table_raw.dvs K) [] (d_Table_raw.adr K) fd ∧ FnOk P w K mg base CX0 1 (d_Table_raw.adr K) fd ["self"] (sp1 fun x H Q _ => ∃ p h l r, x = .ref p ∧ TabAt K H p h l r ∧ RetD K (dRaw h l r) H Q) := by
  obtain ⟨fd, F⟩ := E.dd_Table_raw
  refine ⟨fd, F, fnok0 F sc_Table_raw sp1_len (fun cdv A outer s H vs Q X hr h => ?_)⟩
  have nd := sc_Table_raw.nd
  obtain ⟨v0, rfl, h⟩ := h
  refine ⟨_, (pss_one (ps_ret (pe_tup (pa_cons (kFld K (pv 0) rfl) (pa_cons (kFld K (pv 0) rfl) (pa_cons (kFld K (pv 0) rfl) pa_nil)))))), ?_⟩
  change (_ : TS) _ [some v0] H
  try dsimp only [cxOf, Cx.nox, Cx.blk]
  obtain ⟨p, h, l, r, rfl, ht, k⟩ := h
  walk_at "w"
  intro th s1
  walk_at "w"
  intro tl s2
  walk_at "w"
  intro a H2 n2 e2 h2
  exact k _ _ (by walk_at "ex") (dp_of_raw (st_of h2) (by walk_at "hp") (by walk_at "hp"))
theorem ok_Table_raw {P : Program} {w : World} {K : PySem.W.Frag} {mg : Str → Option Value} {base : Heap} (E : Env P K mg) : Mt P w K mg base CX0 1 (He.ga K "Table") "raw" (sp1 fun x H Q _ => ∃ p h l r, x = .ref p ∧ TabAt K H p h l r ∧ RetD K (dRaw h l r) H Q) := by
  obtain ⟨fd, F, k⟩ := fx_Table_raw (P := P) (w := w) (base := base) E
  exact ⟨_, fd, _, E.c_Table, E.m_Table_raw, k, F.bindsN (fun _ _ _ _ _ _ us hl => match us, hl with | [_], _ => rfl)⟩
abbrev N_table_from : List Str := ["raw"]
theorem sc_table_from : FnScope N_table_from ["raw"] (defScope s_table_from) := ⟨rfl, rfl, rfl, by decide +kernel, rfl, by decide +kernel, by decide +kernel⟩
theorem ok_table_from {P : Program} {w : World} {K : PySem.W.Frag} {mg : Str → Option Value} {base : Heap} (E : Env P K mg) : Fn P w K mg base CX0 12 "table_from" (sp1 fun v H Q _ => ∃ h l r, Dp K H v (dRaw h l r) ∧ Val h l r ∧ ∀ x H2, Ex H H2 → TabAt K H2 x (plainF h l r).1 (plainF h l r).2.1 (plainF h l r).2.2 → Q (.ref x) H2) := by
  obtain ⟨fd, F⟩ := E.dd_table_from
  refine Fn.mk0 F E.g_table_from sc_table_from sp1_len (fun _ _ _ _ _ _ us hl => match us, hl with | [_], _ => rfl) (fun cdv A outer s H vs Q X hr h => ?_)
  have nd := sc_table_from.nd
  obtain ⟨v0, rfl, h⟩ := h
  refine ⟨_, (pss_one (ps_ret (pmk (ok_Table3 E) hr (by decide) pass0 rfl (pa_cons (pe_ix (kIx K) (pv 0) (pe_int) (fun _ _ => rfl)) (pa_cons (pe_ix (kIx K) (pv 0) (pe_int) (fun _ _ => rfl)) (pa_cons (pe_ix (kIx K) (pv 0) (pe_int) (fun _ _ => rfl)) pa_nil)))))), ?_⟩
  change (_ : TS) _ [some v0] H
  try dsimp only [cxOf, Cx.nox, Cx.blk]
  obtain ⟨h, l, r, hD, W, k⟩ := h
  obtain ⟨a, th, tl, rfl, s1, s2, s3⟩ := dp_raw hD
  walk_at "w"
  exact mk_tab (b1 := true) (b2 := true) rfl (dp_of_ints s2) (dp_of_ints s3) (.int r) W k
abbrev spTB (g : Bool) (K : PySem.W.Frag) : Sp := sp2 fun x y H Q _ => ∃ (N : Nat) (p q : Addr) (f1 f2 : Nat → Option Int), x = .ref p ∧ y = .ref q ∧ TB N K H p f1 ∧ TB N K H q f2 ∧ N ≤ 40000 ∧ Sr 144 N f1 f2 ∧ Sr 144 N f2 f1 ∧ ∀ z H', Ex H H' → TB N K H' z (JV g f1 f2) → Q (.ref z) H'
abbrev spMul (K : PySem.W.Frag) : Sp := sp2 fun x y H Q _ => ∃ (p q : Addr) (h1 l1 h2 l2 : List Int) (r1 r2 : Int), x = .ref p ∧ y = .ref q ∧ TabAt K H p h1 l1 r1 ∧ TabAt K H q h2 l2 r2 ∧ Val h1 l1 r1 ∧ Val h2 l2 r2 ∧ h2.length + l2.length * (h1.length + l1.length + 1) ≤ 40000 ∧ r1 ≤ 1000000 ∧ r2 ≤ 1000000 ∧
  ∀ z H' h l r, Ex H H' → TabAt K H' z h l r → Cmp h1 l1 r1 h2 l2 r2 h l r → Q (.ref z) H'
abbrev N_Table_mul : List Str := ["self", "other"]
theorem sc_Table_mul : FnScope N_Table_mul ["self", "other"] (defScope s_Table_mul) := ⟨rfl, rfl, rfl, by decide +kernel, rfl, by decide +kernel, by decide +kernel⟩
theorem fx_Table_mul {P : Program} {w : World} {K : PySem.W.Frag} {mg : Str → Option Value} {base : Heap} (E : Env P K mg) : ∃ fd, FunD K "__mul__" "Table.__mul__" (defArgs s_Table_mul) (defBody s_Table_mul) (defScope s_Table_mul) (d_Table_mul.dvs K) [] (d_Table_mul.adr K) fd ∧ FnOk P w K mg base CX0 13 (d_Table_mul.adr K) fd ["self", "other"] (spMul K) := by
  obtain ⟨fd, F⟩ := E.dd_Table_mul
  refine ⟨fd, F, fnok0 F sc_Table_mul sp2_len (fun cdv A outer s H vs Q X hr h => ?_)⟩
  have nd := sc_Table_mul.nd
  obtain ⟨v0, v1, rfl, h⟩ := h
  refine ⟨_, (pss_one (ps_ret (pc (ok_table_from E) hr (by decide) pass0 rfl (pa_cons (pc (ok_behind_raw E) hr (by decide) pass0 rfl (pa_cons (pmt0 (ok_Table_raw E) hr (by decide) pass0 (pv 0)) (pa_cons (pmt0 (ok_Table_raw E) hr (by decide) pass0 (pv 1)) pa_nil))) pa_nil)))), ?_⟩
  change (_ : TS) _ [some v0, some v1] H
  try dsimp only [cxOf, Cx.nox, Cx.blk]
  obtain ⟨p, q, h1, l1, h2, l2, r1, r2, rfl, rfl, u1, u2, V1, V2, zz, z1, z2, k⟩ := h
  walk_at "w"
  obtain ⟨dx1, th1, tl1, i1, _⟩ := id u1
  refine r_meth i1 (tFlds_no (by decide) (by decide) (by decide)) ?_
  walk_at "w"
  refine w_callM1 ⟨p, h1, l1, r1, rfl, u1, fun v1 H1 e1 d1 => ?_⟩
  walk_at "w"
  obtain ⟨dx2, th2, tl2, i2, _⟩ := id (ex_tab e1 u2)
  refine r_meth i2 (tFlds_no (by decide) (by decide) (by decide)) ?_
  walk_at "w"
  refine w_callM1 ⟨q, h2, l2, r2, rfl, ex_tab e1 u2, fun v2 H2 e2 d2 => ?_⟩
  walk_at "w"
  refine ⟨h1, l1, h2, l2, r1, r2, dp_ex e2 d1, d2, V1, V2, zz, z1, z2, fun v H3 h l r e3 d3 C => ?_⟩
  walk_at "w"
  refine ⟨h, l, r, d3, C.pl.val, fun x H4 e4 t4 => ?_⟩
  rw [C.pl.pf] at t4
  exact k x H4 h l r (((e1.trans e2).trans e3).trans e4) t4 C
theorem ok_Table_mul {P : Program} {w : World} {K : PySem.W.Frag} {mg : Str → Option Value} {base : Heap} (E : Env P K mg) : BinOf P w K mg base 13 (He.ga K "Table") "__mul__" (spMul K) := by
  obtain ⟨fd, F, k⟩ := fx_Table_mul (P := P) (w := w) (base := base) E
  exact ⟨⟨_, fd, _, E.m_Table_mul.at_, E.m_Table_mul.fn, k, F.bindsN (fun _ _ _ _ _ _ us hl => match us, hl with | [_, _], _ => rfl)⟩, E.sf_Table⟩

end
section
/-- numbers near a line -/
def Ln (A B Kl Ku : Int) (f : Nat → Option Int) : Prop := ∀ (j : Nat) v, f j = some v → A * ((j : Int) + 1) - Kl ≤ B * v ∧ B * v ≤ A * ((j : Int) + 1) + Ku
theorem mul_in {a b x y : Int} (a0 : 0 ≤ a) (ax : a ≤ x) (b0 : 0 ≤ b) (by_ : b ≤ y) : 0 ≤ a * b ∧ a * b ≤ x * y := ⟨Int.mul_nonneg a0 b0, Int.mul_le_mul ax by_ b0 (by omega)⟩
theorem Ln.tab {h l : List Int} {r : Int} (V : Val h l r) (hl : l ≠ []) (zh : h.length ≤ 4) (zl : l.length ≤ 4) (bh : ∀ n ∈ h, n ≤ 8) (bl : ∀ n ∈ l, n ≤ 16) (br : r ≤ 12) : Ln r l.length 96 64 (TV h l r) := by
  intro j v e
  have l0 : 0 < l.length := List.length_pos_iff.mpr hl
  by_cases c : j < h.length
  · rw [tv_head c] at e
    cases e
    have v0 := gI_nn V.p1 (j : Int)
    have v1 := bh _ (gI_mem (ns := h) (r := (j : Int)) (by omega) (by omega))
    generalize gI h j = v at *
    have a := mul_in V.r0 br (show (0 : Int) ≤ (j : Int) + 1 by omega) (show (j : Int) + 1 ≤ 4 by omega)
    have b := mul_in (show (0 : Int) ≤ (l.length : Int) by omega) (show (l.length : Int) ≤ 4 by omega) v0 v1
    omega
  · rw [tv_some hl, fV_loop (by omega)] at e
    cases e
    unfold extL
    obtain ⟨d, rfl⟩ : ∃ d : Nat, j = h.length + d := ⟨j - h.length, by omega⟩
    have e1 : ((h.length + d : Nat) : Int) - h.length = d := by omega
    rw [e1]
    have m0 := Int.emod_nonneg (d : Int) (show (l.length : Int) ≠ 0 by omega)
    have m1 := Int.emod_lt_of_pos (d : Int) (show (0 : Int) < l.length by omega)
    have ed := Int.emod_add_mul_ediv (d : Int) l.length
    have v0 := gI_nn V.p2 ((d : Int) % l.length)
    have v1 := bl _ (gI_mem (ns := l) m0 m1)
    generalize gI l ((d : Int) % l.length) = w at *
    generalize (d : Int) % l.length = t at *
    generalize (d : Int) / l.length = q at *
    have a := mul_in V.r0 br (show (0 : Int) ≤ t + h.length + 1 by omega) (show t + h.length + 1 ≤ 8 by omega)
    have b := mul_in (show (0 : Int) ≤ (l.length : Int) by omega) (show (l.length : Int) ≤ 4 by omega) v0 v1
    have k : (l.length : Int) * (w + r * q) - r * (((h.length + d : Nat) : Int) + 1) = (l.length : Int) * w - r * (t + h.length + 1) := by
      rw [Int.natCast_add, ← ed]
      generalize (l.length : Int) = L
      generalize (h.length : Int) = g
      grind
    omega
theorem Ln.div {A B q Kl Ku : Int} {f : Nat → Option Int} (h : Ln (A * q) (B * q) Kl Ku f) (hq : 1 ≤ q) (k0 : 0 ≤ Kl) (k1 : 0 ≤ Ku) : Ln A B Kl Ku f := by
  intro j v e
  obtain ⟨a, b⟩ := h j v e
  generalize (j : Int) + 1 = n at *
  have e1 : A * q * n = q * (A * n) := by grind
  have e2 : B * q * v = q * (B * v) := by grind
  rw [e1, e2] at a b
  generalize A * n = x at *
  generalize B * v = y at *
  constructor
  · refine Int.not_lt.mp fun c => ?_
    have := Int.mul_le_mul_of_nonneg_left (show y ≤ x - Kl - 1 by omega) (show 0 ≤ q by omega)
    have e3 : q * (x - Kl - 1) = q * x - q * (Kl + 1) := by grind
    have := Int.mul_le_mul_of_nonneg_right hq (show 0 ≤ Kl + 1 by omega)
    omega
  · refine Int.not_lt.mp fun c => ?_
    have := Int.mul_le_mul_of_nonneg_left (show x + Ku + 1 ≤ y by omega) (show 0 ≤ q by omega)
    have e3 : q * (x + Ku + 1) = q * x + q * (Ku + 1) := by grind
    have := Int.mul_le_mul_of_nonneg_right hq (show 0 ≤ Ku + 1 by omega)
    omega
theorem Ln.comp {h l : List Int} {r A B A' B' Kl Ku Kl' Ku' : Int} {g : Nat → Option Int} (X : Ln A B Kl Ku (TV h l r)) (Y : Ln A' B' Kl' Ku' g) (G : Gd g) (A0 : 0 ≤ A) (B0 : 0 ≤ B') (k0 : 0 ≤ Kl) (k1 : 0 ≤ Ku) (hn : ∀ j, g j ≠ none) :
    Ln (A * A') (B * B') (A * Kl' + B' * Kl) (A * Ku' + B' * Ku) (CV h l r g) := by
  intro j v e
  cases hm : g j with
  | none => exact absurd hm (hn j)
  | some m =>
    unfold CV at e
    rw [hm] at e
    have m0 := G.nn j m hm
    obtain ⟨y1, y2⟩ := Y j m hm
    have x : A * m - Kl ≤ B * v ∧ B * v ≤ A * m + Ku := by
      rcases at_cases (p := some m) (fun i hi => by cases hi; exact m0) with q | q | ⟨i, q⟩
      · cases q
      · cases q
        rw [vat_zero] at e
        cases e
        omega
      · cases q
        change vat _ _ _ _ = some v at e
        rw [vat_TV] at e
        exact X i v e
    generalize (j : Int) + 1 = n at *
    have a := Int.mul_le_mul_of_nonneg_left x.1 B0
    have b := Int.mul_le_mul_of_nonneg_left x.2 B0
    have c := Int.mul_le_mul_of_nonneg_left y1 A0
    have d := Int.mul_le_mul_of_nonneg_left y2 A0
    constructor
    · have e1 : B' * (A * m - Kl) = A * (B' * m) - B' * Kl := by grind
      have e2 : A * (A' * n - Kl') = A * A' * n - A * Kl' := by grind
      have e3 : B' * (B * v) = B * B' * v := by grind
      omega
    · have e1 : B' * (A * m + Ku) = A * (B' * m) + B' * Ku := by grind
      have e2 : A * (A' * n + Ku') = A * A' * n + A * Ku' := by grind
      have e3 : B' * (B * v) = B * B' * v := by grind
      omega
theorem Slo.mul {P : Nat} {f : Nat → Option Int} {x : Int} (S : Slo P f x) : ∃ (c : Nat) (v : Int), ∀ t : Nat, f (c + P * t) = some (v + x * t) := by
  obtain ⟨c, hc⟩ := S
  obtain ⟨v, hv, _⟩ := hc c (Nat.le_refl _)
  refine ⟨c, v, fun t => ?_⟩
  induction t with
  | zero => rw [Nat.mul_zero]; simpa using hv
  | succ t ih =>
    obtain ⟨w, h1, h2⟩ := hc (c + P * t) (Nat.le_add_right ..)
    rw [ih] at h1
    rw [show c + P * (t + 1) = c + P * t + P by rw [Nat.mul_succ]; omega, h2, ← Option.some.inj h1, Int.natCast_add]
    congr 1
    show v + x * t + x = v + x * ((t : Int) + 1)
    rw [Int.mul_add]
    omega
theorem Ln.slope {P : Nat} {A B Kl Ku x : Int} {f : Nat → Option Int} (L : Ln A B Kl Ku f) (S : Slo P f x) : B * x = A * P := by
  obtain ⟨c, v, hv⟩ := S.mul
  have key : ∀ t : Nat, A * ((c : Int) + 1) - B * v - Kl ≤ (B * x - A * P) * t ∧ (B * x - A * P) * t ≤ A * ((c : Int) + 1) - B * v + Ku := fun t => by
    obtain ⟨a, b⟩ := L _ _ (hv t)
    rw [Int.natCast_add, Int.natCast_mul] at a b
    generalize (t : Int) = t at *
    generalize (c : Int) = c at *
    generalize (P : Int) = P at *
    have e1 : A * (c + P * t + 1) = A * (c + 1) + A * P * t := by grind
    have e2 : B * (v + x * t) = B * v + B * x * t := by grind
    have e3 : (B * x - A * P) * t = B * x * t - A * P * t := by grind
    omega
  generalize A * ((c : Int) + 1) - B * v = E at *
  refine Int.le_antisymm (Int.not_lt.mp fun h => ?_) (Int.not_lt.mp fun h => ?_)
  · have := (key ((E + Ku).toNat + 1)).2
    have q := Int.mul_le_mul_of_nonneg_right (show 1 ≤ B * x - A * P by omega) (show (0 : Int) ≤ (((E + Ku).toNat + 1 : Nat) : Int) by omega)
    omega
  · have := (key ((Kl - E).toNat + 1)).1
    have q := Int.mul_le_mul_of_nonneg_right (show 1 ≤ -(B * x - A * P) by omega) (show (0 : Int) ≤ (((Kl - E).toNat + 1 : Nat) : Int) by omega)
    rw [Int.neg_mul] at q
    omega
theorem sr_line {P N : Nat} {f g : Nat → Option Int} {c d A B A' B' Kl Ku Kl' Ku' : Int} (X : Ln (A * c) (B * d) Kl Ku f) (Y : Ln (A' * c) (B' * d) Kl' Ku' g) (hc : 1 ≤ c) (hd : 1 ≤ d) (hB : 1 ≤ B) (hB' : 1 ≤ B') (hP : 0 < P) (hN : B' * Kl + B * Ku' ≤ N) :
    ∀ a b, Slo P f a → Slo P g b → b < a → ∀ j, N ≤ j → ∀ u v, f j = some u → g j = some v → v ≤ u := by
  intro a b sa sb hab j hj u v hu hv
  have ea := X.slope sa
  have eb := Y.slope sb
  obtain ⟨x1, _⟩ := X j u hu
  obtain ⟨_, y2⟩ := Y j v hv
  have hP' : (1 : Int) ≤ P := by omega
  generalize (P : Int) = p at *
  have hn : (N : Int) < (j : Int) + 1 := by omega
  generalize (j : Int) + 1 = n at *
  have n0 : 0 ≤ n := by omega
  have hBB : 1 ≤ B * B' := by
    have := Int.mul_le_mul hB hB' (by decide) (by omega)
    omega
  have hD : 1 ≤ A * B' - A' * B := by
    refine Int.not_lt.mp fun h => ?_
    have h1 : c * p * (A * B' - A' * B) = d * (B * B') * (a - b) := by
      have e1 : B' * (B * d * a) = B' * (A * c * p) := by rw [ea]
      have e2 : B * (B' * d * b) = B * (A' * c * p) := by rw [eb]
      grind
    have h2 : 0 < d * (B * B') * (a - b) := Int.mul_pos (Int.mul_pos (by omega) (by omega)) (by omega)
    have h3 : c * p * (A * B' - A' * B) ≤ 0 := Int.mul_nonpos_of_nonneg_of_nonpos (Int.mul_nonneg (by omega) (by omega)) (by omega)
    omega
  refine Int.not_lt.mp fun h => ?_
  have z1 := Int.mul_le_mul_of_nonneg_left x1 (show 0 ≤ B' by omega)
  have z2 := Int.mul_le_mul_of_nonneg_left y2 (show 0 ≤ B by omega)
  have z3 : 0 ≤ d * (B * B') * (v - u - 1) := Int.mul_nonneg (Int.mul_nonneg (by omega) (by omega)) (by omega)
  have z4 : 0 < d * (B * B') := Int.mul_pos (by omega) (by omega)
  have z5 : n ≤ c * (A * B' - A' * B) * n := by
    have : 1 ≤ c * (A * B' - A' * B) := by
      have := Int.mul_le_mul hc hD (by decide) (by omega)
      omega
    have := Int.mul_le_mul_of_nonneg_right this n0
    omega
  have e1 : B' * (A * c * n - Kl) = A * B' * c * n - B' * Kl := by grind
  have e2 : B' * (B * d * u) = d * (B * B') * u := by grind
  have e3 : B * (B' * d * v) = d * (B * B') * v := by grind
  have e4 : B * (A' * c * n + Ku') = A' * B * c * n + B * Ku' := by grind
  have e5 : c * (A * B' - A' * B) * n = A * B' * c * n - A' * B * c * n := by grind
  have e6 : d * (B * B') * (v - u - 1) = d * (B * B') * v - d * (B * B') * u - d * (B * B') := by grind
  omega

end
section
/-- the law's tables, in plain form -/
structure Bs (h l : List Int) (r : Int) : Prop where
  val : Val h l r
  pf : plainF h l r = (h, l, r)
  zh : h.length ≤ 4
  zl : l.length ≤ 4
  br : r ≤ 12
  ln : l ≠ [] → Ln r l.length 96 64 (TV h l r)
theorem RawOk.bs {h l : List Int} {r : Int} (R : RawOk h l r) : Bs (plainF h l r).1 (plainF h l r).2.1 (plainF h l r).2.2 := by
  obtain ⟨a, b, c, z, q⟩ := plainF_val R.val
  have zh := R.zh
  have zl := R.zl
  have br := R.br
  by_cases hl : l = []
  · subst hl
    have r0 := R.val.e0 rfl
    subst r0
    rw [plainF_nil]
    exact ⟨R.val, plainF_nil, zh, zl, br, fun e => absurd rfl e⟩
  · obtain ⟨n1, q, q1, q2⟩ := q hl
    have l1 : 0 < (plainF h l r).2.1.length := List.length_pos_iff.mpr n1
    have l0 : 0 < l.length := List.length_pos_iff.mpr hl
    have q0 : 0 < q := Nat.pos_of_ne_zero fun e => by rw [e, Nat.mul_zero] at q1; omega
    have L := Ln.tab R.val hl zh zl R.bh R.bl br
    have k1 : (plainF h l r).2.1.length ≤ (plainF h l r).2.1.length * q := Nat.le_mul_of_pos_right _ q0
    have k2 := Int.mul_le_mul_of_nonneg_left (show (1 : Int) ≤ (q : Int) by omega) a.r0
    rw [Int.mul_one] at k2
    refine ⟨a, c, by omega, by omega, by omega, fun _ => ?_⟩
    rw [show TV (plainF h l r).1 (plainF h l r).2.1 (plainF h l r).2.2 = TV h l r from funext b]
    refine Ln.div (q := q) ?_ (by omega) (by decide) (by decide)
    rw [← q2, show ((plainF h l r).2.1.length : Int) * q = (l.length : Int) by rw [q1, Int.natCast_mul]]
    exact L
theorem dvd12 {l : List Int} (z : l.length ≤ 4) (hl : l ≠ []) : l.length ∣ 12 := by
  have l0 : 0 < l.length := List.length_pos_iff.mpr hl
  have : l.length = 1 ∨ l.length = 2 ∨ l.length = 3 ∨ l.length = 4 := by omega
  rcases this with e | e | e | e <;> rw [e] <;> decide
theorem slp_sm {l : List Int} {r b : Int} (h0 : 0 ≤ r) (h1 : r ≤ b) : slp l r 144 ≤ b * 144 := by
  have a : 0 ≤ ((144 : Nat) : Int) / l.length := Int.ediv_nonneg (by omega) (by omega)
  have c : ((144 : Nat) : Int) / l.length ≤ 144 := Int.ediv_le_self _ (by omega)
  exact Int.mul_le_mul h1 c a (by omega)
theorem Bs.cl {h l : List Int} {r : Int} {N : Nat} (R : Bs h l r) (hN : 4 ≤ N) : Cl 144 N h l r :=
  cl_self R.val (by have := R.zh; omega) (fun c => Nat.dvd_trans (dvd12 R.zl c) (by decide)) (Int.le_trans (slp_sm R.val.r0 R.br) (by decide))
theorem slo_tabp {P : Nat} {h l : List Int} {r a : Int} (S : Slo P (TV h l r) a) : l ≠ [] := fun e => by
  obtain ⟨c, hc⟩ := S
  obtain ⟨v, h1, _⟩ := hc (c + h.length) (by omega)
  rw [tv_nil e (by omega)] at h1
  cases h1
theorem len_le {l : List Int} (z : l.length ≤ 4) (hl : l ≠ []) : (1 : Int) ≤ l.length ∧ (l.length : Int) ≤ 4 := by
  have l0 : 0 < l.length := List.length_pos_iff.mpr hl
  omega
theorem Bs.sr {h l h' l' : List Int} {r r' : Int} (X : Bs h l r) (Y : Bs h' l' r') : Sr 144 640 (TV h l r) (TV h' l' r') := by
  intro a b sa sb hab
  have c := slo_tabp sa
  have c' := slo_tabp sb
  have z := len_le X.zl c
  have z' := len_le Y.zl c'
  exact sr_line (c := 1) (d := 1) (A := r) (B := l.length) (A' := r') (B' := l'.length) (by rw [Int.mul_one, Int.mul_one]; exact X.ln c) (by rw [Int.mul_one, Int.mul_one]; exact Y.ln c') (by decide) (by decide) z.1 z'.1 (by decide) (by omega) a b sa sb hab
theorem Slo.nn {P : Nat} {f : Nat → Option Int} {x : Int} (G : Gd f) (S : Slo P f x) : 0 ≤ x := by
  obtain ⟨c, hc⟩ := S
  obtain ⟨v, h1, h2⟩ := hc c (Nat.le_refl _)
  have := gd_mono G (show c ≤ c + P by omega)
  rw [h1, h2, leO_some] at this
  omega
theorem comp_on {P : Nat} {h1 l1 h2 l2 : List Int} {r1 r2 x : Int} (V2 : Val h2 l2 r2) (hP : 0 < P) (S : Slo P (CV h1 l1 r1 (TV h2 l2 r2)) x) (c2 : l2 ≠ []) (hr : 0 < r2) : l1 ≠ [] := fun e => by
  obtain ⟨c, v, hv⟩ := S.mul
  have g := grows V2 c2 hr h1.length
  generalize h2.length + l2.length * (h1.length + 1) = M at *
  have w := hv M
  have := fV_mono V2 c2 (show M ≤ c + P * M by have := Nat.le_mul_of_pos_left M hP; omega)
  unfold CV at w
  rw [tv_some c2] at w
  subst e
  change vat h1 [] r1 _ = some _ at w
  rw [vat_over (by omega)] at w
  cases w
theorem comp_pos {P : Nat} {h1 l1 h2 l2 : List Int} {r1 r2 x : Int} (V2 : Val h2 l2 r2) (hP : 0 < P) (S : Slo P (CV h1 l1 r1 (TV h2 l2 r2)) x) (hx : 0 < x) : l1 ≠ [] ∧ l2 ≠ [] ∧ 0 < r2 := by
  have n : ¬ (l2 = [] ∨ r2 = 0) := fun q => by
    obtain ⟨c, v, hv⟩ := S.mul
    have e : ∀ t, h2.length ≤ t → CV h1 l1 r1 (TV h2 l2 r2) (c + P * t) = valueAt h1 l1 r1 (endOf l2 r2) := fun t ht => by
      unfold CV
      rw [tv_end V2 q (by have := Nat.le_mul_of_pos_left t hP; omega)]
    have a := hv h2.length
    have b := hv (h2.length + 1)
    rw [e _ (by omega)] at a b
    rw [a] at b
    have b := Option.some.inj b
    rw [show ((h2.length + 1 : Nat) : Int) = (h2.length : Int) + 1 from rfl, Int.mul_add] at b
    omega
  have c2 : l2 ≠ [] := fun e => n (.inl e)
  have hr : 0 < r2 := by
    have := V2.r0
    have : ¬ r2 = 0 := fun e => n (.inr e)
    omega
  exact ⟨comp_on V2 hP S c2 hr, c2, hr⟩
theorem bnd {x y u v w z : Int} (hx : 0 ≤ x) (hx1 : x ≤ 4) (hu : 0 ≤ u) (hu1 : u ≤ 4) (hy : 0 ≤ y) (hy1 : y ≤ 12) (hw : 0 ≤ w) (hw1 : w ≤ 12) (hv : 0 ≤ v) (hv1 : v ≤ 4) (hz : 0 ≤ z) (hz1 : z ≤ 4) : x * (y * 96 + v * 96) + u * (w * 64 + z * 64) ≤ 10240 := by
  have a := mul_in hx hx1 (show 0 ≤ y * 96 + v * 96 by omega) (show y * 96 + v * 96 ≤ 1536 by omega)
  have b := mul_in hu hu1 (show 0 ≤ w * 64 + z * 64 by omega) (show w * 64 + z * 64 ≤ 1024 by omega)
  omega
theorem sr_left {ha la hb lb hc lc : List Int} {ra rb rc : Int} (A : Bs ha la ra) (B : Bs hb lb rb) (C : Bs hc lc rc) : Sr 144 10240 (CV ha la ra (TV hc lc rc)) (CV hb lb rb (TV hc lc rc)) := by
  intro x y sx sy hxy
  have y0 := sy.nn (Gd.comp B.val (Gd.of C.val))
  obtain ⟨na, nc, c0⟩ := comp_pos C.val (by decide) sx (by omega)
  have nb := comp_on C.val (by decide) sy nc c0
  have za := len_le A.zl na
  have zb := len_le B.zl nb
  have zc := len_le C.zl nc
  have hn : ∀ j, TV hc lc rc j ≠ none := fun j e => by rw [tv_some nc] at e; cases e
  have a0 := A.val.r0
  have b0 := B.val.r0
  have a1 := A.br
  have b1 := B.br
  exact sr_line (Ln.comp (A.ln na) (C.ln nc) (Gd.of C.val) a0 (by omega) (by decide) (by decide) hn) (Ln.comp (B.ln nb) (C.ln nc) (Gd.of C.val) b0 (by omega) (by decide) (by decide) hn) c0 zc.1 za.1 zb.1 (by decide)
    (bnd (by omega) zb.2 (by omega) za.2 a0 a1 b0 b1 (by omega) zc.2 (by omega) zc.2) x y sx sy hxy
theorem sr_right {ha la hb lb hc lc : List Int} {ra rb rc : Int} (A : Bs ha la ra) (B : Bs hb lb rb) (C : Bs hc lc rc) : Sr 144 10240 (CV hc lc rc (TV ha la ra)) (CV hc lc rc (TV hb lb rb)) := by
  intro x y sx sy hxy
  have y0 := sy.nn (Gd.comp C.val (Gd.of B.val))
  obtain ⟨nc, na, a0⟩ := comp_pos A.val (by decide) sx (by omega)
  have za := len_le A.zl na
  have zc := len_le C.zl nc
  have c0 := C.val.r0
  have a1 := A.br
  have c1 := C.br
  have b0 := B.val.r0
  have hn : ∀ j, TV ha la ra j ≠ none := fun j e => by rw [tv_some na] at e; cases e
  have La := Ln.comp (C.ln nc) (A.ln na) (Gd.of A.val) c0 (by omega) (by decide) (by decide) hn
  have c2 : 0 < rc := by
    refine Int.not_le.mp fun h => ?_
    have e : rc = 0 := by omega
    have s := La.slope sx
    rw [e, Int.zero_mul, Int.zero_mul] at s
    have : 0 < (lc.length : Int) * la.length * x := Int.mul_pos (Int.mul_pos (by omega) (by omega)) (by omega)
    omega
  have nb : lb ≠ [] := fun e => by
    obtain ⟨c, v, hv⟩ := sy.mul
    have w := hv hb.length
    unfold CV at w
    rw [tv_nil e (by omega)] at w
    change endOf lc rc = _ at w
    unfold endOf at w
    rw [if_pos (.inr c2)] at w
    cases w
  have zb := len_le B.zl nb
  have hn' : ∀ j, TV hb lb rb j ≠ none := fun j e => by rw [tv_some nb] at e; cases e
  have Lb := Ln.comp (C.ln nc) (B.ln nb) (Gd.of B.val) c0 (by omega) (by decide) (by decide) hn'
  rw [Int.mul_comm rc ra, Int.mul_comm (lc.length : Int) la.length] at La
  rw [Int.mul_comm rc rb, Int.mul_comm (lc.length : Int) lb.length] at Lb
  exact sr_line La Lb c2 zc.1 za.1 zb.1 (by decide) (bnd (by omega) zb.2 (by omega) za.2 c0 c1 c0 c1 (by omega) za.2 (by omega) zb.2) x y sx sy hxy
theorem Cmp.cl {h1 l1 h2 l2 h l : List Int} {r1 r2 r : Int} (X : Bs h1 l1 r1) (Y : Bs h2 l2 r2) (C : Cmp h1 l1 r1 h2 l2 r2 h l r) : Cl 144 10240 h l r ∧ h.length ≤ 24 ∧ l.length ≤ 144 ∧ r ≤ 144 := by
  have z := C.zh
  have z1 := X.zh
  have z2 := Y.zh
  have m := Nat.mul_le_mul Y.zl (show h1.length + 1 ≤ 5 by omega)
  have d : l ≠ [] → l.length ∣ 144 := fun hl => by
    rcases C.dv hl with e | ⟨c1, c2, e⟩
    · rw [e]; decide
    · exact Nat.dvd_trans e (Nat.mul_dvd_mul (dvd12 Y.zl c2) (dvd12 X.zl c1))
  have br : r ≤ 144 := Int.le_trans C.br (Int.mul_le_mul X.br Y.br Y.val.r0 (by decide))
  have cl := cl_self (N := 10240) C.pl.val (by omega) d (Int.le_trans (slp_sm C.pl.val.r0 br) (by decide))
  exact ⟨cl, by omega, cl.zl (by decide), br⟩
/-- the rise of what is put together -/
theorem join_br {N : Nat} {g : Bool} {h1 l1 h2 l2 h l : List Int} {r1 r2 r : Int} (X : Bs h1 l1 r1) (Y : Bs h2 l2 r2) (hN : 640 ≤ N) (C : Cl 144 N h l r) (P : Pl (JV g (TV h1 l1 r1) (TV h2 l2 r2)) h l r) : r ≤ 1728 := by
  by_cases hl : l = []
  · rw [P.val.e0 hl]; decide
  · have S : Slo 144 (JV g (TV h1 l1 r1) (TV h2 l2 r2)) (slp l r 144) := by
      rw [← funext P.tv]
      exact Slo.tab hl (C.dv hl)
    have sr1 : Sr 144 N (TV h1 l1 r1) (TV h2 l2 r2) := fun a b sa sb h j hj => X.sr Y a b sa sb h j (by omega)
    have sr2 : Sr 144 N (TV h2 l2 r2) (TV h1 l1 r1) := fun a b sa sb h j hj => Y.sr X a b sa sb h j (by omega)
    have J := (jn_ex (g := g) (Gd.of X.val) (Gd.of Y.val) (X.cl (show 4 ≤ N by omega)).knd (Y.cl (show 4 ≤ N by omega)).knd sr1 sr2).2 _ S N (Nat.le_refl _) (fV h l r N) (by rw [← P.tv, tv_some hl])
    have k := slp_ge (P := 144) (by decide) hl (C.dv hl) P.val.r0
    rcases J with ⟨_, s⟩ | ⟨_, s⟩
    · have c := slo_tabp s
      have := s.uniq (Slo.tab c ((X.cl (show 4 ≤ N by omega)).dv c))
      have := slp_sm (l := l1) X.val.r0 X.br
      omega
    · have c := slo_tabp s
      have := s.uniq (Slo.tab c ((Y.cl (show 4 ≤ N by omega)).dv c))
      have := slp_sm (l := l2) Y.val.r0 Y.br
      omega

end
section
theorem tmul_none (l : Addr) (items : Array Value) (n : Nat) (dd : Option Addr) (sl : Array (Option Value)) (x : Int) (u : Tok) (c0 : (decide (x < -(2 ^ 63)) || decide (x ≥ 2 ^ 63)) = false) (c1 : (items.isEmpty || x == 1) = false) (c2 : (decide (x ≤ 0) || items.isEmpty) = true) :
    Meets (Builtin.«tuple.__mul__» ⟨[.ref l, .int x u], []⟩) (fun _ R s => s.heap.get? l = some { cls := .type "tuple", dict := dd, data := .seq items n, slots := sl } ∧
      R (.ok (.ret (Value.ref s.heap.objs.size))) { s with heap := s.heap.push { cls := Value.type "tuple", data := Data.seq #[] }, toks := s.toks }) :=
  .of_wp fun prog w A R s h => by
    obtain ⟨hp, g, d, tk, os⟩ := s
    obtain ⟨hl, h⟩ := h
    have f1 := AutoSeq1.idx_int
    wp_walk using wpAny_loadPart' hl
    refine wpAny_ite_false (decide_eq_false (by rw [c0]; exact Bool.false_ne_true)) ?_
    wp_walk using wpAny_loadPart' hl
    repeat (first
      | (refine wpAny_ite_false (decide_eq_false (by rw [c1]; exact Bool.false_ne_true)) ?_; wp_walk using wpAny_loadPart' hl)
      | (refine wpAny_ite_true (decide_eq_true c2) ?_; wp_walk using wpAny_loadPart' hl))
    exact ⟨_, rfl, h⟩
theorem tmul_one (l : Addr) (items : Array Value) (n : Nat) (dd : Option Addr) (sl : Array (Option Value)) (x : Int) (u : Tok) (c0 : (decide (x < -(2 ^ 63)) || decide (x ≥ 2 ^ 63)) = false) (c1 : (items.isEmpty || x == 1) = true) :
    Meets (Builtin.«tuple.__mul__» ⟨[.ref l, .int x u], []⟩) (fun _ R s => s.heap.get? l = some { cls := .type "tuple", dict := dd, data := .seq items n, slots := sl } ∧ R (.ok (.ret (Value.ref l))) s) :=
  .of_wp fun prog w A R s h => by
    obtain ⟨hp, g, d, tk, os⟩ := s
    obtain ⟨hl, h⟩ := h
    have f1 := AutoSeq1.idx_int
    wp_walk using wpAny_loadPart' hl
    refine wpAny_ite_false (decide_eq_false (by rw [c0]; exact Bool.false_ne_true)) ?_
    wp_walk using wpAny_loadPart' hl
    exact ⟨_, rfl, h⟩
/-- a tuple none or one time -/
def rRepS (K : PySem.W.Frag) : R2 := fun x y H Q => ∃ l k xs, x = .ref l ∧ y = .int k ∧ SqT K H l xs ∧ xs ≠ [] ∧ -1000 ≤ k ∧ ((k = 1 ∧ Q (.ref l) H) ∨ (k ≤ 0 ∧ ∀ p, H p = none → Q (.ref p) (upd H p (.tup []))))
section
variable {X : Cx}
theorem op_repS : OpR X (binaryOp .Mult) (rRepS X.K) := by
  intro pins s σ H x y v u Q I rx ry h
  obtain ⟨l, k, xs, rfl, rfl, hT, hne, h0, q⟩ := h
  cases rx
  obtain ⟨t, rfl⟩ := ry
  obtain ⟨its, r, ⟨⟨cls, dd, data, sl⟩, ho, hc, n, hd⟩, hs⟩ := I.tuple hT
  simp only at hc hd
  subst hc hd
  have hle : its.length = xs.length := r.length.symm
  have hn : its ≠ [] := fun e => hne (by
    rw [e] at hle
    exact List.eq_nil_of_length_eq_zero hle.symm)
  have hi : its.toArray.isEmpty = false := by
    cases its with
    | nil => exact absurd rfl hn
    | cons a b => rfl
  have c0 : (decide (k < -(2 ^ 63)) || decide (k ≥ 2 ^ 63)) = false := by
    rw [decide_eq_false (by omega), decide_eq_false (by rcases q with q | q <;> omega)] <;> rfl
  rcases q with ⟨k1, q⟩ | ⟨k0, q⟩
  · have c1 : (its.toArray.isEmpty || k == 1) = true := by
      rw [hi, Bool.false_or, k1]
      rfl
    refine wpAny_binaryOp_repeat_ref (T := "tuple") (U := "int") (by decide) ⟨_, ho, rfl⟩ (fun s' => typeIs_int s' k t) noFill_tuple_mul F.fills_int_mul F.slot_int_rmul repeat_tuple F.slot_int_index.lookup
      (call_meets F.slot_int_rmul (typeIs_int s k t) F.entry_int_rmul (F.args_int_rmul_2 _ _) (int_rmul_tuple k t l its.toArray n dd sl)
        ⟨ho, rfl, ⟨_, ho, rfl⟩, call_meets F.slot_tuple_mul ⟨_, ho, rfl⟩ F.entry_tuple_mul (F.args_tuple_mul_2 _ _) (tmul_one l its.toArray n dd sl k t c0 c1) ⟨ho, ?_⟩⟩)
    exact ⟨.ref l, H, I, rfl, q⟩
  · have c1 : (its.toArray.isEmpty || k == 1) = false := by
      rw [hi, Bool.false_or]
      exact beq_eq_false_iff_ne.mpr (by omega)
    have c2 : (decide (k ≤ 0) || its.toArray.isEmpty) = true := by
      rw [decide_eq_true k0]
      rfl
    refine wpAny_binaryOp_repeat_ref (T := "tuple") (U := "int") (by decide) ⟨_, ho, rfl⟩ (fun s' => typeIs_int s' k t) noFill_tuple_mul F.fills_int_mul F.slot_int_rmul repeat_tuple F.slot_int_index.lookup
      (call_meets F.slot_int_rmul (typeIs_int s k t) F.entry_int_rmul (F.args_int_rmul_2 _ _) (int_rmul_tuple k t l its.toArray n dd sl)
        ⟨ho, rfl, ⟨_, ho, rfl⟩, call_meets F.slot_tuple_mul ⟨_, ho, rfl⟩ F.entry_tuple_mul (F.args_tuple_mul_2 _ _) (tmul_none l its.toArray n dd sl k t c0 c1 c2) ⟨ho, ?_⟩⟩)
    refine ⟨.ref s.heap.objs.size, _, I.laid (t' := s.toks) (o := .tup []) (fun b ob q => Heap.get?_push_of_some _ q) (Nat.le_refl _) ?_, rfl, q _ (I.hok.fresh (Nat.le_refl _))⟩
    exact ⟨by decide, [], .nil, IsTup.new _ _⟩
end
def rMulS (K : PySem.W.Frag) : R2 := fun x y H Q => rMul K x y H Q ∨ rRepS K x y H Q
theorem kMulS {X : Cx} {K : PySem.W.Frag} (h : X.K = K := by rfl) : OpR X (binaryOp .Mult) (rMulS K) := by subst h; exact xMul.or op_repS
theorem rep_sing {α : Type} (a : α) : ∀ n : Nat, (List.replicate n [a]).flatten = List.replicate n a
  | 0 => rfl
  | n + 1 => by rw [List.replicate_succ, List.flatten_cons, rep_sing a n, List.replicate_succ]; rfl
theorem r_rep0 {K : PySem.W.Frag} {H : Hp} {Q : VK} {l : Addr} {k : Int} (s : SqT K H l [.int 0]) (h0 : 0 ≤ k) (h1 : k ≤ 1000) (q : ∀ p H', Ex H H' → SqT K H' p (vI (List.replicate k.toNat 0)) → Q (.ref p) H') : rMulS K (.ref l) (.int k) H Q := by
  by_cases c : k = 0
  · subst c
    exact .inr ⟨l, 0, _, rfl, rfl, s, by simp, by decide, .inr ⟨Int.le_refl _, fun p hp => q p _ (Ex.new hp) (st_of upd_same)⟩⟩
  · by_cases c1 : k = 1
    · subst c1
      exact .inr ⟨l, 1, _, rfl, rfl, s, by simp, by decide, .inl ⟨rfl, q l H (Ex.refl _) s⟩⟩
    · refine .inl (.inr (.inr ⟨l, k, _, rfl, rfl, s, by simp, by omega, h1, by decide, fun p hp => q p _ (Ex.new hp) ?_⟩))
      rw [rep_sing]
      have : vI (List.replicate k.toNat 0) = List.replicate k.toNat (V.int 0) := List.map_replicate ..
      rw [this]
      exact st_of upd_same

end
section
/-- the law's own table behind, of a second one that ends or settles -/
theorem beh_const {h1 l1 h2 l2 : List Int} {r1 r2 : Int} (V2 : Val h2 l2 r2) (c : l2 = [] ∨ r2 = 0) {j : Nat} (hj : h2.length ≤ j) : CV h1 l1 r1 (TV h2 l2 r2) j = valueAt h1 l1 r1 (endOf l2 r2) := by
  unfold CV
  rw [tv_end V2 c hj]
theorem beh_none {h1 l1 h2 l2 : List Int} {r1 r2 : Int} {n : Nat} (V1 : Val h1 l1 r1) (V2 : Val h2 l2 r2) (z : n ≤ 40000) (e : CV h1 l1 r1 (TV h2 l2 r2) n = none) :
    Pl (CV h1 l1 r1 (TV h2 l2 r2)) (cnts ((List.range (n + 1)).map (CV h1 l1 r1 (TV h2 l2 r2)))) [] 0 := by
  obtain ⟨V, T, zl⟩ := val_end (Gd.comp V1 (Gd.of V2)) e (by omega)
  exact ⟨V, plainF_nil, T⟩
theorem beh_set {h1 l1 h2 l2 : List Int} {r1 r2 : Int} {n : Nat} {xs : List Int} (V1 : Val h1 l1 r1) (V2 : Val h2 l2 r2) (c : l2 = [] ∨ r2 = 0) (hn : h2.length ≤ n) (z : n ≤ 40000) (e : CV h1 l1 r1 (TV h2 l2 r2) n ≠ none)
    (hx : xs = (List.range (n + 1)).map fun j => (CV h1 l1 r1 (TV h2 l2 r2) j).getD 0) :
    RSm (xs.take n) (xs.drop n) 0 ∧ xs.length = n + 1 ∧ vI xs = (List.range (n + 1)).map (fun j => optV (CV h1 l1 r1 (TV h2 l2 r2) j)) ∧
      Pl (CV h1 l1 r1 (TV h2 l2 r2)) (plainF (xs.take n) (xs.drop n) 0).1 (plainF (xs.take n) (xs.drop n) 0).2.1 (plainF (xs.take n) (xs.drop n) 0).2.2 := by
  have G := Gd.comp V1 (Gd.of V2)
  have he := fun j (hj : h2.length ≤ j) => beh_const (h1 := h1) (l1 := l1) (r1 := r1) V2 c hj
  have hc : ∀ j, CV h1 l1 r1 (TV h2 l2 r2) j ≠ none := fun j h => by
    have := gd_none G h (j + n) (by omega)
    rw [he _ (by omega), ← he n hn] at this
    exact e this
  obtain ⟨v1, v2⟩ := vals_some (n + 1) fun j _ => hc j
  rw [← hx] at v1 v2
  obtain ⟨a, b, p, _⟩ := go_on G (Nat.le_refl 1) hc (d := 0) (fun j hj => by
    rw [he _ (by omega), he _ (by omega)]
    cases valueAt h1 l1 r1 (endOf l2 r2) with
    | none => rfl
    | some v => exact congrArg some (Int.add_zero v).symm) v2 (by omega) (by decide) (by decide)
  exact ⟨a, b, v1.symm, p⟩
theorem range_last {α : Type} (f : Nat → α) (n : Nat) : atI ((List.range (n + 1)).map f) (-1) = some (f n) := by
  rw [List.range_succ, List.map_append]
  exact atI_last _ _
abbrev spLawBeh (K : PySem.W.Frag) : Sp := sp2 fun a b H Q _ => ∃ (h1 l1 h2 l2 : List Int) (r1 r2 : Int), Dp K H a (dRaw h1 l1 r1) ∧ Dp K H b (dRaw h2 l2 r2) ∧ Val h1 l1 r1 ∧ Val h2 l2 r2 ∧ h2.length + l2.length * (h1.length + l1.length + 1) ≤ 40000 ∧ r1 ≤ 1000000 ∧ r2 ≤ 1000000 ∧
  ∀ v H' h l r, Ex H H' → Dp K H' v (dRaw h l r) → Pl (CV h1 l1 r1 (TV h2 l2 r2)) h l r → Q v H'
abbrev N__law_behind : List Str := ["first", "second", "upto", "values", "start", "turns", "many", "n"]
theorem sc__law_behind : FnScope N__law_behind ["first", "second"] (defScope s__law_behind) := ⟨rfl, rfl, rfl, by decide +kernel, rfl, by decide +kernel, by decide +kernel⟩
theorem ok__law_behind {P : Program} {w : World} {K : PySem.W.Frag} {mg : Str → Option Value} {base : Heap} (E : Env P K mg) : Fn P w K mg base CX0 3 "_law_behind" (spLawBeh K) := by
  obtain ⟨fd, F⟩ := E.dd__law_behind
  refine Fn.mk0 F E.g__law_behind sc__law_behind sp2_len (fun _ _ _ _ _ _ us hl => match us, hl with | [_, _], _ => rfl) (fun cdv A outer s H vs Q X hr h => ?_)
  have nd := sc__law_behind.nd
  obtain ⟨v0, v1, rfl, h⟩ := h
  refine ⟨_, (pss_cons (ps_if (PW.pt (pw_or (pt_cmpR (kEq K hr) (pe_callB (kLen K) (by rfl) E.f_len (by decide +kernel) (pa_cons (pe_ix (kIx K) (pv 1) (pe_int) (fun _ _ => rfl)) pa_nil)) (pe_int) (nomark _)) (pw_or1 (pt_cmpR (kEq K hr) (pe_ix (kIx K) (pv 1) (pe_int) (fun _ _ => rfl)) (pe_int) (nomark _)))))
   (pss_cons (ps_set (i := 2) nd rfl (.inl rfl) (pe_op (kAdd K) (pe_op (kAdd K) (pe_callB (kLen K) (by rfl) E.f_len (by decide +kernel) (pa_cons (pe_ix (kIx K) (pv 1) (pe_int) (fun _ _ => rfl)) pa_nil)) (pe_callB (kLen K) (by rfl) E.f_len (by decide +kernel) (pa_cons (pe_ix (kIx K) (pv 1) (pe_int) (fun _ _ => rfl)) pa_nil))) (pe_int)))
  (pss_cons (ps_setLc (i := 3) (own := [("n", 7)]) (g := gName 7) (tt := tYes) rfl nd rfl rfl (sw_true rfl rfl rfl (by decide +kernel)) (pi_range1 (by rfl) E.f_range (pa_cons (pv 2) pa_nil)) (blkOk_by (N := N__law_behind) (sc := defScope s__law_behind) (by decide +kernel)) (fun _ _ _ _ _ => pg_name (i := 7) nd rfl (Or.inl rfl)) (fun _ _ _ _ _ => pts_nil) (fun _ _ _ _ _ => pc (ok__law_at E) hr (by decide) pass0 rfl (pa_cons (pv 0) (pa_cons (pc (ok__law_at E) hr (by decide) pass0 rfl (pa_cons (pv 1) (pa_cons (pe_op (kAdd K) (pv 7) (pe_int)) pa_nil))) pa_nil))))
  (pss_cons (ps_if (pt_cmpR xIs (pe_ix (kIx K) (pv 3) (pe_un un_neg (pe_int)) (fun _ _ => rfl)) (pe_non) (nomark _))
   (pss_one (ps_ret (pe_tup (pa_cons (pe_callTy (kTup K) (by rfl) E.f_tuple (by decide +kernel) (pa_cons (pc (ok__law_counts E) hr (by decide) pass0 rfl (pa_cons (pv 3) pa_nil)) pa_nil)) (pa_cons (pe_tup pa_nil) (pa_cons (pe_int) pa_nil))))))
   pss_nil)
  (pss_one (ps_ret (pc (ok__law_fit E) hr (by decide) pass0 rfl (pa_cons (pv 3) (pa_cons (pe_int) (pa_cons (pe_int) pa_nil)))))))))
   pss_nil)
  (pss_cons (ps_set (i := 4) nd rfl (.inl rfl) (pe_callB (kLen K) (by rfl) E.f_len (by decide +kernel) (pa_cons (pe_ix (kIx K) (pv 1) (pe_int) (fun _ _ => rfl)) pa_nil)))
  (pss_cons (ps_while PassesOwn.never (pt_cmpR op_le (pc (ok__law_at E) hr (by decide) pass0 rfl (pa_cons (pv 1) (pa_cons (pe_op (kAdd K) (pv 4) (pe_int)) pa_nil))) (pe_callB (kLen K) (by rfl) E.f_len (by decide +kernel) (pa_cons (pe_ix (kIx K) (pv 0) (pe_int) (fun _ _ => rfl)) pa_nil)) (nomark _))
   (pss_one (ps_set (i := 4) nd rfl (.inl rfl) (pe_op (kAdd K) (pv 4) (pe_int)))))
  (pss_cons (ps_if (pt_cmpR (kEq K hr) (pe_callB (kLen K) (by rfl) E.f_len (by decide +kernel) (pa_cons (pe_ix (kIx K) (pv 0) (pe_int) (fun _ _ => rfl)) pa_nil)) (pe_int) (nomark _))
   (pss_cons (ps_setLc (i := 3) (own := [("n", 7)]) (g := gName 7) (tt := tYes) rfl nd rfl rfl (sw_true rfl rfl rfl (by decide +kernel)) (pi_range1 (by rfl) E.f_range (pa_cons (pe_op (kAdd K) (pv 4) (pe_int)) pa_nil)) (blkOk_by (N := N__law_behind) (sc := defScope s__law_behind) (by decide +kernel)) (fun _ _ _ _ _ => pg_name (i := 7) nd rfl (Or.inl rfl)) (fun _ _ _ _ _ => pts_nil) (fun _ _ _ _ _ => pc (ok__law_at E) hr (by decide) pass0 rfl (pa_cons (pv 0) (pa_cons (pc (ok__law_at E) hr (by decide) pass0 rfl (pa_cons (pv 1) (pa_cons (pe_op (kAdd K) (pv 7) (pe_int)) pa_nil))) pa_nil))))
  (pss_one (ps_ret (pe_tup (pa_cons (pe_callTy (kTup K) (by rfl) E.f_tuple (by decide +kernel) (pa_cons (pc (ok__law_counts E) hr (by decide) pass0 rfl (pa_cons (pv 3) pa_nil)) pa_nil)) (pa_cons (pe_tup pa_nil) (pa_cons (pe_int) pa_nil)))))))
   pss_nil)
  (pss_cons (ps_set (i := 5) nd rfl (.inl rfl) (pe_op xDiv (pe_callB (kLen K) (by rfl) E.f_len (by decide +kernel) (pa_cons (pe_ix (kIx K) (pv 0) (pe_int) (fun _ _ => rfl)) pa_nil)) (pc (ok__law_gcd E) hr (by decide) pass0 rfl (pa_cons (pe_callB (kLen K) (by rfl) E.f_len (by decide +kernel) (pa_cons (pe_ix (kIx K) (pv 0) (pe_int) (fun _ _ => rfl)) pa_nil)) (pa_cons (pe_ix (kIx K) (pv 1) (pe_int) (fun _ _ => rfl)) pa_nil)))))
  (pss_cons (ps_set (i := 6) nd rfl (.inl rfl) (pe_op (kMul K) (pe_callB (kLen K) (by rfl) E.f_len (by decide +kernel) (pa_cons (pe_ix (kIx K) (pv 1) (pe_int) (fun _ _ => rfl)) pa_nil)) (pv 5)))
  (pss_cons (ps_setLc (i := 3) (own := [("n", 7)]) (g := gName 7) (tt := tYes) rfl nd rfl rfl (sw_true rfl rfl rfl (by decide +kernel)) (pi_range1 (by rfl) E.f_range (pa_cons (pe_op (kAdd K) (pv 4) (pv 6)) pa_nil)) (blkOk_by (N := N__law_behind) (sc := defScope s__law_behind) (by decide +kernel)) (fun _ _ _ _ _ => pg_name (i := 7) nd rfl (Or.inl rfl)) (fun _ _ _ _ _ => pts_nil) (fun _ _ _ _ _ => pc (ok__law_at E) hr (by decide) pass0 rfl (pa_cons (pv 0) (pa_cons (pc (ok__law_at E) hr (by decide) pass0 rfl (pa_cons (pv 1) (pa_cons (pe_op (kAdd K) (pv 7) (pe_int)) pa_nil))) pa_nil))))
  (pss_one (ps_ret (pc (ok__law_fit E) hr (by decide) pass0 rfl (pa_cons (pv 3) (pa_cons (pv 6) (pa_cons (pe_op (kMul K) (pe_ix (kIx K) (pv 0) (pe_int) (fun _ _ => rfl)) (pe_op xDiv (pe_op (kMul K) (pe_ix (kIx K) (pv 1) (pe_int) (fun _ _ => rfl)) (pv 5)) (pe_callB (kLen K) (by rfl) E.f_len (by decide +kernel) (pa_cons (pe_ix (kIx K) (pv 0) (pe_int) (fun _ _ => rfl)) pa_nil)))) pa_nil))))))))))))), ?_⟩
  change (_ : TS) _ [some v0, some v1, none, none, none, none, none, none] H
  try dsimp only [cxOf, Cx.nox, Cx.blk]
  obtain ⟨h1, l1, h2, l2, r1, r2, d1, d2, V1, V2, zz, z1, z2, k⟩ := h
  obtain ⟨a1, th1, tl1, rfl, s1, s2, s3⟩ := dp_raw d1
  obtain ⟨a2, th2, tl2, rfl, t1, t2, t3⟩ := dp_raw d2
  have zz' : h2.length + l2.length * (h1.length + 1) ≤ 40000 := Nat.le_trans (Nat.add_le_add_left (Nat.mul_le_mul_left _ (by omega)) _) zz
  have zs : h2.length + l2.length ≤ 40000 := by
    have := Nat.le_mul_of_pos_right l2.length (show 0 < h1.length + 1 by omega)
    omega
  walk_at "w"
  by_cases c : l2 = [] ∨ r2 = 0
  · rcases Decidable.em (l2 = []) with q | q
    case' inl =>
      have q0 : l2.length = 0 := by rw [q]; rfl
      rw [if_pos (show decide ((l2.length : Int) = 0) = true from decide_eq_true (by omega)), if_pos rfl]
      walk_at "w"
    case' inr =>
      have q0 : 0 < l2.length := List.length_pos_iff.mpr q
      have q1 : r2 = 0 := c.resolve_left q
      rw [if_neg (show ¬ decide ((l2.length : Int) = 0) = true from fun h => by have := of_decide_eq_true h; omega)]
      walk_at "w"
    all_goals
      refine lcJ_r0 (n := h2.length + l2.length + 1) (v := fun j => optV (CV h1 l1 r1 (TV h2 l2 r2) j)) (by omega) (fun x => [_, _, _, _, _, _, _, some x]) (fun x => rfl) (fun x => rfl) (fun j H2 Q' e2 hj hq => ?_) (fun p2 H2 n2 e2 g2 => ?_)
      · walk_at "w"
        have e12 := e2
        refine ⟨h2, l2, r2, some ((j : Int) + 1), dp_of_raw (ex_t e12 t1) (ex_t e12 t2) (ex_t e12 t3), dp_of_opt (p := some _), fun i hi => by cases hi; omega, V2.sm, fun v H3 e3 q3 => ?_⟩
        obtain rfl := dp_toOpt q3
        walk_at "w"
        have e13 := e12.trans e3
        refine ⟨h1, l1, r1, valueAt h2 l2 r2 (some ((j : Int) + 1)), dp_of_raw (ex_t e13 s1) (ex_t e13 s2) (ex_t e13 s3), dp_of_opt, valueAt_nn V2.p1 V2.p2 V2.r0 _, V1.sm, fun v H4 e4 q4 => ?_⟩
        obtain rfl := dp_toOpt q4
        rw [show valueAt h2 l2 r2 (some ((j : Int) + 1)) = TV h2 l2 r2 j from vat_TV j]
        exact hq _ (e3.trans e4)
      · have hL : SqL K H2 p2 ((List.range (h2.length + l2.length + 1)).map fun j => optV (CV h1 l1 r1 (TV h2 l2 r2) j)) := sq_of g2
        walk_at "w"
        refine r_ixL hL (range_last _ _) ?_
        walk_at "w"
        by_cases ce : CV h1 l1 r1 (TV h2 l2 r2) (h2.length + l2.length) = none
        · rw [ce]
          simp only [optV]
          walk_at "w"
          refine ⟨p2, (List.range (h2.length + l2.length + 1)).map (CV h1 l1 r1 (TV h2 l2 r2)), rfl, by rw [List.map_map]; exact hL, by rw [List.length_map, List.length_range]; omega, fun p10 H10 n10 e10 h10 => ?_⟩
          walk_at "w"
          intro p11 H11 e11 s11
          walk_at "w"
          intro p12 H12 n12 e12 h12
          walk_at "w"
          intro p13 H13 n13 e13 h13
          exact k _ _ _ [] 0 (e2.trans (by walk_at "ex")) (dp_of_raw (st_of h13) (ex_t e13 (ex_t e12 s11)) (ex_t e13 (st_of h12))) (beh_none V1 V2 zs ce)
        · obtain ⟨w1, w2, w3, w4⟩ := beh_set (xs := (List.range (h2.length + l2.length + 1)).map fun j => (CV h1 l1 r1 (TV h2 l2 r2) j).getD 0) V1 V2 c (Nat.le_add_right ..) zs ce rfl
          obtain ⟨vv, cv⟩ : ∃ vv, CV h1 l1 r1 (TV h2 l2 r2) (h2.length + l2.length) = some vv := by
            cases q : CV h1 l1 r1 (TV h2 l2 r2) (h2.length + l2.length) with
            | none => exact absurd q ce
            | some vv => exact ⟨vv, rfl⟩
          rw [cv]
          simp only [optV]
          walk_at "w"
          rw [← w3] at hL
          exact ⟨p2, _, h2.length + l2.length, 1, 0, rfl, rfl, rfl, hL, w2, Int.le_refl _, w1, fun v H10 e10 d10 => k v H10 _ _ _ (e2.trans e10) d10 w4⟩
  · have c2 : l2 ≠ [] := fun e => c (.inl e)
    have hr : 0 < r2 := by
      have := V2.r0
      have : ¬ r2 = 0 := fun e => c (.inr e)
      omega
    have l20 : 0 < l2.length := List.length_pos_iff.mpr c2
    have hr0 : r2 ≠ 0 := by omega
    have GM := grows V2 c2 hr h1.length
    generalize hM : h2.length + l2.length * (h1.length + 1) = M at *
    walk_at "w"
    refine ⟨fun w σ' H' => ∃ p : Nat, σ' = [some (.ref a1), some (.ref a2), none, none, some (.int p), none, none, none] ∧ Ex H H' ∧ h2.length ≤ p ∧ (∀ j, h2.length ≤ j → j < p → fV h2 l2 r2 j ≤ h1.length) ∧ w = M - p, ⟨M - h2.length, h2.length, rfl, Ex.refl _, Nat.le_refl _, fun j x1 x2 => by omega, rfl⟩, ?_⟩
    rintro w σ' H1 ⟨p, rfl, e1, hp, hlo, rfl⟩
    walk_at "w"
    refine ⟨h2, l2, r2, some ((p : Int) + 1), dp_of_raw (ex_t e1 t1) (ex_t e1 t2) (ex_t e1 t3), dp_of_opt (p := some _), fun i hi => by cases hi; omega, V2.sm, fun v H2 e2 q2 => ?_⟩
    rw [show valueAt h2 l2 r2 (some ((p : Int) + 1)) = some (fV h2 l2 r2 p) from vat_fV c2 _] at q2
    obtain rfl := dp_toOpt q2
    simp only [optV]
    have e02 := e1.trans e2
    have S1 := ex_t e02 s1
    have S2 := ex_t e02 s2
    have S3 := ex_t e02 s3
    have T1 := ex_t e02 t1
    have T2 := ex_t e02 t2
    have T3 := ex_t e02 t3
    walk_at "w"
    by_cases cp : fV h2 l2 r2 p ≤ h1.length
    · walk_at "w"
      refine ⟨_, fun σ2 H2 h2 => h2, ?_⟩
      walk_at "w"
      have c2 : p < M := by
        by_cases q : p < M
        · exact q
        · have := fV_mono V2 c2 (show M ≤ p by omega)
          omega
      refine ⟨M - (p + 1), by omega, p + 1, rfl, e02, by omega, fun j x1 x2 => ?_, rfl⟩
      by_cases q : j = p
      · subst q; exact cp
      · exact hlo j x1 (by omega)
    · have B : Beyond (fV h2 l2 r2) h2.length h1.length p := ⟨hp, by omega, hlo⟩
      have zp := B.le (by omega) GM
      walk_at "w"
      by_cases c1 : l1 = []
      · have q0 : l1.length = 0 := by rw [c1]; rfl
        have cn : CV h1 l1 r1 (TV h2 l2 r2) p = none := by
          unfold CV
          rw [tv_some c2, c1]
          exact vat_over B.hi
        rw [if_pos (show decide ((l1.length : Int) = 0) = true from decide_eq_true (by omega))]
        walk_at "w"
        refine lcJ_r0 (n := p + 1) (v := fun j => optV (CV h1 l1 r1 (TV h2 l2 r2) j)) (by omega) (fun x => [_, _, _, _, _, _, _, some x]) (fun x => rfl) (fun x => rfl) (fun j H3 Q' e3 hj hq => ?_) (fun p3 H3 n3 e3 g3 => ?_)
        · walk_at "w"
          have e12 := e02.trans e3
          refine ⟨h2, l2, r2, some ((j : Int) + 1), dp_of_raw (ex_t e12 t1) (ex_t e12 t2) (ex_t e12 t3), dp_of_opt (p := some _), fun i hi => by cases hi; omega, V2.sm, fun v H5 e5 q5 => ?_⟩
          obtain rfl := dp_toOpt q5
          walk_at "w"
          have e13 := e12.trans e5
          refine ⟨h1, l1, r1, valueAt h2 l2 r2 (some ((j : Int) + 1)), dp_of_raw (ex_t e13 s1) (ex_t e13 s2) (ex_t e13 s3), dp_of_opt, valueAt_nn V2.p1 V2.p2 V2.r0 _, V1.sm, fun v H6 e6 q6 => ?_⟩
          obtain rfl := dp_toOpt q6
          rw [show valueAt h2 l2 r2 (some ((j : Int) + 1)) = TV h2 l2 r2 j from vat_TV j]
          exact hq _ (e5.trans e6)
        · walk_at "w"
          refine ⟨p3, (List.range (p + 1)).map (CV h1 l1 r1 (TV h2 l2 r2)), rfl, by rw [List.map_map]; exact sq_of g3, by rw [List.length_map, List.length_range]; omega, fun p10 H10 n10 e10 h10 => ?_⟩
          walk_at "w"
          intro p11 H11 e11 s11
          walk_at "w"
          intro p12 H12 n12 e12 h12
          walk_at "w"
          intro p13 H13 n13 e13 h13
          exact k _ _ _ [] 0 (e02.trans (e3.trans (by walk_at "ex"))) (dp_of_raw (st_of h13) (ex_t e13 (ex_t e12 s11)) (ex_t e13 (st_of h12))) (beh_none V1 V2 (by omega) cn)
      · have l10 : 0 < l1.length := List.length_pos_iff.mpr c1
        walk_at "w"
        refine ⟨l1.length, r2, rfl, rfl, by omega, by omega, ?_⟩
        obtain ⟨t, e, t0, dt, ht, he, he2⟩ := turns_ok l10 hr
        have g0 : (0 : Int) < Int.gcd l1.length r2 := by
          have := Int.gcd_pos_of_ne_zero_left r2 (show (l1.length : Int) ≠ 0 by omega)
          omega
        have zl1 : l1.length ≤ 40000 := by
          have := Nat.le_mul_of_pos_left (h1.length + l1.length + 1) l20
          omega
        have g1 : (Int.gcd l1.length r2 : Int) ≤ l1.length := Int.le_of_dvd (by omega) (Int.gcd_dvd_left ..)
        obtain ⟨w1, w2, w3, w4, w5, w6, w7⟩ := cmp_go (xs := (List.range (p + l2.length * t)).map fun j => (CV h1 l1 r1 (TV h2 l2 r2) j).getD 0) V1 V2 c1 c2 hr zz z1 z2 B t0 dt he rfl
        have zt : t ≤ l1.length := Nat.le_of_dvd l10 dt
        have zl2 : l2.length ≤ 40000 := by omega
        have r10 := V1.r0
        have er : (e : Int) ≤ r2 := by
          have a : r2 * t ≤ r2 * l1.length := Int.mul_le_mul_of_nonneg_left (by omega) (by omega)
          rw [he, Int.natCast_mul, Int.mul_comm r2] at a
          exact Int.le_of_mul_le_mul_left a (by omega)
        walk_at "w"
        rw [ht]
        walk_at "w"
        rw [← Int.natCast_mul]
        generalize hm : l2.length * t = m at *
        refine lcJ_r0 (n := p + m) (v := fun j => optV (CV h1 l1 r1 (TV h2 l2 r2) j)) (by omega) (fun x => [_, _, _, _, _, _, _, some x]) (fun x => rfl) (fun x => rfl) (fun j H3 Q' e3 hj hq => ?_) (fun p3 H3 n3 e3 g3 => ?_)
        · walk_at "w"
          have e12 := e02.trans e3
          refine ⟨h2, l2, r2, some ((j : Int) + 1), dp_of_raw (ex_t e12 t1) (ex_t e12 t2) (ex_t e12 t3), dp_of_opt (p := some _), fun i hi => by cases hi; omega, V2.sm, fun v H5 e5 q5 => ?_⟩
          obtain rfl := dp_toOpt q5
          walk_at "w"
          have e13 := e12.trans e5
          refine ⟨h1, l1, r1, valueAt h2 l2 r2 (some ((j : Int) + 1)), dp_of_raw (ex_t e13 s1) (ex_t e13 s2) (ex_t e13 s3), dp_of_opt, valueAt_nn V2.p1 V2.p2 V2.r0 _, V1.sm, fun v H6 e6 q6 => ?_⟩
          obtain rfl := dp_toOpt q6
          rw [show valueAt h2 l2 r2 (some ((j : Int) + 1)) = TV h2 l2 r2 j from vat_TV j]
          exact hq _ (e5.trans e6)
        · rw [← w3] at g3
          walk_at "w"
          rw [he2]
          exact ⟨p3, _, p, m, r1 * e, rfl, rfl, rfl, sq_of g3, w2, w6, w1, fun v H4 e4 d4 => k v H4 _ _ _ (e02.trans (e3.trans e4)) d4 w7.pl⟩

end
section
theorem at_ext {h l h' l' : List Int} {r r' : Int} (V : Val h l r) (V' : Val h' l' r') (e : ∀ j, TV h l r j = TV h' l' r' j) {p : Option Int} (hp : Cnt p) : valueAt h l r p = valueAt h' l' r' p := by
  rcases at_cases hp with rfl | rfl | ⟨j, rfl⟩
  · have a := end_of_tab V
    rw [show TV h l r = TV h' l' r' from funext e] at a
    exact a.uniq (end_of_tab V')
  · rw [vat_zero, vat_zero]
  · show vat _ _ _ _ = vat _ _ _ _
    rw [vat_TV, vat_TV, e]
theorem cv_plain {h1 l1 h2 l2 : List Int} {r1 r2 : Int} (V1 : Val h1 l1 r1) (V2 : Val h2 l2 r2) :
    CV (plainF h1 l1 r1).1 (plainF h1 l1 r1).2.1 (plainF h1 l1 r1).2.2 (TV (plainF h2 l2 r2).1 (plainF h2 l2 r2).2.1 (plainF h2 l2 r2).2.2) = CV h1 l1 r1 (TV h2 l2 r2) := by
  obtain ⟨a1, b1, _⟩ := plainF_val V1
  obtain ⟨a2, b2, _⟩ := plainF_val V2
  rw [show TV (plainF h2 l2 r2).1 (plainF h2 l2 r2).2.1 (plainF h2 l2 r2).2.2 = TV h2 l2 r2 from funext b2]
  exact funext fun j => at_ext a1 V1 b1 ((Gd.of V2).nn j)
theorem bs_zz {h1 l1 h2 l2 : List Int} {r1 r2 : Int} (X : Bs h1 l1 r1) (Y : Bs h2 l2 r2) : h2.length + l2.length * (h1.length + l1.length + 1) ≤ 40000 := by
  have a := X.zh
  have b := X.zl
  have c := Y.zh
  have m := Nat.mul_le_mul Y.zl (show h1.length + l1.length + 1 ≤ 9 by omega)
  omega
theorem raw_zz {h1 l1 h2 l2 : List Int} {r1 r2 : Int} (X : RawOk h1 l1 r1) (Y : RawOk h2 l2 r2) : h2.length + l2.length * (h1.length + l1.length + 1) ≤ 40000 := by
  have a := X.zh
  have b := X.zl
  have c := Y.zh
  have m := Nat.mul_le_mul Y.zl (show h1.length + l1.length + 1 ≤ 9 by omega)
  omega
section
variable {K : PySem.W.Frag} {H : Hp} {Q : VK}
theorem r_mulT {x y : Addr} {h1 l1 h2 l2 : List Int} {r1 r2 : Int} (t1 : TabAt K H x h1 l1 r1) (t2 : TabAt K H y h2 l2 r2) (V1 : Val h1 l1 r1) (V2 : Val h2 l2 r2) (zz : h2.length + l2.length * (h1.length + l1.length + 1) ≤ 40000) (z1 : r1 ≤ 1000000) (z2 : r2 ≤ 1000000)
    (k : ∀ z H' h l r, Ex H H' → TabAt K H' z h l r → Cmp h1 l1 r1 h2 l2 r2 h l r → Q (.ref z) H') : rOwnB (He.ga K "Table") (spMul K) (.ref x) (.ref y) H Q := by
  obtain ⟨dx, th, tl, i, _⟩ := id t1
  obtain ⟨dy, th2, tl2, j, _⟩ := id t2
  exact r_ownB i j ⟨x, y, h1, l1, h2, l2, r1, r2, rfl, rfl, t1, t2, V1, V2, zz, z1, z2, fun z H' h l r e t C => ⟨⟨_, rfl⟩, k z H' h l r e t C⟩⟩
end

end
section
/-- a number's text -/
def nS (n : Int) : Str := Str.ofString (toString n)
/-- numbers of at most 60 figures -/
def Sml (n : Int) : Prop := 0 ≤ n ∧ n < 10 ^ 60
def dg (c : Nat) : Bool := decide (48 ≤ c) && decide (c ≤ 57)
/-- the number that a word tells, if it is one -/
def numO (w : Str) : Option Int := if w.cps.toList.all dg = true then intText? w else none
theorem nS_list (n : Nat) : (nS n).cps.toList = TL.numL n := TL.tl_num n
theorem nS_tl (n : Nat) : TL.tl (nS n) = TL.numL n := TL.tl_num n
theorem numL_head {n : Nat} (h : 1 ≤ n) : ∃ c r, TL.numL n = c :: r ∧ c ≠ 48 := by
  induction n using Nat.strongRecOn with
  | _ n ih =>
    by_cases c : n < 10
    · exact ⟨48 + n, [], TL.numL_lt c, by omega⟩
    · obtain ⟨d, r, e, ne⟩ := ih (n / 10) (by omega) (by omega)
      exact ⟨d, r ++ [48 + n % 10], by rw [TL.numL_step (by omega), e]; rfl, ne⟩
theorem nS_num {n : Int} (h : Sml n) : ∃ k : Nat, n = k ∧ k < 10 ^ 60 := by
  obtain ⟨k, rfl⟩ := Int.eq_ofNat_of_zero_le h.1
  refine ⟨k, rfl, ?_⟩
  have := h.2
  have e : ((10 : Int) ^ 60) = ((10 ^ 60 : Nat) : Int) := by decide
  rw [e] at this
  exact Int.ofNat_lt.mp this
theorem nS_len {n : Int} (h : Sml n) : 1 ≤ (nS n).length ∧ (nS n).length ≤ 60 := by
  obtain ⟨k, rfl, hk⟩ := nS_num h
  rw [TL.len_tl, nS_tl]
  refine ⟨?_, TL.numL_len (by decide) hk⟩
  have := List.length_pos_iff.mpr (TL.numL_ne k)
  omega
theorem nS_free {n : Int} (h : Sml n) : 32 ∉ (nS n).cps.toList := by
  obtain ⟨k, rfl, hk⟩ := nS_num h
  rw [nS_list]
  exact TL.numL_free (.inl (by decide))
theorem nS_log {n : Int} (h : Sml n) : n.natAbs.log2 < 1920 := by
  obtain ⟨k, rfl, hk⟩ := nS_num h
  show (Int.natAbs (k : Int)).log2 < 1920
  rw [Int.natAbs_natCast]
  by_cases c : k = 0
  · rw [c]; decide
  · rw [Nat.log2_lt c]
    exact Nat.lt_of_lt_of_le hk (by decide +kernel)
theorem nS_numO {n : Int} (h : Sml n) : numO (nS n) = some n := by
  have hl := (nS_len h).2
  obtain ⟨k, rfl, hk⟩ := nS_num h
  unfold numO
  rw [if_pos]
  · refine TL.int_num ?_
    rw [TL.len_tl, nS_tl] at hl
    omega
  · rw [nS_list, List.all_eq_true]
    intro c hc
    have := TL.numL_digits k c hc
    unfold dg
    rw [decide_eq_true this.1, decide_eq_true this.2]
    rfl
/-- a word that number_of reads -/
structure Wok (w : Str) : Prop where
  l1 : 1 ≤ w.length
  l2 : w.length ≤ 60
  hd : ∃ c r, w.cps.toList = c :: r ∧ (1 < w.length → c ≠ 48)
  nm : w.cps.toList.all dg = true → intText? w ≠ none
theorem Wok.num {n : Int} (h : Sml n) : Wok (nS n) := by
  obtain ⟨a, b⟩ := nS_len h
  have e := nS_numO h
  refine ⟨a, b, ?_, fun q => ?_⟩
  · obtain ⟨k, rfl, hk⟩ := nS_num h
    by_cases c : 1 ≤ k
    · obtain ⟨d, r, e, ne⟩ := numL_head c
      exact ⟨d, r, by rw [nS_list, e], fun _ => ne⟩
    · have k0 : k = 0 := by omega
      subst k0
      refine ⟨48, [], by rw [nS_list]; exact TL.numL_lt (by decide), fun h => ?_⟩
      rw [TL.len_tl, show TL.tl (nS ((0 : Nat) : Int)) = TL.numL 0 from nS_tl 0, TL.numL_lt (by decide)] at h
      exact absurd h (by decide)
  · unfold numO at e
    rw [if_pos q] at e
    rw [e]
    exact fun h => nomatch h
theorem Wok.never : Wok "never" ∧ numO "never" = none := ⟨⟨by decide +kernel, by decide +kernel, ⟨110, [101, 118, 101, 114], by decide +kernel, fun _ => by decide⟩, fun h => absurd h (by decide +kernel)⟩, if_neg (by decide +kernel)⟩
theorem Wok.then_ : Wok "then" ∧ numO "then" = none := ⟨⟨by decide +kernel, by decide +kernel, ⟨116, [104, 101, 110], by decide +kernel, fun _ => by decide⟩, fun h => absurd h (by decide +kernel)⟩, if_neg (by decide +kernel)⟩
theorem Wok.up : Wok "up" ∧ numO "up" = none := ⟨⟨by decide +kernel, by decide +kernel, ⟨117, [112], by decide +kernel, fun _ => by decide⟩, fun h => absurd h (by decide +kernel)⟩, if_neg (by decide +kernel)⟩
theorem nS_ne {n : Int} (h : Sml n) : nS n ≠ "never" ∧ nS n ≠ "then" ∧ nS n ≠ "up" := by
  have e := nS_numO h
  refine ⟨fun q => ?_, fun q => ?_, fun q => ?_⟩
  · rw [q, Wok.never.2] at e; cases e
  · rw [q, Wok.then_.2] at e; cases e
  · rw [q, Wok.up.2] at e; cases e
/-- the words of a table's text -/
def textL (h l : List Int) (r : Int) : List Str := h.map nS ++ (if l = [] then [("never" : Str)] else ("then" : Str) :: (l.map nS ++ [("up" : Str), nS r]))
def textOf (h l : List Int) (r : Int) : Str := Txt.join " " (textL h l r)
/-- tables with texts -/
structure Twr (h l : List Int) (r : Int) : Prop where
  sh : ∀ n ∈ h, Sml n
  sl : ∀ n ∈ l, Sml n
  sr : Sml r
  zh : h.length ≤ 1000
  zl : l.length ≤ 1000
theorem textL_ne (h l : List Int) (r : Int) : textL h l r ≠ [] := by
  unfold textL
  intro e
  have := (List.append_eq_nil_iff.mp e).2
  by_cases c : l = []
  · rw [if_pos c] at this; cases this
  · rw [if_neg c] at this; cases this
theorem textL_word {h l : List Int} {r : Int} (T : Twr h l r) : ∀ w ∈ textL h l r, w.length ≤ 60 ∧ 32 ∉ w.cps.toList := by
  have nm : ∀ n, Sml n → (nS n).length ≤ 60 ∧ 32 ∉ (nS n).cps.toList := fun n h => ⟨(nS_len h).2, nS_free h⟩
  intro w hw
  unfold textL at hw
  rcases List.mem_append.mp hw with hw | hw
  · obtain ⟨n, hn, rfl⟩ := List.mem_map.mp hw
    exact nm n (T.sh n hn)
  · by_cases c : l = []
    · rw [if_pos c, List.mem_singleton] at hw
      rw [hw]
      exact ⟨by decide +kernel, by decide +kernel⟩
    · rw [if_neg c] at hw
      rcases List.mem_cons.mp hw with rfl | hw
      · exact ⟨by decide +kernel, by decide +kernel⟩
      · rcases List.mem_append.mp hw with hw | hw
        · obtain ⟨n, hn, rfl⟩ := List.mem_map.mp hw
          exact nm n (T.sl n hn)
        · rcases List.mem_cons.mp hw with rfl | hw
          · exact ⟨by decide +kernel, by decide +kernel⟩
          · rw [List.mem_singleton] at hw
            rw [hw]
            exact nm r T.sr
theorem textL_len {h l : List Int} {r : Int} (T : Twr h l r) : (textL h l r).length ≤ 2003 := by
  have := T.zh
  have := T.zl
  unfold textL
  rw [List.length_append, List.length_map]
  by_cases c : l = []
  · rw [if_pos c]
    show h.length + 1 ≤ 2003
    omega
  · rw [if_neg c, List.length_cons, List.length_append, List.length_map]
    show h.length + (l.length + 2 + 1) ≤ 2003
    omega
theorem sum_le {k : Nat} : ∀ {ws : List Str}, (∀ w ∈ ws, w.length ≤ k) → (ws.map (·.length)).sum ≤ k * ws.length
  | [], _ => Nat.zero_le _
  | w :: ws, h => by
    rw [List.map_cons, List.sum_cons, List.length_cons, Nat.mul_succ]
    have := sum_le fun x hx => h x (List.mem_cons_of_mem _ hx)
    have := h w List.mem_cons_self
    omega
theorem textL_size {h l : List Int} {r : Int} (T : Twr h l r) : ((textL h l r).map (·.length)).sum + (textL h l r).length * (" " : Str).length ≤ 16777216 := by
  have a := sum_le fun w hw => (textL_word T w hw).1
  have b := textL_len T
  have c : (" " : Str).length = 1 := by decide +kernel
  rw [c]
  omega
theorem textOf_split {h l : List Int} {r : Int} (T : Twr h l r) : Txt.split (textOf h l r) " " = textL h l r :=
  TL.split_join (s := 32) (S := []) (by decide +kernel) (by decide +kernel) (textL_ne h l r) fun w hw => (textL_word T w hw).2

end
section
theorem bw_words_place : ((("words" : Str) = "place")) = False := eq_false (by decide +kernel)
theorem bw_words_ahead : ((("words" : Str) = "ahead")) = False := eq_false (by decide +kernel)
theorem bw_words_step : ((("words" : Str) = "step")) = False := eq_false (by decide +kernel)
theorem bw_words_take_counts : ((("words" : Str) = "take_counts")) = False := eq_false (by decide +kernel)
theorem bw_words_take_rise : ((("words" : Str) = "take_rise")) = False := eq_false (by decide +kernel)
theorem bw_words_close : ((("words" : Str) = "close")) = False := eq_false (by decide +kernel)
theorem bw_place_words : ((("place" : Str) = "words")) = False := eq_false (by decide +kernel)
theorem bw_place_ahead : ((("place" : Str) = "ahead")) = False := eq_false (by decide +kernel)
theorem bw_place_step : ((("place" : Str) = "step")) = False := eq_false (by decide +kernel)
theorem bw_place_take_counts : ((("place" : Str) = "take_counts")) = False := eq_false (by decide +kernel)
theorem bw_place_take_rise : ((("place" : Str) = "take_rise")) = False := eq_false (by decide +kernel)
theorem bw_place_close : ((("place" : Str) = "close")) = False := eq_false (by decide +kernel)
theorem bw_ahead_words : ((("ahead" : Str) = "words")) = False := eq_false (by decide +kernel)
theorem bw_ahead_place : ((("ahead" : Str) = "place")) = False := eq_false (by decide +kernel)
theorem bw_step_words : ((("step" : Str) = "words")) = False := eq_false (by decide +kernel)
theorem bw_step_place : ((("step" : Str) = "place")) = False := eq_false (by decide +kernel)
theorem bw_take_counts_words : ((("take_counts" : Str) = "words")) = False := eq_false (by decide +kernel)
theorem bw_take_counts_place : ((("take_counts" : Str) = "place")) = False := eq_false (by decide +kernel)
theorem bw_take_rise_words : ((("take_rise" : Str) = "words")) = False := eq_false (by decide +kernel)
theorem bw_take_rise_place : ((("take_rise" : Str) = "place")) = False := eq_false (by decide +kernel)
theorem bw_close_words : ((("close" : Str) = "words")) = False := eq_false (by decide +kernel)
theorem bw_close_place : ((("close" : Str) = "place")) = False := eq_false (by decide +kernel)
theorem bwR (a : Str) : (a = a) = True := eq_self a
/-- the fields of a reader of words -/
def wF (q : Addr) (i : Int) : List (Str × V) := [("words", .ref q), ("place", .int i)]
section
variable {q : Addr} {i j : Int}
theorem wF_c : wF q i = putF "place" (.int i) (putF "words" (.ref q) []) := by unfold wF; simp only [putF, bw_words_place, bw_words_ahead, bw_words_step, bw_words_take_counts, bw_words_take_rise, bw_words_close, bw_place_words, bw_place_ahead, bw_place_step, bw_place_take_counts, bw_place_take_rise, bw_place_close, bw_ahead_words, bw_ahead_place, bw_step_words, bw_step_place, bw_take_counts_words, bw_take_counts_place, bw_take_rise_words, bw_take_rise_place, bw_close_words, bw_close_place, bwR, if_true, if_false]
theorem wF_p : putF "place" (.int j) (wF q i) = wF q j := by unfold wF; simp only [putF, bw_words_place, bw_words_ahead, bw_words_step, bw_words_take_counts, bw_words_take_rise, bw_words_close, bw_place_words, bw_place_ahead, bw_place_step, bw_place_take_counts, bw_place_take_rise, bw_place_close, bw_ahead_words, bw_ahead_place, bw_step_words, bw_step_place, bw_take_counts_words, bw_take_counts_place, bw_take_rise_words, bw_take_rise_place, bw_close_words, bw_close_place, bwR, if_true, if_false]
theorem wF_len : (wF q i).length < 1000 := show 2 < 1000 by decide
theorem wF_words : (wF q i).lookup ("words" : Str) = some (.ref q) := by rw [wF_c]; simp only [lookup_putF, bw_words_place, bw_words_ahead, bw_words_step, bw_words_take_counts, bw_words_take_rise, bw_words_close, bw_place_words, bw_place_ahead, bw_place_step, bw_place_take_counts, bw_place_take_rise, bw_place_close, bw_ahead_words, bw_ahead_place, bw_step_words, bw_step_place, bw_take_counts_words, bw_take_counts_place, bw_take_rise_words, bw_take_rise_place, bw_close_words, bw_close_place, bwR, if_true, if_false]
theorem wF_place : (wF q i).lookup ("place" : Str) = some (.int i) := by rw [wF_c]; simp only [lookup_putF, bw_words_place, bw_words_ahead, bw_words_step, bw_words_take_counts, bw_words_take_rise, bw_words_close, bw_place_words, bw_place_ahead, bw_place_step, bw_place_take_counts, bw_place_take_rise, bw_place_close, bw_ahead_words, bw_ahead_place, bw_step_words, bw_step_place, bw_take_counts_words, bw_take_counts_place, bw_take_rise_words, bw_take_rise_place, bw_close_words, bw_close_place, bwR, if_true, if_false]
theorem wF_no_ahead : (wF q i).lookup ("ahead" : Str) = none := by rw [wF_c]; simp only [lookup_putF, bw_words_place, bw_words_ahead, bw_words_step, bw_words_take_counts, bw_words_take_rise, bw_words_close, bw_place_words, bw_place_ahead, bw_place_step, bw_place_take_counts, bw_place_take_rise, bw_place_close, bw_ahead_words, bw_ahead_place, bw_step_words, bw_step_place, bw_take_counts_words, bw_take_counts_place, bw_take_rise_words, bw_take_rise_place, bw_close_words, bw_close_place, bwR, if_true, if_false]; rfl
theorem wF_no_step : (wF q i).lookup ("step" : Str) = none := by rw [wF_c]; simp only [lookup_putF, bw_words_place, bw_words_ahead, bw_words_step, bw_words_take_counts, bw_words_take_rise, bw_words_close, bw_place_words, bw_place_ahead, bw_place_step, bw_place_take_counts, bw_place_take_rise, bw_place_close, bw_ahead_words, bw_ahead_place, bw_step_words, bw_step_place, bw_take_counts_words, bw_take_counts_place, bw_take_rise_words, bw_take_rise_place, bw_close_words, bw_close_place, bwR, if_true, if_false]; rfl
theorem wF_no_take_counts : (wF q i).lookup ("take_counts" : Str) = none := by rw [wF_c]; simp only [lookup_putF, bw_words_place, bw_words_ahead, bw_words_step, bw_words_take_counts, bw_words_take_rise, bw_words_close, bw_place_words, bw_place_ahead, bw_place_step, bw_place_take_counts, bw_place_take_rise, bw_place_close, bw_ahead_words, bw_ahead_place, bw_step_words, bw_step_place, bw_take_counts_words, bw_take_counts_place, bw_take_rise_words, bw_take_rise_place, bw_close_words, bw_close_place, bwR, if_true, if_false]; rfl
theorem wF_no_take_rise : (wF q i).lookup ("take_rise" : Str) = none := by rw [wF_c]; simp only [lookup_putF, bw_words_place, bw_words_ahead, bw_words_step, bw_words_take_counts, bw_words_take_rise, bw_words_close, bw_place_words, bw_place_ahead, bw_place_step, bw_place_take_counts, bw_place_take_rise, bw_place_close, bw_ahead_words, bw_ahead_place, bw_step_words, bw_step_place, bw_take_counts_words, bw_take_counts_place, bw_take_rise_words, bw_take_rise_place, bw_close_words, bw_close_place, bwR, if_true, if_false]; rfl
theorem wF_no_close : (wF q i).lookup ("close" : Str) = none := by rw [wF_c]; simp only [lookup_putF, bw_words_place, bw_words_ahead, bw_words_step, bw_words_take_counts, bw_words_take_rise, bw_words_close, bw_place_words, bw_place_ahead, bw_place_step, bw_place_take_counts, bw_place_take_rise, bw_place_close, bw_ahead_words, bw_ahead_place, bw_step_words, bw_step_place, bw_take_counts_words, bw_take_counts_place, bw_take_rise_words, bw_take_rise_place, bw_close_words, bw_close_place, bwR, if_true, if_false]; rfl
end
theorem sl_fri {K : PySem.W.Frag} {H H' : Hp} {p a C dx : Addr} {fs : List (Str × V)} {xs : List V} (hp : H p = some (.ins C dx fs)) (f : Fr p H H') (s : SqL K H a xs) : SqL K H' a xs := by
  have key : ∀ u, H a = some u → (∃ o', u = .frz o' (.lst xs)) ∨ u = .lst xs → a ≠ p := by
    rintro u hu hc rfl
    rw [hp] at hu
    cases hu
    rcases hc with ⟨_, hc⟩ | hc <;> cases hc
  rcases s with (s | ⟨o', s⟩) | s
  · exact .inl (.inl (f _ _ (key _ s (.inr rfl)) s))
  · exact .inl (.inr ⟨o', f _ _ (key _ s (.inl ⟨o', rfl⟩)) s⟩)
  · exact .inr s
theorem fr_mutN {p t : Addr} {H H' : Hp} {o : HO} (f : Fr p H H') (n : H t = none) : Fr p H (upd H' t o) := fun b u ne e => by
  rw [upd_ne (ne_of_none e n)]
  exact f b u ne e
theorem r_isNotS {x : Str} {H : Hp} {Q : VK} (h : Q (.bl true) H) : rIsNot (.str x) .non H Q := ⟨rfl, h⟩
theorem r_isS {x : Str} {H : Hp} {Q : VK} (h : Q (.bl false) H) : rIs (.str x) .non H Q := ⟨rfl, h⟩
theorem r_neSS {K : PySem.W.Frag} {x : Str} {H : Hp} {Q : VK} (h : Q (.bl false) H) : rNeU K (.str x) (.str x) H Q := .inl ⟨rfl, by
  rw [decide_eq_true rfl]
  exact h⟩
theorem r_eqSS {K : PySem.W.Frag} {x y : Str} {H : Hp} {Q : VK} (h : Q (.bl (decide (x = y))) H) : rEqU K (.str x) (.str y) H Q := .inl ⟨rfl, by
  rw [show decide (V.str x = V.str y) = decide (x = y) from decide_eq_decide.mpr ⟨V.str.inj, congrArg _⟩]
  exact h⟩
theorem one_ne {c : Nat} (h : c ≠ 48) : ¬ ((⟨#[c]⟩ : Str) = "0") := fun e => h (by
  have e2 : (⟨#[c]⟩ : Str).cps.toList = ("0" : Str).cps.toList := by rw [e]
  rw [show ("0" : Str).cps.toList = [48] by decide +kernel] at e2
  exact (List.cons.inj e2).1)
theorem le_zero {c : Nat} : (!decide ((⟨#[c]⟩ : Str).cps.toList < ("0" : Str).cps.toList)) = decide (48 ≤ c) := by
  rw [show ("0" : Str).cps.toList = [48] by decide +kernel]
  show (!decide ([c] < [48])) = _
  by_cases h : 48 ≤ c
  · rw [decide_eq_true h, decide_eq_false]
    · rfl
    · intro q
      rcases List.cons_lt_cons_iff.mp q with q | ⟨_, q⟩
      · omega
      · cases q
  · rw [decide_eq_false h, decide_eq_true]
    · rfl
    · exact List.cons_lt_cons_iff.mpr (.inl (by omega))
theorem le_nine {c : Nat} : (!decide (("9" : Str).cps.toList < (⟨#[c]⟩ : Str).cps.toList)) = decide (c ≤ 57) := by
  rw [show ("9" : Str).cps.toList = [57] by decide +kernel]
  show (!decide ([57] < [c])) = _
  by_cases h : c ≤ 57
  · rw [decide_eq_true h, decide_eq_false]
    · rfl
    · intro q
      rcases List.cons_lt_cons_iff.mp q with q | ⟨_, q⟩
      · omega
      · cases q
  · rw [decide_eq_false h, decide_eq_true]
    · rfl
    · exact List.cons_lt_cons_iff.mpr (.inl (by omega))
abbrev N_number_of : List Str := ["word", "sign"]
theorem sc_number_of : FnScope N_number_of ["word"] (defScope s_number_of) := ⟨rfl, rfl, rfl, by decide +kernel, rfl, by decide +kernel, by decide +kernel⟩
theorem ok_number_of {P : Program} {w : World} {K : PySem.W.Frag} {mg : Str → Option Value} {base : Heap} (E : Env P K mg) : Fn P w K mg base CX0 1 "number_of" (sp1 fun v H Q _ => ∃ w : Str, v = .str w ∧ Wok w ∧ ∀ H', Ex H H' → Q (optV (numO w)) H') := by
  obtain ⟨fd, F⟩ := E.dd_number_of
  refine Fn.mk0 F E.g_number_of sc_number_of sp1_len (fun _ _ _ _ _ _ us hl => match us, hl with | [_], _ => rfl) (fun cdv A outer s H vs Q X hr h => ?_)
  have nd := sc_number_of.nd
  obtain ⟨v0, rfl, h⟩ := h
  refine ⟨_, (pss_cons (ps_if (PW.pt (pw_or (pt_not (pt_chain xLeS xLeS (pe_int) (pe_callB xLenS (by rfl) E.f_len (by decide +kernel) (pa_cons (pv 0) pa_nil)) ((E.k_MOST_FIGURES).elim fun t e => pe_glob (v := .int 60) (by rfl) e ⟨t, rfl⟩))) (pw_or1 (PW.pt (pw_and (pt_cmpR op_gt (pe_callB xLenS (by rfl) E.f_len (by decide +kernel) (pa_cons (pv 0) pa_nil)) (pe_int) (nomark _)) (pw_and1 (pt_cmpR (kEq K hr) (pe_ix (kIx K) (pv 0) (pe_int) (fun _ _ => rfl)) (pe_str) (nomark _))))))))
   (pss_one (ps_ret (pe_non)))
   pss_nil)
  (pss_cons (ps_if (pt_not (kTru K (pe_callB (kAll K rfl) (by rfl) E.f_all (by decide +kernel) (pa_cons (pe_lc (own := [("sign", 1)]) (g := gName 1) (tt := tYes) rfl nd (pi_str (pv 0)) (blkOk_by (N := N_number_of) (sc := defScope s_number_of) (by decide +kernel)) (fun _ _ _ _ _ => pg_name (i := 1) nd rfl (Or.inl rfl)) (fun _ _ _ _ _ => pts_nil) (fun _ _ _ _ _ => pe_chain xLeS xLeS (pe_str) (pv 1) (pe_str))) pa_nil)) (by intro _; rfl)))
   (pss_one (ps_ret (pe_non)))
   pss_nil)
  (pss_one (ps_ret (pe_callTy xIntS (by rfl) E.f_int (by decide +kernel) (pa_cons (pv 0) pa_nil)))))), ?_⟩
  change (_ : TS) _ [some v0, none] H
  try dsimp only [cxOf, Cx.nox, Cx.blk]
  obtain ⟨w, rfl, W, k⟩ := h
  have l1 := W.l1
  have l2 := W.l2
  have lz : w.length ≤ sizeLine := sz_of (by omega)
  obtain ⟨c, r, hc, hz⟩ := W.hd
  walk_at "w"
  refine r_lenS lz ?_
  walk_at "w"
  refine r_leUI ?_
  walk_at "w"
  refine r_leUI ?_
  walk_at "w"
  refine r_lenS lz ?_
  walk_at "w"
  by_cases c1 : 1 < w.length
  case' pos =>
    walk_at "w"
    refine r_ixS (c := c) lz (by rw [hc]; exact atI_pos (by decide) rfl) ?_
    walk_at "w"
    refine r_eqSS ?_
    rw [decide_eq_false (one_ne (hz c1))]
  all_goals
    walk_at "w"
    refine i_str ?_
    walk_at "w"
    refine ⟨w, rfl, ?_⟩
    refine lcJ_str (v := fun c => .bl (dg c)) (by have e : w.length = w.cps.size := rfl; omega) (fun y => [_, some y]) (fun y => rfl) (fun y => rfl) (fun c H1 Q' e1 hm hq => ?_) (fun p H1 n1 e1 h1 => ?_)
    · walk_at "w"
      refine r_leUS ?_
      rw [le_zero]
      walk_at "w"
      unfold dg at hq
      by_cases c2 : 48 ≤ c
      · rw [decide_eq_true c2] at hq ⊢
        walk_at "w"
        refine r_leUS ?_
        rw [le_nine]
        exact hq _ (Ex.refl _)
      · rw [decide_eq_false c2] at hq ⊢
        walk_at "w"
        exact hq _ (Ex.refl _)
    · walk_at "w"
      refine r_all (bs := w.cps.toList.map dg) (sq_of h1) (by rw [List.map_map]; rfl) ?_
      rw [List.all_map, show (id ∘ dg) = dg from rfl]
      unfold numO at k
      cases hb : w.cps.toList.all dg with
      | true =>
        rw [if_pos hb] at k
        walk_at "w"
        obtain ⟨n, hn⟩ := Option.ne_none_iff_exists'.mp (W.nm hb)
        rw [hn] at k
        refine r_intS hn (by omega) ?_
        walk_at "w"
        exact k _ e1
      | false =>
        rw [if_neg (by rw [hb]; decide)] at k
        walk_at "w"
        exact k _ e1

end
section
/-- the word at a place -/
def wV (ws : List Str) (i : Nat) : V := match ws[i]? with
  | some w => .str w
  | none => .non
theorem wV_some {ws : List Str} {i : Nat} {w : Str} (h : ws[i]? = some w) : wV ws i = .str w := by unfold wV; rw [h]
theorem wV_none {ws : List Str} {i : Nat} (h : ws[i]? = none) : wV ws i = .non := by unfold wV; rw [h]
abbrev N_Words_init : List Str := ["self", "words"]
theorem sc_Words_init : FnScope N_Words_init ["self", "words"] (defScope s_Words_init) := ⟨rfl, rfl, rfl, by decide +kernel, rfl, by decide +kernel, by decide +kernel⟩
theorem fx_Words_init {P : Program} {w : World} {K : PySem.W.Frag} {mg : Str → Option Value} {base : Heap} (E : Env P K mg) : ∃ fd, FunD K "__init__" "Words.__init__" (defArgs s_Words_init) (defBody s_Words_init) (defScope s_Words_init) (d_Words_init.dvs K) [] (d_Words_init.adr K) fd ∧ FnOk P w K mg base CX0 1 (d_Words_init.adr K) fd ["self", "words"] (sp2 fun x a H Q _ => ∃ p dx q : Addr, x = .ref p ∧ a = .ref q ∧ H p = some (.ins (He.ga K "Words") dx []) ∧ ∀ H', Fr p H H' → H' p = some (.ins (He.ga K "Words") dx (wF q 0)) → Q .non H') := by
  obtain ⟨fd, F⟩ := E.dd_Words_init
  refine ⟨fd, F, fnok0 F sc_Words_init sp2_len (fun cdv A outer s H vs Q X hr h => ?_)⟩
  have nd := sc_Words_init.nd
  obtain ⟨v0, v1, rfl, h⟩ := h
  refine ⟨_, (pss_cons (kFldS K (ps_fld (pv 0) (pv 1) rfl))
  (pss_one (kFldS K (ps_fld (pv 0) (pe_int) rfl)))), ?_⟩
  change (_ : TS) _ [some v0, some v1] H
  try dsimp only [cxOf, Cx.nox, Cx.blk]
  obtain ⟨p, dx, q, rfl, rfl, hp, k⟩ := h
  walk_at "w"
  refine r_putF hp E.c_Words E.na_Words_words (by decide) ?_
  walk_at "w"
  refine r_putF upd_same E.c_Words E.na_Words_place (Nat.lt_of_le_of_lt (putF_len _ _ _) (by decide)) ?_
  rw [← wF_c]
  exact k _ (Fr.upd.trans Fr.upd) upd_same
abbrev spAhead (K : PySem.W.Frag) : Sp := sp1 fun x H Q _ => ∃ (p dx q : Addr) (ws : List Str) (i : Nat), x = .ref p ∧ H p = some (.ins (He.ga K "Words") dx (wF q i)) ∧ SqL K H q (ws.map V.str) ∧ Q (wV ws i) H
abbrev N_Words_ahead : List Str := ["self"]
theorem sc_Words_ahead : FnScope N_Words_ahead ["self"] (defScope s_Words_ahead) := ⟨rfl, rfl, rfl, by decide +kernel, rfl, by decide +kernel, by decide +kernel⟩
theorem fx_Words_ahead {P : Program} {w : World} {K : PySem.W.Frag} {mg : Str → Option Value} {base : Heap} (E : Env P K mg) : ∃ fd, FunD K "ahead" "Words.ahead" (defArgs s_Words_ahead) (defBody s_Words_ahead) (defScope s_Words_ahead) (d_Words_ahead.dvs K) [] (d_Words_ahead.adr K) fd ∧ FnOk P w K mg base CX0 1 (d_Words_ahead.adr K) fd ["self"] (spAhead K) := by
  obtain ⟨fd, F⟩ := E.dd_Words_ahead
  refine ⟨fd, F, fnok0 F sc_Words_ahead sp1_len (fun cdv A outer s H vs Q X hr h => ?_)⟩
  have nd := sc_Words_ahead.nd
  obtain ⟨v0, rfl, h⟩ := h
  refine ⟨_, (pss_one (ps_ret (pe_ifExp (pt_cmpR op_lt (kFld K (pv 0) rfl) (pe_callB (kLen K) (by rfl) E.f_len (by decide +kernel) (pa_cons (kFld K (pv 0) rfl) pa_nil)) (nomark _)) (pe_ix (kIx K) (kFld K (pv 0) rfl) (kFld K (pv 0) rfl) (fun _ _ => rfl)) (pe_non)))), ?_⟩
  change (_ : TS) _ [some v0] H
  try dsimp only [cxOf, Cx.nox, Cx.blk]
  obtain ⟨p, dx, q, ws, i, rfl, hp, hq, k⟩ := h
  walk_at "w"
  refine r_getF hp E.c_Words E.na_Words_place wF_place ?_
  walk_at "w"
  refine r_getF hp E.c_Words E.na_Words_words wF_words ?_
  walk_at "w"
  rw [List.length_map]
  by_cases c : i < ws.length
  · walk_at "w"
    refine r_getF hp E.c_Words E.na_Words_words wF_words ?_
    walk_at "w"
    refine r_getF hp E.c_Words E.na_Words_place wF_place ?_
    walk_at "w"
    refine r_ixL hq (v := .str ws[i]) (atI_pos (Int.natCast_nonneg i) (by rw [Int.toNat_natCast, List.getElem?_map, List.getElem?_eq_getElem c]; rfl)) ?_
    walk_at "w"
    rw [wV_some (List.getElem?_eq_getElem c)] at k
    exact k
  · walk_at "w"
    rw [wV_none (List.getElem?_eq_none (by omega))] at k
    exact k
theorem ok_Words_ahead {P : Program} {w : World} {K : PySem.W.Frag} {mg : Str → Option Value} {base : Heap} (E : Env P K mg) : Mt P w K mg base CX0 1 (He.ga K "Words") "ahead" (spAhead K) := by
  obtain ⟨fd, F, k⟩ := fx_Words_ahead (P := P) (w := w) (base := base) E
  exact ⟨_, fd, _, E.c_Words, E.m_Words_ahead, k, F.bindsN (fun _ _ _ _ _ _ us hl => match us, hl with | [_], _ => rfl)⟩
abbrev spStep (K : PySem.W.Frag) : Sp := sp1 fun x H Q _ => ∃ (p dx q : Addr) (i : Int), x = .ref p ∧ H p = some (.ins (He.ga K "Words") dx (wF q i)) ∧ Q .non (upd H p (.ins (He.ga K "Words") dx (wF q (i + 1))))
abbrev N_Words_step : List Str := ["self"]
theorem sc_Words_step : FnScope N_Words_step ["self"] (defScope s_Words_step) := ⟨rfl, rfl, rfl, by decide +kernel, rfl, by decide +kernel, by decide +kernel⟩
theorem fx_Words_step {P : Program} {w : World} {K : PySem.W.Frag} {mg : Str → Option Value} {base : Heap} (E : Env P K mg) : ∃ fd, FunD K "step" "Words.step" (defArgs s_Words_step) (defBody s_Words_step) (defScope s_Words_step) (d_Words_step.dvs K) [] (d_Words_step.adr K) fd ∧ FnOk P w K mg base CX0 1 (d_Words_step.adr K) fd ["self"] (spStep K) := by
  obtain ⟨fd, F⟩ := E.dd_Words_step
  refine ⟨fd, F, fnok0 F sc_Words_step sp1_len (fun cdv A outer s H vs Q X hr h => ?_)⟩
  have nd := sc_Words_step.nd
  obtain ⟨v0, rfl, h⟩ := h
  refine ⟨_, (pss_one (kFldAug K (pv 0) (pe_int) in_add)), ?_⟩
  change (_ : TS) _ [some v0] H
  try dsimp only [cxOf, Cx.nox, Cx.blk]
  obtain ⟨p, dx, q, i, rfl, hp, k⟩ := h
  refine w_fldAug (a := p) (C := p) (dx := p) (dx' := p) (fs := []) (fs' := []) ?_
  walk_at "w"
  refine ⟨p, _, dx, _, _, rfl, hp, E.c_Words, E.na_Words_place, wF_place, ?_⟩
  walk_at "w"
  refine ⟨_, _, rfl, rfl, dx, _, hp, wF_len, ?_⟩
  rw [wF_p]
  exact k
theorem ok_Words_step {P : Program} {w : World} {K : PySem.W.Frag} {mg : Str → Option Value} {base : Heap} (E : Env P K mg) : Mt P w K mg base CX0 1 (He.ga K "Words") "step" (spStep K) := by
  obtain ⟨fd, F, k⟩ := fx_Words_step (P := P) (w := w) (base := base) E
  exact ⟨_, fd, _, E.c_Words, E.m_Words_step, k, F.bindsN (fun _ _ _ _ _ _ us hl => match us, hl with | [_], _ => rfl)⟩
abbrev spTake (K : PySem.W.Frag) : Sp := sp2 fun x a H Q _ => ∃ (p dx q : Addr) (ws : List Str) (i : Nat) (least : Int) (ns : List Int), x = .ref p ∧ a = .int least ∧ H p = some (.ins (He.ga K "Words") dx (wF q i)) ∧ SqL K H q (ws.map V.str) ∧ ns.length ≤ 1000 ∧
  (∀ j, j < ns.length → ws[i + j]? = some (nS (gI ns j))) ∧ (∀ n ∈ ns, Sml n) ∧ (∀ n ∈ ns, least ≤ n) ∧ rising ns ∧ (∃ w, ws[i + ns.length]? = some w ∧ Wok w ∧ numO w = none) ∧
  ∀ t H', Fr p H H' → H' p = some (.ins (He.ga K "Words") dx (wF q ((i + ns.length : Nat) : Int))) → H t = none → H' t = some (.lst (vI ns)) → Q (.ref t) H'
abbrev N_Words_take_counts : List Str := ["self", "least", "told", "value"]
theorem sc_Words_take_counts : FnScope N_Words_take_counts ["self", "least"] (defScope s_Words_take_counts) := ⟨rfl, rfl, rfl, by decide +kernel, rfl, by decide +kernel, by decide +kernel⟩
theorem fx_Words_take_counts {P : Program} {w : World} {K : PySem.W.Frag} {mg : Str → Option Value} {base : Heap} (E : Env P K mg) : ∃ fd, FunD K "take_counts" "Words.take_counts" (defArgs s_Words_take_counts) (defBody s_Words_take_counts) (defScope s_Words_take_counts) (d_Words_take_counts.dvs K) [] (d_Words_take_counts.adr K) fd ∧ FnOk P w K mg base CX0 2 (d_Words_take_counts.adr K) fd ["self", "least"] (spTake K) := by
  obtain ⟨fd, F⟩ := E.dd_Words_take_counts
  refine ⟨fd, F, fnok0 F sc_Words_take_counts sp2_len (fun cdv A outer s H vs Q X hr h => ?_)⟩
  have nd := sc_Words_take_counts.nd
  obtain ⟨v0, v1, rfl, h⟩ := h
  refine ⟨_, (pss_cons (ps_set (i := 2) nd rfl (.inl rfl) (pe_lst (pa_nil)))
  (pss_cut (ps_while PassesOwn.never (pt_cmpR xIsNot (pmt0 (ok_Words_ahead E) hr (by decide) pass0 (pv 0)) (pe_non) (nomark _))
   (pss_cons (ps_set (i := 3) nd rfl (.inl rfl) (pc (ok_number_of E) hr (by decide) pass0 rfl (pa_cons (pmt0 (ok_Words_ahead E) hr (by decide) pass0 (pv 0)) pa_nil)))
  (pss_cons (ps_if (pt_cmpR xIs (pv 3) (pe_non) (nomark _))
   (pss_one (ps_break))
   pss_nil)
  (pss_cons (ps_if (pt_cmpR op_lt (pv 3) (pv 1) (nomark _))
   (pss_one (ps_never))
   pss_nil)
  (pss_cons (ps_expr (kBM K (pe_bm PySem.F.plainAttrs_list PySem.F.slot_list_append PySem.F.type_list_append mt_append (pv 2) (pa_cons (pv 3) pa_nil))))
  (pss_cons (ps_set (i := 1) nd rfl (.inl rfl) (pv 3))
  (pss_one (ps_expr (pmt0 (ok_Words_step E) hr (by decide) pass0 (pv 0))))))))))
  (pss_one (ps_ret (pv 2))))), ?_⟩
  change (_ : TS) _ [some v0, some v1, none, none] H
  try dsimp only [cxOf, Cx.nox, Cx.blk]
  obtain ⟨p, dx, q, ws, i, least, ns, rfl, rfl, hp, hq, zn, hw, sm, lo, ri, ⟨w, hw2, W2, o2⟩, k⟩ := h
  walk_at "w"
  intro t H1 n1 e1 g1
  have tp : p ≠ t := fun e => by rw [e, n1] at hp; cases hp
  walk_at "w"
  refine w_cut (M := fun σ' H' => ∃ y z : Option V, σ' = [some (.ref p), y, some (.ref t), z] ∧ Fr p H H' ∧ H' p = some (.ins (He.ga K "Words") dx (wF q ((i + ns.length : Nat) : Int))) ∧ H' t = some (.lst (vI ns))) ?_ ?_
  · walk_at "w"
    refine ⟨fun m σ' H' => ∃ (j : Nat) (ls : Int) (z : Option V), σ' = [some (.ref p), some (.int ls), some (.ref t), z] ∧ Fr p H H' ∧ H' p = some (.ins (He.ga K "Words") dx (wF q ((i + j : Nat) : Int))) ∧ H' t = some (.lst (vI (ns.take j))) ∧ j ≤ ns.length ∧ (j < ns.length → ls ≤ gI ns j) ∧ m = ns.length - j,
      ⟨ns.length, 0, least, none, rfl, Fr.of e1, e1 _ _ hp, g1, Nat.zero_le _, fun h => lo _ (gI_mem (by decide) (by omega)), rfl⟩, ?_⟩
    rintro m σ' H' ⟨j, ls, z, rfl, f, hp', ht, hj, hl, rfl⟩
    walk_at "w"
    refine r_meth hp' wF_no_ahead ?_
    walk_at "w"
    refine w_callM1 ⟨p, dx, q, ws, i + j, rfl, hp', sl_fri hp f hq, ?_⟩
    by_cases c : j < ns.length
    · have hn := hw j c
      have sj := sm _ (gI_mem (ns := ns) (r := (j : Int)) (Int.natCast_nonneg j) (by omega))
      have lj := hl c
      rw [wV_some hn]
      walk_at "w"
      refine r_isNotS ?_
      walk_at "w"
      refine ⟨_, fun σ2 H2 h2 => h2, ?_⟩
      walk_at "w"
      refine r_meth hp' wF_no_ahead ?_
      walk_at "w"
      refine w_callM1 ⟨p, dx, q, ws, i + j, rfl, hp', sl_fri hp f hq, ?_⟩
      rw [wV_some hn]
      walk_at "w"
      refine ⟨nS (gI ns j), rfl, Wok.num sj, fun H2 e2 => ?_⟩
      rw [nS_numO sj]
      simp only [optV]
      walk_at "w"
      have hs := sq_of (K := K) (e2 _ _ ht)
      walk_at "w"
      refine r_app (K := K) (e2 _ _ ht) (sz_lt (by rw [List.length_map, List.length_take]; omega)) ?_
      walk_at "w"
      have hp2 : upd H2 t (.lst (vI (ns.take j) ++ [.int (gI ns j)])) p = some (.ins (He.ga K "Words") dx (wF q ((i + j : Nat) : Int))) := by
        rw [upd_ne tp]
        exact e2 _ _ hp'
      refine r_meth hp2 wF_no_step ?_
      walk_at "w"
      refine w_callM1 ⟨p, dx, q, _, rfl, hp2, ?_⟩
      walk_at "w"
      refine ⟨ns.length - (j + 1), by omega, j + 1, gI ns j, _, rfl, (fr_mutN (f.trans (Fr.of e2)) n1).trans Fr.upd, upd_same, ?_, by omega, fun h => ?_, rfl⟩
      · rw [upd_ne tp.symm, upd_same]
        have e : ns.take (j + 1) = ns.take j ++ [gI ns j] := by
          rw [List.take_add_one, gI_get c]
          rfl
        rw [e]
        show _ = some (HO.lst (List.map V.int _))
        rw [List.map_append]
        rfl
      · have := ri j h
        rw [show ((j + 1 : Nat) : Int) = (j : Int) + 1 by omega]
        exact this
    · have je : j = ns.length := by omega
      subst je
      rw [wV_some hw2]
      walk_at "w"
      refine r_isNotS ?_
      walk_at "w"
      refine ⟨_, fun σ2 H2 h2 => h2, ?_⟩
      walk_at "w"
      refine r_meth hp' wF_no_ahead ?_
      walk_at "w"
      refine w_callM1 ⟨p, dx, q, ws, i + ns.length, rfl, hp', sl_fri hp f hq, ?_⟩
      rw [wV_some hw2]
      walk_at "w"
      refine ⟨w, rfl, W2, fun H2 e2 => ?_⟩
      rw [o2]
      simp only [optV]
      walk_at "w"
      refine ⟨_, _, rfl, f.trans (Fr.of e2), e2 _ _ hp', ?_⟩
      have := e2 _ _ ht
      rwa [List.take_length] at this
  rintro σ' H' ⟨y, z, rfl, f, hp', ht⟩
  walk_at "w"
  exact k t H' f hp' n1 ht
theorem ok_Words_take_counts {P : Program} {w : World} {K : PySem.W.Frag} {mg : Str → Option Value} {base : Heap} (E : Env P K mg) : Mt P w K mg base CX0 2 (He.ga K "Words") "take_counts" (spTake K) := by
  obtain ⟨fd, F, k⟩ := fx_Words_take_counts (P := P) (w := w) (base := base) E
  exact ⟨_, fd, _, E.c_Words, E.m_Words_take_counts, k, F.bindsN (fun _ _ _ _ _ _ us hl => match us, hl with | [_, _], _ => rfl)⟩
abbrev N_Words_take_rise : List Str := ["self", "least", "value"]
theorem sc_Words_take_rise : FnScope N_Words_take_rise ["self", "least"] (defScope s_Words_take_rise) := ⟨rfl, rfl, rfl, by decide +kernel, rfl, by decide +kernel, by decide +kernel⟩
theorem fx_Words_take_rise {P : Program} {w : World} {K : PySem.W.Frag} {mg : Str → Option Value} {base : Heap} (E : Env P K mg) : ∃ fd, FunD K "take_rise" "Words.take_rise" (defArgs s_Words_take_rise) (defBody s_Words_take_rise) (defScope s_Words_take_rise) (d_Words_take_rise.dvs K) [] (d_Words_take_rise.adr K) fd ∧ FnOk P w K mg base CX0 2 (d_Words_take_rise.adr K) fd ["self", "least"] (sp2 fun x a H Q _ => ∃ (p dx q : Addr) (ws : List Str) (i : Nat) (least r : Int), x = .ref p ∧ a = .int least ∧ H p = some (.ins (He.ga K "Words") dx (wF q i)) ∧ SqL K H q (ws.map V.str) ∧ ws[i]? = some (nS r) ∧ Sml r ∧ least ≤ r ∧ ∀ H', Fr p H H' → H' p = some (.ins (He.ga K "Words") dx (wF q ((i + 1 : Nat) : Int))) → Q (.int r) H') := by
  obtain ⟨fd, F⟩ := E.dd_Words_take_rise
  refine ⟨fd, F, fnok0 F sc_Words_take_rise sp2_len (fun cdv A outer s H vs Q X hr h => ?_)⟩
  have nd := sc_Words_take_rise.nd
  obtain ⟨v0, v1, rfl, h⟩ := h
  refine ⟨_, (pss_cons (ps_if (pt_cmpR xIs (pmt0 (ok_Words_ahead E) hr (by decide) pass0 (pv 0)) (pe_non) (nomark _))
   (pss_one (ps_never))
   pss_nil)
  (pss_cons (ps_set (i := 2) nd rfl (.inl rfl) (pc (ok_number_of E) hr (by decide) pass0 rfl (pa_cons (pmt0 (ok_Words_ahead E) hr (by decide) pass0 (pv 0)) pa_nil)))
  (pss_cons (ps_if (PW.pt (pw_or (pt_cmpR xIs (pv 2) (pe_non) (nomark _)) (pw_or1 (pt_cmpR op_lt (pv 2) (pv 1) (nomark _)))))
   (pss_one (ps_never))
   pss_nil)
  (pss_cons (ps_expr (pmt0 (ok_Words_step E) hr (by decide) pass0 (pv 0)))
  (pss_one (ps_ret (pv 2))))))), ?_⟩
  change (_ : TS) _ [some v0, some v1, none] H
  try dsimp only [cxOf, Cx.nox, Cx.blk]
  obtain ⟨p, dx, q, ws, i, least, r, rfl, rfl, hp, hq, hw, sr, lr, k⟩ := h
  walk_at "w"
  refine r_meth hp wF_no_ahead ?_
  walk_at "w"
  refine w_callM1 ⟨p, dx, q, ws, i, rfl, hp, hq, ?_⟩
  rw [wV_some hw]
  walk_at "w"
  refine r_isS ?_
  walk_at "w"
  refine r_meth hp wF_no_ahead ?_
  walk_at "w"
  refine w_callM1 ⟨p, dx, q, ws, i, rfl, hp, hq, ?_⟩
  rw [wV_some hw]
  walk_at "w"
  refine ⟨nS r, rfl, Wok.num sr, fun H2 e2 => ?_⟩
  rw [nS_numO sr]
  simp only [optV]
  walk_at "w"
  refine r_meth (e2 _ _ hp) wF_no_step ?_
  walk_at "w"
  refine w_callM1 ⟨p, dx, q, _, rfl, e2 _ _ hp, ?_⟩
  walk_at "w"
  exact k _ ((Fr.of e2).trans Fr.upd) upd_same
theorem ok_Words_take_rise {P : Program} {w : World} {K : PySem.W.Frag} {mg : Str → Option Value} {base : Heap} (E : Env P K mg) : Mt P w K mg base CX0 2 (He.ga K "Words") "take_rise" (sp2 fun x a H Q _ => ∃ (p dx q : Addr) (ws : List Str) (i : Nat) (least r : Int), x = .ref p ∧ a = .int least ∧ H p = some (.ins (He.ga K "Words") dx (wF q i)) ∧ SqL K H q (ws.map V.str) ∧ ws[i]? = some (nS r) ∧ Sml r ∧ least ≤ r ∧ ∀ H', Fr p H H' → H' p = some (.ins (He.ga K "Words") dx (wF q ((i + 1 : Nat) : Int))) → Q (.int r) H') := by
  obtain ⟨fd, F, k⟩ := fx_Words_take_rise (P := P) (w := w) (base := base) E
  exact ⟨_, fd, _, E.c_Words, E.m_Words_take_rise, k, F.bindsN (fun _ _ _ _ _ _ us hl => match us, hl with | [_, _], _ => rfl)⟩
abbrev N_Words_close : List Str := ["self"]
theorem sc_Words_close : FnScope N_Words_close ["self"] (defScope s_Words_close) := ⟨rfl, rfl, rfl, by decide +kernel, rfl, by decide +kernel, by decide +kernel⟩
theorem fx_Words_close {P : Program} {w : World} {K : PySem.W.Frag} {mg : Str → Option Value} {base : Heap} (E : Env P K mg) : ∃ fd, FunD K "close" "Words.close" (defArgs s_Words_close) (defBody s_Words_close) (defScope s_Words_close) (d_Words_close.dvs K) [] (d_Words_close.adr K) fd ∧ FnOk P w K mg base CX0 2 (d_Words_close.adr K) fd ["self"] (sp1 fun x H Q _ => ∃ (p dx q : Addr) (ws : List Str) (i : Nat), x = .ref p ∧ H p = some (.ins (He.ga K "Words") dx (wF q i)) ∧ SqL K H q (ws.map V.str) ∧ ws[i]? = none ∧ Q .non H) := by
  obtain ⟨fd, F⟩ := E.dd_Words_close
  refine ⟨fd, F, fnok0 F sc_Words_close sp1_len (fun cdv A outer s H vs Q X hr h => ?_)⟩
  have nd := sc_Words_close.nd
  obtain ⟨v0, rfl, h⟩ := h
  refine ⟨_, (pss_one (ps_if (pt_cmpR xIsNot (pmt0 (ok_Words_ahead E) hr (by decide) pass0 (pv 0)) (pe_non) (nomark _))
   (pss_one (ps_never))
   pss_nil)), ?_⟩
  change (_ : TS) _ [some v0] H
  try dsimp only [cxOf, Cx.nox, Cx.blk]
  obtain ⟨p, dx, q, ws, i, rfl, hp, hq, hw, k⟩ := h
  walk_at "w"
  refine r_meth hp wF_no_ahead ?_
  walk_at "w"
  refine w_callM1 ⟨p, dx, q, ws, i, rfl, hp, hq, ?_⟩
  rw [wV_none hw]
  walk_at "w"
  exact k
theorem ok_Words_close {P : Program} {w : World} {K : PySem.W.Frag} {mg : Str → Option Value} {base : Heap} (E : Env P K mg) : Mt P w K mg base CX0 2 (He.ga K "Words") "close" (sp1 fun x H Q _ => ∃ (p dx q : Addr) (ws : List Str) (i : Nat), x = .ref p ∧ H p = some (.ins (He.ga K "Words") dx (wF q i)) ∧ SqL K H q (ws.map V.str) ∧ ws[i]? = none ∧ Q .non H) := by
  obtain ⟨fd, F, k⟩ := fx_Words_close (P := P) (w := w) (base := base) E
  exact ⟨_, fd, _, E.c_Words, E.m_Words_close, k, F.bindsN (fun _ _ _ _ _ _ us hl => match us, hl with | [_], _ => rfl)⟩

end
section
local macro_rules | `(tactic| walk_at "hp") => `(tactic| first
  | with_reducible assumption
  | (with_reducible refine' ex_tab ?a ?b; (case a => with_reducible assumption); (case b => walk_at "hp")))
def sV (ws : List Str) : List V := ws.map V.str
def strV : V → V
  | .int n => .str (nS n)
  | x => x
theorem map_strV (l : List Int) : (vI l).map strV = sV (l.map nS) := by
  show (l.map V.int).map strV = (l.map nS).map V.str
  rw [List.map_map, List.map_map]
  rfl
theorem sV_app (a b : List Str) : sV a ++ sV b = sV (a ++ b) := List.map_append.symm
section
variable {h l : List Int} {r : Int}
theorem textL_end (c : l = []) : textL h l r = h.map nS ++ [("never" : Str)] := by unfold textL; rw [if_pos c]
theorem textL_on (c : l ≠ []) : textL h l r = h.map nS ++ [("then" : Str)] ++ l.map nS ++ [("up" : Str), nS r] := by
  unfold textL
  rw [if_neg c, List.append_assoc, List.append_assoc]
  rfl
theorem tw_h (j : Nat) (hj : j < h.length) : (textL h l r)[0 + j]? = some (nS (gI h j)) := by
  unfold textL
  rw [Nat.zero_add, List.getElem?_append_left (by rw [List.length_map]; exact hj), List.getElem?_map, gI_get hj]
  rfl
theorem tw_never (c : l = []) : (textL h l r)[0 + h.length]? = some "never" ∧ (textL h l r)[0 + h.length + 1]? = none := by
  rw [textL_end c, Nat.zero_add]
  refine ⟨?_, List.getElem?_eq_none (by simp)⟩
  rw [List.getElem?_append_right (by rw [List.length_map]; exact Nat.le_refl _), List.length_map, Nat.sub_self]
  rfl
theorem tw_on (c : l ≠ []) (t : Nat) : (textL h l r)[h.length + 1 + t]? = (l.map nS ++ [("up" : Str), nS r])[t]? := by
  unfold textL
  rw [if_neg c, List.getElem?_append_right (by rw [List.length_map]; omega), List.length_map, show h.length + 1 + t - h.length = t + 1 by omega]
  rfl
theorem tw_then (c : l ≠ []) : (textL h l r)[0 + h.length]? = some "then" := by
  unfold textL
  rw [if_neg c, Nat.zero_add, List.getElem?_append_right (by rw [List.length_map]; exact Nat.le_refl _), List.length_map, Nat.sub_self]
  rfl
theorem tw_l (c : l ≠ []) (j : Nat) (hj : j < l.length) : (textL h l r)[h.length + 1 + j]? = some (nS (gI l j)) := by
  rw [tw_on c, List.getElem?_append_left (by rw [List.length_map]; exact hj), List.getElem?_map, gI_get hj]
  rfl
theorem tw_up (c : l ≠ []) : (textL h l r)[h.length + 1 + l.length]? = some "up" ∧ (textL h l r)[h.length + 1 + l.length + 1]? = some (nS r) ∧ (textL h l r)[h.length + 1 + l.length + 1 + 1]? = none := by
  refine ⟨?_, ?_, ?_⟩
  · rw [tw_on c, List.getElem?_append_right (by rw [List.length_map]; exact Nat.le_refl _), List.length_map, Nat.sub_self]
    rfl
  · rw [Nat.add_assoc (h.length + 1), tw_on c, List.getElem?_append_right (by rw [List.length_map]; omega), List.length_map, show l.length + 1 - l.length = 1 by omega]
    rfl
  · rw [show h.length + 1 + l.length + 1 + 1 = h.length + 1 + (l.length + 2) by omega, tw_on c]
    exact List.getElem?_eq_none (by simp)
end
abbrev N_write_table : List Str := ["table", "words", "value"]
theorem sc_write_table : FnScope N_write_table ["table"] (defScope s_write_table) := ⟨rfl, rfl, rfl, by decide +kernel, rfl, by decide +kernel, by decide +kernel⟩
theorem ok_write_table {P : Program} {w : World} {K : PySem.W.Frag} {mg : Str → Option Value} {base : Heap} (E : Env P K mg) : Fn P w K mg base CX0 1 "write_table" (sp1 fun v H Q _ => ∃ (x : Addr) (h l : List Int) (r : Int), v = .ref x ∧ TabAt K H x h l r ∧ Twr h l r ∧ ∀ H', Ex H H' → Q (.str (textOf h l r)) H') := by
  obtain ⟨fd, F⟩ := E.dd_write_table
  refine Fn.mk0 F E.g_write_table sc_write_table sp1_len (fun _ _ _ _ _ _ us hl => match us, hl with | [_], _ => rfl) (fun cdv A outer s H vs Q X hr h => ?_)
  have nd := sc_write_table.nd
  obtain ⟨v0, rfl, h⟩ := h
  refine ⟨_, (pss_cons (ps_setLc (i := 1) (own := [("value", 2)]) (g := gName 2) (tt := tYes) rfl nd rfl rfl (sw_true rfl rfl rfl (by decide +kernel)) (kSeq K (kFld K (pv 0) rfl)) (blkOk_by (N := N_write_table) (sc := defScope s_write_table) (by decide +kernel)) (fun _ _ _ _ _ => pg_name (i := 2) nd rfl (Or.inl rfl)) (fun _ _ _ _ _ => pts_nil) (fun _ _ _ _ _ => pe_callTy xStrI (by rfl) E.f_str (by decide +kernel) (pa_cons (pv 2) pa_nil)))
  (pss_cons (ps_if (pt_cmpR (kEq K hr) (pe_callB (kLen K) (by rfl) E.f_len (by decide +kernel) (pa_cons (kFld K (pv 0) rfl) pa_nil)) (pe_int) (nomark _))
   (pss_one (ps_ret (kJoin K (pe_str) (pe_op (kAdd K) (pv 1) (pe_lst (pa_cons (pe_str) pa_nil))))))
   pss_nil)
  (pss_cons (ps_set (i := 1) nd rfl (.inl rfl) (pe_op (kAdd K) (pe_op (kAdd K) (pv 1) (pe_lst (pa_cons (pe_str) pa_nil))) (pe_lc (own := [("value", 2)]) (g := gName 2) (tt := tYes) rfl nd (kSeq K (kFld K (pv 0) rfl)) (blkOk_by (N := N_write_table) (sc := defScope s_write_table) (by decide +kernel)) (fun _ _ _ _ _ => pg_name (i := 2) nd rfl (Or.inl rfl)) (fun _ _ _ _ _ => pts_nil) (fun _ _ _ _ _ => pe_callTy xStrI (by rfl) E.f_str (by decide +kernel) (pa_cons (pv 2) pa_nil)))))
  (pss_one (ps_ret (kJoin K (pe_str) (pe_op (kAdd K) (pv 1) (pe_lst (pa_cons (pe_str) (pa_cons (pe_callTy xStrI (by rfl) E.f_str (by decide +kernel) (pa_cons (kFld K (pv 0) rfl) pa_nil)) pa_nil)))))))))), ?_⟩
  change (_ : TS) _ [some v0, none, none] H
  try dsimp only [cxOf, Cx.nox, Cx.blk]
  obtain ⟨x, h, l, r, rfl, tt, T, k⟩ := h
  have zh := T.zh
  have zl := T.zl
  walk_at "w"
  refine i_seqT ?_
  walk_at "w"
  refine r_tabHead E tt fun th s1 => ?_
  walk_at "w"
  refine lcJ_tup (v := strV) s1 (by rw [List.length_map]; omega) (fun y => [_, _, some y]) (fun y => rfl) (fun y => rfl) (fun y H1 Q' e1 hy hq => ?_) (fun p1 H1 n1 e1 g1 => ?_)
  · obtain ⟨n, hn, rfl⟩ := List.mem_map.mp hy
    walk_at "w"
    refine r_strI (nS_log (T.sh n hn)) ?_
    exact hq _ (Ex.refl _)
  rw [map_strV] at g1
  have tt1 := ex_tab e1 tt
  walk_at "w"
  refine r_tabLoop E tt1 fun tl s2 => ?_
  walk_at "w"
  have zz := textL_size T
  by_cases c : l = []
  · have c0 : l.length = 0 := by rw [c]; rfl
    walk_at "w"
    refine w_m1 ?_
    walk_at "w"
    refine ⟨⟨_, rfl⟩, ?_⟩
    walk_at "w"
    intro p2 H2 n2 e2 g2
    refine r_addL (e2 _ _ g1) g2 (sz_of (by simp only [sV, List.length_map, List.length_cons, List.length_nil]; omega)) fun p3 H3 n3 e3 g3 => ?_
    have g3' : H3 p3 = some (.lst (sV (textL h l r))) := by
      rw [g3, textL_end c, ← sV_app]
      rfl
    walk_at "w"
    refine r_joinL (sq_of g3') zz ?_
    exact k _ ((e1.trans e2).trans e3)
  · have l0 : 0 < l.length := List.length_pos_iff.mpr c
    walk_at "w"
    intro p2 H2 n2 e2 g2
    refine r_addL (e2 _ _ g1) g2 (sz_of (by simp only [sV, List.length_map, List.length_cons, List.length_nil]; omega)) fun p3 H3 n3 e3 g3 => ?_
    have e13 := (e1.trans e2).trans e3
    walk_at "w"
    refine i_seqT ?_
    walk_at "w"
    refine r_tabLoop E (ex_tab e13 tt) fun tl s2 => ?_
    walk_at "w"
    refine lcJ_tup (v := strV) s2 (by rw [List.length_map]; omega) (fun y => [_, _, some y]) (fun y => rfl) (fun y => rfl) (fun y H4 Q' e4 hy hq => ?_) (fun p4 H4 n4 e4 g4 => ?_)
    · obtain ⟨n, hn, rfl⟩ := List.mem_map.mp hy
      walk_at "w"
      refine r_strI (nS_log (T.sl n hn)) ?_
      exact hq _ (Ex.refl _)
    rw [map_strV] at g4
    walk_at "w"
    refine r_addL (e4 _ _ g3) g4 (sz_of (by simp only [sV, List.length_append, List.length_map, List.length_cons, List.length_nil]; omega)) fun p5 H5 n5 e5 g5 => ?_
    have e15 := (e13.trans e4).trans e5
    walk_at "w"
    refine w_m1 ?_
    walk_at "w"
    refine ⟨⟨_, rfl⟩, ?_⟩
    walk_at "w"
    refine r_tabRise E (ex_tab e15 tt) ?_
    walk_at "w"
    refine r_strI (nS_log T.sr) ?_
    walk_at "w"
    intro p6 H6 n6 e6 g6
    refine r_addL (e6 _ _ g5) g6 (sz_of (by simp only [sV, List.length_append, List.length_map, List.length_cons, List.length_nil]; omega)) fun p7 H7 n7 e7 g7 => ?_
    have g7' : H7 p7 = some (.lst (sV (textL h l r))) := by
      rw [g7, textL_on c, ← sV_app, ← sV_app, ← sV_app]
      rfl
    walk_at "w"
    refine r_joinL (sq_of g7') zz ?_
    exact k _ ((e15.trans e6).trans e7)

end
section
local macro_rules | `(tactic| walk_at "hp") => `(tactic| first
  | with_reducible assumption
  | (with_reducible refine' ex_tab ?a ?b; (case a => with_reducible assumption); (case b => walk_at "hp")))
abbrev N__law_text : List Str := ["raw", "words", "one"]
theorem sc__law_text : FnScope N__law_text ["raw"] (defScope s__law_text) := ⟨rfl, rfl, rfl, by decide +kernel, rfl, by decide +kernel, by decide +kernel⟩
theorem ok__law_text {P : Program} {w : World} {K : PySem.W.Frag} {mg : Str → Option Value} {base : Heap} (E : Env P K mg) : Fn P w K mg base CX0 1 "_law_text" (sp1 fun v H Q _ => ∃ (h l : List Int) (r : Int), Dp K H v (dRaw h l r) ∧ Twr h l r ∧ ∀ H', Ex H H' → Q (.str (textOf h l r)) H') := by
  obtain ⟨fd, F⟩ := E.dd__law_text
  refine Fn.mk0 F E.g__law_text sc__law_text sp1_len (fun _ _ _ _ _ _ us hl => match us, hl with | [_], _ => rfl) (fun cdv A outer s H vs Q X hr h => ?_)
  have nd := sc__law_text.nd
  obtain ⟨v0, rfl, h⟩ := h
  refine ⟨_, (pss_cons (ps_setLc (i := 1) (own := [("one", 2)]) (g := gName 2) (tt := tYes) rfl nd rfl rfl (sw_true rfl rfl rfl (by decide +kernel)) (kSeq K (pe_ix (kIx K) (pv 0) (pe_int) (fun _ _ => rfl))) (blkOk_by (N := N__law_text) (sc := defScope s__law_text) (by decide +kernel)) (fun _ _ _ _ _ => pg_name (i := 2) nd rfl (Or.inl rfl)) (fun _ _ _ _ _ => pts_nil) (fun _ _ _ _ _ => pe_callTy xStrI (by rfl) E.f_str (by decide +kernel) (pa_cons (pv 2) pa_nil)))
  (pss_cons (ps_if (pt_cmpR (kEq K hr) (pe_callB (kLen K) (by rfl) E.f_len (by decide +kernel) (pa_cons (pe_ix (kIx K) (pv 0) (pe_int) (fun _ _ => rfl)) pa_nil)) (pe_int) (nomark _))
   (pss_one (ps_ret (kJoin K (pe_str) (pe_op (kAdd K) (pv 1) (pe_lst (pa_cons (pe_str) pa_nil))))))
   pss_nil)
  (pss_one (ps_ret (kJoin K (pe_str) (pe_op (kAdd K) (pe_op (kAdd K) (pe_op (kAdd K) (pv 1) (pe_lst (pa_cons (pe_str) pa_nil))) (pe_lc (own := [("one", 2)]) (g := gName 2) (tt := tYes) rfl nd (kSeq K (pe_ix (kIx K) (pv 0) (pe_int) (fun _ _ => rfl))) (blkOk_by (N := N__law_text) (sc := defScope s__law_text) (by decide +kernel)) (fun _ _ _ _ _ => pg_name (i := 2) nd rfl (Or.inl rfl)) (fun _ _ _ _ _ => pts_nil) (fun _ _ _ _ _ => pe_callTy xStrI (by rfl) E.f_str (by decide +kernel) (pa_cons (pv 2) pa_nil)))) (pe_lst (pa_cons (pe_str) (pa_cons (pe_callTy xStrI (by rfl) E.f_str (by decide +kernel) (pa_cons (pe_ix (kIx K) (pv 0) (pe_int) (fun _ _ => rfl)) pa_nil)) pa_nil))))))))), ?_⟩
  change (_ : TS) _ [some v0, none, none] H
  try dsimp only [cxOf, Cx.nox, Cx.blk]
  obtain ⟨h, l, r, d, T, k⟩ := h
  obtain ⟨a1, th, tl, rfl, s1, s2, s3⟩ := dp_raw d
  have zh := T.zh
  have zl := T.zl
  walk_at "w"
  refine i_seqT ?_
  walk_at "w"
  refine lcJ_tup (v := strV) s2 (by rw [List.length_map]; omega) (fun y => [_, _, some y]) (fun y => rfl) (fun y => rfl) (fun y H1 Q' e1 hy hq => ?_) (fun p1 H1 n1 e1 g1 => ?_)
  · obtain ⟨n, hn, rfl⟩ := List.mem_map.mp hy
    walk_at "w"
    refine r_strI (nS_log (T.sh n hn)) ?_
    exact hq _ (Ex.refl _)
  rw [map_strV] at g1
  have s1 := ex_t e1 s1
  have s3 := ex_t e1 s3
  have zz := textL_size T
  walk_at "w"
  by_cases c : l = []
  · have c0 : l.length = 0 := by rw [c]; rfl
    walk_at "w"
    refine w_m1 ?_
    walk_at "w"
    refine ⟨⟨_, rfl⟩, ?_⟩
    walk_at "w"
    intro p2 H2 n2 e2 g2
    refine r_addL (e2 _ _ g1) g2 (sz_of (by simp only [sV, List.length_map, List.length_cons, List.length_nil]; omega)) fun p3 H3 n3 e3 g3 => ?_
    have g3' : H3 p3 = some (.lst (sV (textL h l r))) := by
      rw [g3, textL_end c, ← sV_app]
      rfl
    walk_at "w"
    refine r_joinL (sq_of g3') zz ?_
    exact k _ ((e1.trans e2).trans e3)
  · have l0 : 0 < l.length := List.length_pos_iff.mpr c
    walk_at "w"
    refine w_m1 ?_
    walk_at "w"
    refine ⟨⟨_, rfl⟩, ?_⟩
    walk_at "w"
    intro p2 H2 n2 e2 g2
    refine r_addL (e2 _ _ g1) g2 (sz_of (by simp only [sV, List.length_map, List.length_cons, List.length_nil]; omega)) fun p3 H3 n3 e3 g3 => ?_
    have e23 := e2.trans e3
    have s1 := ex_t e23 s1
    have s3 := ex_t e23 s3
    walk_at "w"
    refine i_seqT ?_
    walk_at "w"
    refine lcJ_tup (v := strV) s3 (by rw [List.length_map]; omega) (fun y => [_, _, some y]) (fun y => rfl) (fun y => rfl) (fun y H4 Q' e4 hy hq => ?_) (fun p4 H4 n4 e4 g4 => ?_)
    · obtain ⟨n, hn, rfl⟩ := List.mem_map.mp hy
      walk_at "w"
      refine r_strI (nS_log (T.sl n hn)) ?_
      exact hq _ (Ex.refl _)
    rw [map_strV] at g4
    refine r_addL (e4 _ _ g3) g4 (sz_of (by simp only [sV, List.length_append, List.length_map, List.length_cons, List.length_nil]; omega)) fun p5 H5 n5 e5 g5 => ?_
    have e45 := e4.trans e5
    have s1 := ex_t e45 s1
    walk_at "w"
    refine r_strI (nS_log T.sr) ?_
    walk_at "w"
    intro p6 H6 n6 e6 g6
    refine r_addL (e6 _ _ g5) g6 (sz_of (by simp only [sV, List.length_append, List.length_map, List.length_cons, List.length_nil]; omega)) fun p7 H7 n7 e7 g7 => ?_
    have g7' : H7 p7 = some (.lst (sV (textL h l r))) := by
      rw [g7, textL_on c, ← sV_app, ← sV_app, ← sV_app]
      rfl
    walk_at "w"
    refine r_joinL (sq_of g7') zz ?_
    exact k _ ((((e1.trans e23).trans e45).trans e6).trans e7)
abbrev spW (K : PySem.W.Frag) : Sp := sp2 fun x a H Q _ => ∃ p dx q : Addr, x = .ref p ∧ a = .ref q ∧ H p = some (.ins (He.ga K "Words") dx []) ∧ ∀ H', Fr p H H' → H' p = some (.ins (He.ga K "Words") dx (wF q 0)) → Q .non H'
theorem mk_words {K : PySem.W.Frag} {H : Hp} {Q : VK} {q : Addr} (k : ∀ x dx H2, H x = none → Ex H H2 → H2 x = some (.ins (He.ga K "Words") dx (wF q 0)) → Q (.ref x) H2) : MakeI (He.ga K "Words") (spW K) [] E0 [.ref q] H Q := by
  intro x dx nx ndx ne
  have ex : Ex H (upd (upd H dx (.own x)) x (.ins (He.ga K "Words") dx [])) := fun b o e => by
    rw [upd_ne (ne_of_none e nx), upd_ne (ne_of_none e ndx)]
    exact e
  exact ⟨_, _, rfl, x, dx, q, rfl, rfl, upd_same, fun H' f g => ⟨rfl, k x dx H' nx (fun b o e => f b o (ne_of_none e nx) (ex b o e)) g⟩⟩
theorem ok_Words1 {P : Program} {w : World} {K : PySem.W.Frag} {mg : Str → Option Value} {base : Heap} (E : Env P K mg) : Mkc P w K mg base CX0 1 "Words" (He.ga K "Words") (spW K) [] := by
  obtain ⟨fd, F, k⟩ := fx_Words_init (P := P) (w := w) (base := base) E
  exact ⟨_, fd, _, [], E.mk_Words, k, E.g_Words, F.bindsN (fun _ _ _ _ _ _ us hl => match us, hl with | [_, _], _ => rfl), .nil⟩
theorem ex_fr {p : Addr} {H H1 H2 : Hp} (n : H p = none) (e : Ex H H1) (f : Fr p H1 H2) : Ex H H2 := fun b o h => f b o (ne_of_none h n) (e b o h)
abbrev N_read_table : List Str := ["text", "words", "head", "loop", "rise"]
theorem sc_read_table : FnScope N_read_table ["text"] (defScope s_read_table) := ⟨rfl, rfl, rfl, by decide +kernel, rfl, by decide +kernel, by decide +kernel⟩
theorem ok_read_table {P : Program} {w : World} {K : PySem.W.Frag} {mg : Str → Option Value} {base : Heap} (E : Env P K mg) : Fn P w K mg base CX0 12 "read_table" (sp1 fun v H Q _ => ∃ (h l : List Int) (r : Int), v = .str (textOf h l r) ∧ Val h l r ∧ Twr h l r ∧ (textOf h l r).length ≤ 200000 ∧ ∀ x H', Ex H H' → TabAt K H' x (plainF h l r).1 (plainF h l r).2.1 (plainF h l r).2.2 → Q (.ref x) H') := by
  obtain ⟨fd, F⟩ := E.dd_read_table
  refine Fn.mk0 F E.g_read_table sc_read_table sp1_len (fun _ _ _ _ _ _ us hl => match us, hl with | [_], _ => rfl) (fun cdv A outer s H vs Q X hr h => ?_)
  have nd := sc_read_table.nd
  obtain ⟨v0, rfl, h⟩ := h
  refine ⟨_, (pss_cons (ps_if (pt_not (kTru K (pe_callB (kIsi K) (by rfl) E.f_isinstance (by decide +kernel) (pa_cons (pv 0) (pa_cons (pe_bltn (v := .ty "str") (by rfl) E.f_str (by decide +kernel) rfl) pa_nil))) (by intro _; rfl)))
   (pss_one (ps_never))
   pss_nil)
  (pss_cons (ps_set (i := 1) nd rfl (.inl rfl) (pmk (ok_Words1 E) hr (by decide) pass0 rfl (pa_cons (xSplit (pv 0) (pe_str)) pa_nil)))
  (pss_cons (ps_set (i := 2) nd rfl (.inl rfl) (pmt (ok_Words_take_counts E) hr (by decide) pass0 (pv 1) (pa_cons (pe_int) pa_nil)))
  (pss_cons (ps_if (pt_cmpR (kEq K hr) (pmt0 (ok_Words_ahead E) hr (by decide) pass0 (pv 1)) (pe_str) (nomark _))
   (pss_cons (ps_expr (pmt0 (ok_Words_step E) hr (by decide) pass0 (pv 1)))
  (pss_cons (ps_expr (pmt0 (ok_Words_close E) hr (by decide) pass0 (pv 1)))
  (pss_one (ps_ret (pmk (ok_Table1 E) hr (by decide) pass0 rfl (pa_cons (pv 2) pa_nil))))))
   pss_nil)
  (pss_cons (ps_if (pt_cmpR (kNe K hr) (pmt0 (ok_Words_ahead E) hr (by decide) pass0 (pv 1)) (pe_str) (nomark _))
   (pss_one (ps_never))
   pss_nil)
  (pss_cons (ps_expr (pmt0 (ok_Words_step E) hr (by decide) pass0 (pv 1)))
  (pss_cons (ps_set (i := 3) nd rfl (.inl rfl) (pmt (ok_Words_take_counts E) hr (by decide) pass0 (pv 1) (pa_cons (pe_ifExp (pt_cmpR op_gt (pe_callB (kLen K) (by rfl) E.f_len (by decide +kernel) (pa_cons (pv 2) pa_nil)) (pe_int) (nomark _)) (pe_ix (kIx K) (pv 2) (pe_un un_neg (pe_int)) (fun _ _ => rfl)) (pe_int)) pa_nil)))
  (pss_cons (ps_if (PW.pt (pw_or (pt_cmpR (kNe K hr) (pmt0 (ok_Words_ahead E) hr (by decide) pass0 (pv 1)) (pe_str) (nomark _)) (pw_or1 (pt_cmpR (kEq K hr) (pe_callB (kLen K) (by rfl) E.f_len (by decide +kernel) (pa_cons (pv 3) pa_nil)) (pe_int) (nomark _)))))
   (pss_one (ps_never))
   pss_nil)
  (pss_cons (ps_expr (pmt0 (ok_Words_step E) hr (by decide) pass0 (pv 1)))
  (pss_cons (ps_set (i := 4) nd rfl (.inl rfl) (pmt (ok_Words_take_rise E) hr (by decide) pass0 (pv 1) (pa_cons (pe_op xSub (pe_ix (kIx K) (pv 3) (pe_un un_neg (pe_int)) (fun _ _ => rfl)) (pe_ix (kIx K) (pv 3) (pe_int) (fun _ _ => rfl))) pa_nil)))
  (pss_cons (ps_expr (pmt0 (ok_Words_close E) hr (by decide) pass0 (pv 1)))
  (pss_one (ps_ret (pmk (ok_Table3 E) hr (by decide) pass0 rfl (pa_cons (pv 2) (pa_cons (pv 3) (pa_cons (pv 4) pa_nil))))))))))))))))), ?_⟩
  change (_ : TS) _ [some v0, none, none, none, none] H
  try dsimp only [cxOf, Cx.nox, Cx.blk]
  obtain ⟨h, l, r, rfl, W, T, zt, k⟩ := h
  have zh := T.zh
  have zl := T.zl
  walk_at "w"
  refine w_m1 ?_
  walk_at "w"
  refine ⟨⟨_, rfl⟩, ?_⟩
  walk_at "w"
  refine r_split (by decide +kernel) (by rw [sizeLine_eq]; omega) fun q H1 n1 e1 g1 => ?_
  rw [textOf_split T] at g1
  walk_at "w"
  refine mk_words fun p dx H2 n2 e2 hp => ?_
  have hq : SqL K H2 q ((textL h l r).map V.str) := sq_of (e2 _ _ g1)
  have e12 := e1.trans e2
  have np : H p = none := by
    cases hh : H p with
    | none => rfl
    | some o => rw [e1 _ _ hh] at n2; cases n2
  walk_at "w"
  refine r_meth hp wF_no_take_counts ?_
  walk_at "w"
  refine w_callM2 ⟨p, dx, q, textL h l r, 0, 0, h, rfl, rfl, hp, hq, zh, tw_h, T.sh, W.p1, W.r1, ?_, fun th H3 f3 hp3 nth gth => ?_⟩
  · by_cases c : l = []
    · exact ⟨_, (tw_never c).1, Wok.never⟩
    · exact ⟨_, tw_then c, Wok.then_⟩
  rw [Nat.zero_add] at hp3
  have hq3 := sl_fri hp f3 hq
  have E3 := ex_fr np e12 f3
  walk_at "w"
  refine r_meth hp3 wF_no_ahead ?_
  walk_at "w"
  refine w_callM1 ⟨p, dx, q, textL h l r, h.length, rfl, hp3, hq3, ?_⟩
  by_cases c : l = []
  · have tw := tw_never (h := h) (r := r) c
    rw [Nat.zero_add] at tw
    rw [wV_some tw.1]
    walk_at "w"
    refine r_eqSS ?_
    rw [decide_eq_true rfl]
    walk_at "w"
    refine r_meth hp3 wF_no_step ?_
    walk_at "w"
    refine w_callM1 ⟨p, dx, q, _, rfl, hp3, ?_⟩
    obtain ⟨H4, h4⟩ : ∃ H4, H4 = upd H3 p (.ins (He.ga K "Words") dx (wF q ((h.length : Nat) + 1 : Int))) := ⟨_, rfl⟩
    rw [← h4]
    have f4 : Fr p H3 H4 := by rw [h4]; exact Fr.upd
    have hp4 : H4 p = some (.ins (He.ga K "Words") dx (wF q ((h.length + 1 : Nat) : Int))) := by rw [h4]; exact upd_same
    have hq4 := sl_fri hp3 f4 hq3
    have tp : th ≠ p := fun e => by rw [e, hp3] at gth; cases gth
    have gth4 := f4 _ _ tp gth
    have E4 := ex_fr np E3 f4
    clear h4
    walk_at "w"
    refine r_meth hp4 wF_no_close ?_
    walk_at "w"
    refine w_callM1 ⟨p, dx, q, textL h l r, h.length + 1, rfl, hp4, hq4, tw.2, ?_⟩
    walk_at "w"
    have er : r = 0 := W.e0 c
    subst c er
    refine mk_tab (b1 := false) (b2 := true) rfl (dp_of_intL (sq_of gth4)) (dp_of_ints (ns := []) (E.t0_Table _)) (.int 0) W fun x H5 e5 t5 => ?_
    exact k x H5 (E4.trans e5) t5
  · have l0 : 0 < l.length := List.length_pos_iff.mpr c
    have tw := tw_then (h := h) (r := r) c
    obtain ⟨u1, u2, u3⟩ := tw_up (h := h) (r := r) c
    rw [Nat.zero_add] at tw
    rw [wV_some tw]
    walk_at "w"
    refine r_eqSS ?_
    rw [decide_eq_false (by decide +kernel)]
    walk_at "w"
    refine r_meth hp3 wF_no_ahead ?_
    walk_at "w"
    refine w_callM1 ⟨p, dx, q, textL h l r, h.length, rfl, hp3, hq3, ?_⟩
    rw [wV_some tw]
    walk_at "w"
    refine r_neSS ?_
    walk_at "w"
    refine r_meth hp3 wF_no_step ?_
    walk_at "w"
    refine w_callM1 ⟨p, dx, q, _, rfl, hp3, ?_⟩
    obtain ⟨H4, h4⟩ : ∃ H4, H4 = upd H3 p (.ins (He.ga K "Words") dx (wF q ((h.length : Nat) + 1 : Int))) := ⟨_, rfl⟩
    rw [← h4]
    have f4 : Fr p H3 H4 := by rw [h4]; exact Fr.upd
    have hp4 : H4 p = some (.ins (He.ga K "Words") dx (wF q ((h.length + 1 : Nat) : Int))) := by rw [h4]; exact upd_same
    have hq4 := sl_fri hp3 f4 hq3
    have tp : th ≠ p := fun e => by rw [e, hp3] at gth; cases gth
    have gth4 := f4 _ _ tp gth
    have E4 := ex_fr np E3 f4
    clear h4 hp3 hq3 f3 f4 E3 gth
    have sth : SqL K H4 th (vI h) := sq_of gth4
    walk_at "w"
    refine r_meth hp4 wF_no_take_counts ?_
    have lo : ∀ n ∈ l, (if h = [] then 0 else gI h (-1 + h.length)) ≤ n := fun n hn => by
      by_cases ch : h = []
      · rw [if_pos ch]; exact W.p2 n hn
      · rw [if_neg ch]
        have a := W.hl ch c
        rw [show (h.length : Int) - 1 = -1 + h.length by omega] at a
        obtain ⟨i, hi, rfl⟩ := List.getElem_of_mem hn
        have b := rising_le W.r2 i 0 (by omega)
        have e2 : gI l (i : Int) = l[i] := Option.some.inj ((gI_get hi).symm.trans (List.getElem?_eq_getElem hi))
        rw [show ((0 : Nat) : Int) + (i : Int) = (i : Int) by omega, e2] at b
        exact Int.le_trans a b
    have next : ∀ (Q' : VK), (∀ t H', Fr p H4 H' → H' p = some (.ins (He.ga K "Words") dx (wF q ((h.length + 1 + l.length : Nat) : Int))) → H4 t = none → H' t = some (.lst (vI l)) → Q' (.ref t) H') → (spTake K) [.ref p, .int (if h = [] then 0 else gI h (-1 + h.length))] H4 Q' E0 := fun Q' kk =>
      ⟨_, _, rfl, p, dx, q, textL h l r, h.length + 1, _, l, rfl, rfl, hp4, hq4, zl, tw_l c, T.sl, lo, W.r2, ⟨_, u1, Wok.up⟩, kk⟩
    have fin : ∀ (tl : Addr) H5, Fr p H4 H5 → H5 p = some (.ins (He.ga K "Words") dx (wF q ((h.length + 1 + l.length : Nat) : Int))) → H5 tl = some (.lst (vI l)) → SqL K H5 q ((textL h l r).map V.str) ∧ SqL K H5 th (vI h) ∧ SqL K H5 tl (vI l) ∧ Ex H H5 := fun tl H5 f5 hp5 g5 => ⟨sl_fri hp4 f5 hq4, sl_fri hp4 f5 sth, sq_of g5, ex_fr np E4 f5⟩
    by_cases ch : h = []
    case' pos =>
      have ch0 : h.length = 0 := by rw [ch]; rfl
      rw [if_pos ch] at next
      walk_at "w"
    case' neg =>
      have ch0 : 0 < h.length := List.length_pos_iff.mpr ch
      rw [if_neg ch] at next
      walk_at "w"
    all_goals
      refine next _ fun tl H5 f5 hp5 ntl gtl => ?_
      obtain ⟨hq5, sth5, stl5, E5⟩ := fin tl H5 f5 hp5 gtl
      walk_at "w"
      refine r_meth hp5 wF_no_ahead ?_
      walk_at "w"
      refine w_callM1 ⟨p, dx, q, textL h l r, h.length + 1 + l.length, rfl, hp5, hq5, ?_⟩
      rw [wV_some u1]
      walk_at "w"
      refine r_neSS ?_
      walk_at "w"
      refine r_meth hp5 wF_no_step ?_
      walk_at "w"
      refine w_callM1 ⟨p, dx, q, _, rfl, hp5, ?_⟩
      obtain ⟨H6, h6⟩ : ∃ H6, H6 = upd H5 p (.ins (He.ga K "Words") dx (wF q (((h.length + 1 + l.length : Nat) : Int) + 1))) := ⟨_, rfl⟩
      rw [← h6]
      have f6 : Fr p H5 H6 := by rw [h6]; exact Fr.upd
      have hp6 : H6 p = some (.ins (He.ga K "Words") dx (wF q ((h.length + 1 + l.length + 1 : Nat) : Int))) := by rw [h6]; exact upd_same
      have hq6 := sl_fri hp5 f6 hq5
      have sth6 := sl_fri hp5 f6 sth5
      have stl6 := sl_fri hp5 f6 stl5
      have E6 := ex_fr np E5 f6
      clear h6
      have ll := W.ll c
      rw [show (l.length : Int) - 1 = -1 + l.length by omega] at ll
      walk_at "w"
      refine r_meth hp6 wF_no_take_rise ?_
      walk_at "w"
      refine w_callM2 ⟨p, dx, q, textL h l r, h.length + 1 + l.length + 1, _, r, rfl, rfl, hp6, hq6, u2, T.sr, by omega, fun H7 f7 hp7 => ?_⟩
      have hq7 := sl_fri hp6 f7 hq6
      have sth7 := sl_fri hp6 f7 sth6
      have stl7 := sl_fri hp6 f7 stl6
      have E7 := ex_fr np E6 f7
      walk_at "w"
      refine r_meth hp7 wF_no_close ?_
      walk_at "w"
      refine w_callM1 ⟨p, dx, q, textL h l r, _, rfl, hp7, hq7, u3, ?_⟩
      walk_at "w"
      refine mk_tab (b1 := false) (b2 := false) rfl (dp_of_intL sth7) (dp_of_intL stl7) (.int r) W fun x H8 e8 t8 => ?_
      exact k x H8 (E7.trans e8) t8

end
section
theorem textOf_len {h l : List Int} {r : Int} (T : Twr h l r) : (textOf h l r).length ≤ 200000 := by
  unfold textOf
  rw [TL.join_eq]
  have a := StrLaws.join_length_le " " (textL h l r)
  have b := sum_le fun w hw => (textL_word T w hw).1
  have c := textL_len T
  have d : (" " : Str).length = 1 := by decide +kernel
  rw [d] at a
  omega
theorem tv_bd {h l : List Int} {r b : Int} (r0 : 0 ≤ r) (bh : ∀ n ∈ h, n ≤ b) (bl : ∀ n ∈ l, n ≤ b) {j : Nat} {v : Int} (e : TV h l r j = some v) : v ≤ b + r * ((j : Int) + 1) := by
  have pos : 0 ≤ r * ((j : Int) + 1) := Int.mul_nonneg r0 (by omega)
  by_cases c : l = []
  · unfold TV at e
    rw [if_pos c] at e
    have := bh v (List.mem_of_getElem? e)
    omega
  · have l0 : 0 < l.length := List.length_pos_iff.mpr c
    rw [tv_some c] at e
    cases e
    by_cases hj : j < h.length
    · rw [fV_head hj]
      have := bh _ (gI_mem (ns := h) (r := (j : Int)) (by omega) (by omega))
      omega
    · rw [fV_loop (by omega)]
      unfold extL
      have m0 := Int.emod_nonneg ((j : Int) - h.length) (show (l.length : Int) ≠ 0 by omega)
      have m1 := Int.emod_lt_of_pos ((j : Int) - h.length) (show (0 : Int) < l.length by omega)
      have a := bl _ (gI_mem m0 m1)
      have q : ((j : Int) - h.length) / l.length ≤ (j : Int) + 1 := Int.le_trans (Int.ediv_le_self _ (by omega)) (by omega)
      have := Int.mul_le_mul_of_nonneg_left q r0
      omega
theorem twr_val {h l : List Int} {r : Int} (V : Val h l r) (zh : h.length ≤ 1000) (zl : l.length ≤ 1000) (zr : r < 10 ^ 60) (bd : ∀ (j : Nat) v, j < h.length + l.length → TV h l r j = some v → v < 10 ^ 60) : Twr h l r := by
  have hv : ∀ j : Nat, j < h.length → TV h l r j = some (gI h j) := fun j hj => by
    by_cases c : l = []
    · unfold TV
      rw [if_pos c, gI_get hj]
    · rw [tv_some c, fV_head hj]
  have lv : ∀ j : Nat, j < l.length → TV h l r (h.length + j) = some (gI l j) := fun j hj => by
    have c : l ≠ [] := fun e => by rw [e] at hj; exact absurd hj (Nat.not_lt_zero _)
    rw [tv_some c, fV_loop (by omega), show ((h.length + j : Nat) : Int) - h.length = j by omega, extL_small hj]
  refine ⟨fun n hn => ⟨V.p1 n hn, ?_⟩, fun n hn => ⟨V.p2 n hn, ?_⟩, ⟨V.r0, zr⟩, zh, zl⟩
  · obtain ⟨j, hj, rfl⟩ := List.getElem_of_mem hn
    refine bd j _ (by omega) ?_
    rw [hv j hj]
    exact (gI_get hj).symm.trans (List.getElem?_eq_getElem hj)
  · obtain ⟨j, hj, rfl⟩ := List.getElem_of_mem hn
    refine bd (h.length + j) _ (by omega) ?_
    rw [lv j hj]
    exact (gI_get hj).symm.trans (List.getElem?_eq_getElem hj)
/-- the drawn tables, now and then great -/
structure Gr (h l : List Int) (r : Int) : Prop where
  val : Val h l r
  zh : h.length ≤ 200
  zl : l.length ≤ 4
  bh : ∀ n ∈ h, n ≤ 10 ^ 59 + 2000
  bl : ∀ n ∈ l, n ≤ 10 ^ 59 + 2000
  br : r ≤ 12
theorem big_pos : (0 : Int) ≤ 10 ^ 59 := Int.pow_nonneg (by decide)
theorem RawOk.gr {h l : List Int} {r : Int} (R : RawOk h l r) : Gr h l r :=
  ⟨R.val, by have := R.zh; omega, R.zl, fun n hn => by have := R.bh n hn; have := big_pos; omega, fun n hn => by have := R.bl n hn; have := big_pos; omega, R.br⟩
theorem big_lt : (10 : Int) ^ 59 + 2000 + 12 * 5000 < 10 ^ 60 := by decide +kernel
theorem Gr.tv {h l : List Int} {r : Int} (R : Gr h l r) {j : Nat} {v : Int} (hj : j ≤ 4000) (e : TV h l r j = some v) : v < 10 ^ 60 := by
  have a := tv_bd R.val.r0 R.bh R.bl e
  have b := Int.mul_le_mul R.br (show (j : Int) + 1 ≤ 5000 by omega) (by omega) (by decide)
  have c := big_lt
  omega
/-- another telling of a table is written, too -/
theorem Gr.twr {h l h2 l2 : List Int} {r r2 : Int} (R : Gr h l r) (V : Val h2 l2 r2) (P : plainF h2 l2 r2 = plainF h l r) (zh : h2.length ≤ 1000) (zl : l2.length ≤ 1000) (zr : r2 ≤ 1000) : Twr h2 l2 r2 := by
  have tv : ∀ j, TV h2 l2 r2 j = TV h l r j := fun j => by
    rw [← (plainF_val V).2.1 j, ← (plainF_val R.val).2.1 j, P]
  refine twr_val V zh zl ?_ fun j v hj e => R.tv (j := j) (by omega) (by rw [← tv]; exact e)
  have := big_lt
  have := big_pos
  omega
theorem Gr.plain {h l : List Int} {r : Int} (R : Gr h l r) : Twr (plainF h l r).1 (plainF h l r).2.1 (plainF h l r).2.2 := by
  obtain ⟨a, _, c, _⟩ := plainF_val R.val
  obtain ⟨_, _, _, x, y, z⟩ := plainF_ok R.val
  have := R.zh
  have := R.zl
  have := R.br
  exact R.twr a c (by omega) (by omega) (by omega)
theorem vat_eq {h l h2 l2 : List Int} {r r2 : Int} (tv : ∀ j, TV h l r j = TV h2 l2 r2 j) (n : Nat) : valueAt h l r (some (n : Int)) = valueAt h2 l2 r2 (some (n : Int)) := by
  cases n with
  | zero => rw [show ((0 : Nat) : Int) = 0 from rfl, vat_zero, vat_zero]
  | succ j =>
    show vat h l r ((j + 1 : Nat) : Int) = vat h2 l2 r2 ((j + 1 : Nat) : Int)
    rw [show ((j + 1 : Nat) : Int) = (j : Int) + 1 by omega, vat_TV, vat_TV, tv]
/-- the product of a small table with itself is written -/
theorem sq_twr {h2 l2 h l : List Int} {r2 r : Int} {h0 l0 : List Int} {r0 : Int} (R : RawOk h0 l0 r0) (e2 : TV h2 l2 r2 = TV h0 l0 r0) (en : endOf l2 r2 = endOf l0 r0) (zh : h2.length ≤ 4) (zl : l2.length ≤ 4) (nn : 0 ≤ r2) (br : r2 ≤ 12) (C : Cmp h2 l2 r2 h2 l2 r2 h l r) : Twr h l r := by
  have V0 := R.val
  have b1 : ∀ n ∈ h0, n ≤ 16 := fun n hn => by have := R.bh n hn; omega
  have tb : ∀ (j : Nat) v, TV h0 l0 r0 j = some v → v ≤ 16 + 12 * ((j : Int) + 1) := fun j v e => by
    have a := tv_bd V0.r0 b1 R.bl e
    have b := Int.mul_le_mul R.br (show (j : Int) + 1 ≤ (j : Int) + 1 by omega) (by omega) (show (0 : Int) ≤ 12 by decide)
    omega
  have z1 : h.length ≤ 24 := Nat.le_trans C.zh (Nat.le_trans (Nat.add_le_add zh (Nat.mul_le_mul zl (show h2.length + 1 ≤ 5 by omega))) (by decide))
  have z2 : l.length ≤ 16 := by
    by_cases c : l = []
    · rw [c]; exact Nat.zero_le _
    · rcases C.dv c with q | ⟨c1, c2, d⟩
      · omega
      · exact Nat.le_trans (Nat.le_of_dvd (Nat.mul_pos (List.length_pos_iff.mpr c2) (List.length_pos_iff.mpr c1)) d) (Nat.mul_le_mul zl zl)
  have z3 : r ≤ 144 := Int.le_trans C.br (Int.mul_le_mul br br nn (by decide))
  have big : (10000 : Int) < 10 ^ 60 := by decide +kernel
  refine twr_val C.pl.val (by omega) (by omega) (by omega) fun j v hj e => ?_
  rw [C.pl.tv j] at e
  unfold CV at e
  rw [e2] at e
  cases g : TV h0 l0 r0 j with
  | none =>
    rw [g] at e
    have e : endOf l2 r2 = some v := e
    rw [en] at e
    unfold endOf at e
    by_cases c : l0 = [] ∨ r0 > 0
    · rw [if_pos c] at e; cases e
    · rw [if_neg c] at e
      obtain ⟨c1, _⟩ := not_or.mp c
      have l00 : 0 < l0.length := List.length_pos_iff.mpr c1
      have := R.bl _ (gI_mem (ns := l0) (r := (l0.length : Int) - 1) (by omega) (by omega))
      have := Option.some.inj e
      omega
  | some n =>
    rw [g] at e
    have n0 : 0 ≤ n := (Gd.of V0).nn j n g
    have n1 := tb j n g
    obtain ⟨t, rfl⟩ := Int.eq_ofNat_of_zero_le n0
    cases t with
    | zero =>
      rw [show ((0 : Nat) : Int) = 0 from rfl, vat_zero] at e
      cases e
      omega
    | succ t =>
      have e : vat h2 l2 r2 ((t + 1 : Nat) : Int) = some v := e
      rw [show ((t + 1 : Nat) : Int) = (t : Int) + 1 by omega, vat_TV, e2] at e
      have := tb t v e
      omega
abbrev N__law_great : List Str := ["source", "raw", "way", "high", "one"]
theorem sc__law_great : FnScope N__law_great ["source", "raw"] (defScope s__law_great) := ⟨rfl, rfl, rfl, by decide +kernel, rfl, by decide +kernel, by decide +kernel⟩
theorem ok__law_great {P : Program} {w : World} {K : PySem.W.Frag} {mg : Str → Option Value} {base : Heap} (E : Env P K mg) : Fn P w K mg base CX0 3 "_law_great" (sp2 fun s v H Q _ => ∃ (a : Addr) (h l : List Int) (r : Int), s = .ref a ∧ SrcAt H a ∧ Dp K H v (dRaw h l r) ∧ RawOk h l r ∧ ∀ v' H' h2 l2 r2, Fr a H H' → SrcAt H' a → Dp K H' v' (dRaw h2 l2 r2) → Gr h2 l2 r2 → Q v' H') := by
  obtain ⟨fd, F⟩ := E.dd__law_great
  refine Fn.mk0 F E.g__law_great sc__law_great sp2_len (fun _ _ _ _ _ _ us hl => match us, hl with | [_, _], _ => rfl) (fun cdv A outer s H vs Q X hr h => ?_)
  have nd := sc__law_great.nd
  obtain ⟨v0, v1, rfl, h⟩ := h
  refine ⟨_, (pss_cons (ps_set (i := 2) nd rfl (.inl rfl) (pc (ok__law_pick E) hr (by decide) pass0 rfl (pa_cons (pv 0) (pa_cons (pe_int) pa_nil))))
  (pss_cons (ps_if (pt_cmpR (kEq K hr) (pv 2) (pe_int) (nomark _))
   (pss_cons (ps_set (i := 3) nd rfl (.inr rfl) (pe_op (kAdd K) (pe_op xPow (pe_int) (pe_int)) (pc (ok__law_pick E) hr (by decide) pass0 rfl (pa_cons (pv 0) (pa_cons (pe_int) pa_nil)))))
  (pss_one (ps_ret (pe_tup (pa_cons (pe_ix (kIx K) (pv 1) (pe_int) (fun _ _ => rfl)) (pa_cons (pe_callTy (kTup K) (by rfl) E.f_tuple (by decide +kernel) (pa_cons (pe_lc (own := [("one", 4)]) (g := gName 4) (tt := tYes) rfl nd (kSeq K (pe_ix (kIx K) (pv 1) (pe_int) (fun _ _ => rfl))) (blkOk_by (N := N__law_great) (sc := defScope s__law_great) (by decide +kernel)) (fun _ _ _ _ _ => pg_name (i := 4) nd rfl (Or.inl rfl)) (fun _ _ _ _ _ => pts_nil) (fun _ _ _ _ _ => pe_op (kAdd K) (pv 4) (pv 3))) pa_nil)) (pa_cons (pe_ix (kIx K) (pv 1) (pe_int) (fun _ _ => rfl)) pa_nil)))))))
   pss_nil)
  (pss_cons (ps_if (pt_cmpR (kEq K hr) (pv 2) (pe_int) (nomark _))
   (pss_one (ps_ret (pe_tup (pa_cons (pe_callTy (kTup K) (by rfl) E.f_tuple (by decide +kernel) (pa_cons (pc (ok__law_rising E) hr (by decide) pass0 rfl (pa_cons (pv 0) (pa_cons (pe_int) (pa_cons (pe_int) (pa_cons (pe_int) pa_nil))))) pa_nil)) (pa_cons (pe_tup pa_nil) (pa_cons (pe_int) pa_nil))))))
   pss_nil)
  (pss_one (ps_ret (pv 1)))))), ?_⟩
  change (_ : TS) _ [some v0, some v1, none, none, none] H
  try dsimp only [cxOf, Cx.nox, Cx.blk]
  obtain ⟨a, h, l, r, rfl, hsrc, hD, R, k⟩ := h
  obtain ⟨ra, th, tl, rfl, s1, s2, s3⟩ := dp_raw hD
  have rv := R.val
  have r0 := rv.r0
  have zl := R.zl
  have zh := R.zh
  have br := R.br
  walk_at "w"
  refine ⟨a, 6, rfl, rfl, by decide, by decide, hsrc, fun way H1 w0 w1 q1 f1 => ?_⟩
  have t1 := fr_t f1 hsrc s1
  have t2 := fr_t f1 hsrc s2
  have t3 := fr_t f1 hsrc s3
  clear s1 s2 s3 hD
  walk_at "w"
  by_cases c1 : way = 0
  · walk_at "w"
    refine ⟨a, 1000, rfl, rfl, by decide, by decide, q1, fun x H2 x0 x1 q2 f2 => ?_⟩
    have u1 := fr_t f2 q1 t1
    have u2 := fr_t f2 q1 t2
    have u3 := fr_t f2 q1 t3
    clear t1 t2 t3
    have m0 : (0 : Int) ≤ 10 ^ Int.toNat 59 := Int.pow_nonneg (by decide)
    have m1 : (10 : Int) ^ Int.toNat 59 = 10 ^ 59 := rfl
    generalize (10 : Int) ^ Int.toNat 59 = big at *
    walk_at "w"
    refine i_seqT ?_
    walk_at "w"
    refine lcJ_tup (v := addV (big + x)) u3 (by rw [List.length_map]; omega) (fun y => [_, _, _, _, some y]) (fun y => rfl) (fun y => rfl) (fun y H3 Q' e3 hy hq => ?_) (fun p H3 n3 e3 h3 => ?_)
    · obtain ⟨n, hn, rfl⟩ := List.mem_map.mp hy
      walk_at "w"
      exact hq _ (Ex.refl _)
    · rw [map_addV] at h3
      have hs3 : SqL K H3 p (vI (l.map (· + (big + x)))) := sq_of h3
      walk_at "w"
      intro p4 H4 e4 s4
      have t1 := ex_t (e3.trans e4) u1
      have t2 := ex_t (e3.trans e4) u2
      walk_at "w"
      intro p5 H5 n5 e5 h5
      have w : Val h (l.map (· + (big + x))) r := val_add rv (by omega) r0 (by omega) rv.e0 rv.ll
      refine k _ _ _ _ _ ((f1.trans f2).trans (Fr.of ((e3.trans e4).trans e5))) (q2.ex ((e3.trans e4).trans e5)) (dp_of_raw (st_of h5) (ex_t e5 t2) (ex_t e5 s4)) ⟨w, by omega, by rw [List.length_map]; exact zl, fun n hn => ?_, fun n hn => ?_, br⟩
      · have := R.bh n hn
        omega
      · obtain ⟨n', hn', rfl⟩ := List.mem_map.mp hn
        have := R.bl n' hn'
        show n' + (big + x) ≤ _
        omega
  · walk_at "w"
    by_cases c2 : way = 1
    · walk_at "w"
      refine ⟨a, 200, 0, 2, rfl, rfl, rfl, rfl, by decide, by decide, by decide, q1, fun ph hs H3 n3 f3 q3 h3 hl3 hr3 => ?_⟩
      have hsl : SqL K H3 ph (vI hs) := sq_of h3
      walk_at "w"
      intro p4 H4 e4 s4
      walk_at "w"
      intro p5 H5 n5 e5 g5
      have g5' : SqT K H5 p5 (vI []) := st_of g5
      walk_at "w"
      intro p6 H6 n6 e6 g6
      obtain ⟨y1, y2, y3⟩ := hr3
      have ee := (e4.trans e5).trans e6
      refine k _ _ hs [] 0 (f1.trans (f3.trans (Fr.of ee))) (q3.ex ee) (dp_of_raw (st_of g6) (ex_t (e5.trans e6) s4) (ex_t e6 g5')) ⟨⟨y2, fun n hn => absurd hn List.not_mem_nil, y1, fun i hi => absurd hi (by simp), Int.le_refl _, fun _ => rfl, fun _ q => absurd rfl q, fun q => absurd rfl q, ⟨by decide, by decide, by omega, by decide⟩⟩, by omega, by decide, fun n hn => ?_, fun n hn => absurd hn List.not_mem_nil, by decide⟩
      have := y3 n hn
      have := big_pos
      rw [hl3] at *
      omega
    · walk_at "w"
      exact k _ _ h l r f1 q1 (dp_of_raw t1 t2 t3) R.gr

end
section
abbrev N__law_telling : List Str := ["source", "raw", "more", "turns", "cut", "values", "n"]
theorem sc__law_telling : FnScope N__law_telling ["source", "raw"] (defScope s__law_telling) := ⟨rfl, rfl, rfl, by decide +kernel, rfl, by decide +kernel, by decide +kernel⟩
theorem ok__law_telling {P : Program} {w : World} {K : PySem.W.Frag} {mg : Str → Option Value} {base : Heap} (E : Env P K mg) : Fn P w K mg base CX0 3 "_law_telling" (sp2 fun s v H Q _ => ∃ (a : Addr) (h l : List Int) (r : Int), s = .ref a ∧ SrcAt H a ∧ Dp K H v (dRaw h l r) ∧ Gr h l r ∧ ∀ v' H' h2 l2 r2, Fr a H H' → SrcAt H' a → Dp K H' v' (dRaw h2 l2 r2) → Val h2 l2 r2 → plainF h2 l2 r2 = plainF h l r → h2.length ≤ 1000 → l2.length ≤ 1000 → r2 ≤ 1000 → Q v' H') := by
  obtain ⟨fd, F⟩ := E.dd__law_telling
  refine Fn.mk0 F E.g__law_telling sc__law_telling sp2_len (fun _ _ _ _ _ _ us hl => match us, hl with | [_, _], _ => rfl) (fun cdv A outer s H vs Q X hr h => ?_)
  have nd := sc__law_telling.nd
  obtain ⟨v0, v1, rfl, h⟩ := h
  refine ⟨_, (pss_cut (ps_set (i := 2) nd rfl (.inl rfl) (pe_ifExp (pt_cmpR op_gt (pe_callB (kLen K) (by rfl) E.f_len (by decide +kernel) (pa_cons (pe_ix (kIx K) (pv 1) (pe_int) (fun _ _ => rfl)) pa_nil)) (pe_int) (nomark _)) (pc (ok__law_pick E) hr (by decide) pass0 rfl (pa_cons (pv 0) (pa_cons (pe_int) pa_nil))) (pe_int)))
  (pss_cut (ps_set (i := 3) nd rfl (.inl rfl) (pe_ifExp (pt_cmpR op_gt (pe_callB (kLen K) (by rfl) E.f_len (by decide +kernel) (pa_cons (pe_ix (kIx K) (pv 1) (pe_int) (fun _ _ => rfl)) pa_nil)) (pe_int) (nomark _)) (pe_op (kAdd K) (pe_int) (pc (ok__law_pick E) hr (by decide) pass0 rfl (pa_cons (pv 0) (pa_cons (pe_int) pa_nil)))) (pe_int)))
  (pss_cons (ps_set (i := 4) nd rfl (.inl rfl) (pe_op (kAdd K) (pe_callB (kLen K) (by rfl) E.f_len (by decide +kernel) (pa_cons (pe_ix (kIx K) (pv 1) (pe_int) (fun _ _ => rfl)) pa_nil)) (pv 2)))
  (pss_cons (ps_setLc (i := 5) (own := [("n", 6)]) (g := gName 6) (tt := tYes) rfl nd rfl rfl (sw_true rfl rfl rfl (by decide +kernel)) (pi_range1 (by rfl) E.f_range (pa_cons (pe_op (kAdd K) (pv 4) (pe_op (kMul K) (pe_callB (kLen K) (by rfl) E.f_len (by decide +kernel) (pa_cons (pe_ix (kIx K) (pv 1) (pe_int) (fun _ _ => rfl)) pa_nil)) (pv 3))) pa_nil)) (blkOk_by (N := N__law_telling) (sc := defScope s__law_telling) (by decide +kernel)) (fun _ _ _ _ _ => pg_name (i := 6) nd rfl (Or.inl rfl)) (fun _ _ _ _ _ => pts_nil) (fun _ _ _ _ _ => pc (ok__law_at E) hr (by decide) pass0 rfl (pa_cons (pv 1) (pa_cons (pe_op (kAdd K) (pv 6) (pe_int)) pa_nil))))
  (pss_one (ps_ret (pe_tup (pa_cons (pe_callTy (kTup K) (by rfl) E.f_tuple (by decide +kernel) (pa_cons (pe_slice (kSl K) (pv 5) po_none (po_some (pv 4))) pa_nil)) (pa_cons (pe_callTy (kTup K) (by rfl) E.f_tuple (by decide +kernel) (pa_cons (pe_slice (kSl K) (pv 5) (po_some (pv 4)) po_none) pa_nil)) (pa_cons (pe_op (kMul K) (pe_ix (kIx K) (pv 1) (pe_int) (fun _ _ => rfl)) (pv 3)) pa_nil)))))))))), ?_⟩
  change (_ : TS) _ [some v0, some v1, none, none, none, none, none] H
  try dsimp only [cxOf, Cx.nox, Cx.blk]
  obtain ⟨a, h, l, r, rfl, hsrc, hD, R, k⟩ := h
  obtain ⟨ra, th, tl, rfl, s1, s2, s3⟩ := dp_raw hD
  obtain ⟨W, zh, zl, bh, bl, br⟩ := R
  refine w_cut (M := fun σ' H' => ∃ more : Nat, σ' = [some (.ref a), some (.ref ra), some (.int more), none, none, none, none] ∧ Fr a H H' ∧ SrcAt H' a ∧ (l = [] → more = 0) ∧ more ≤ 5) ?_ ?_
  · walk_at "w"
    by_cases c : l = []
    · have h0 : l.length = 0 := by rw [c]; rfl
      walk_at "w"
      exact ⟨0, rfl, Fr.refl _ _, hsrc, fun _ => rfl, by decide⟩
    · have h0 : 0 < l.length := List.length_pos_iff.mpr c
      walk_at "w"
      refine ⟨a, 5, rfl, rfl, by decide, by decide, hsrc, fun r H' r0 r1 q f => ?_⟩
      walk_at "w"
      exact ⟨r.toNat, by rw [Int.toNat_of_nonneg r0], f, q, fun e => absurd e c, by omega⟩
  rintro σ' H2 ⟨more, rfl, f2, q2, hm, hm2⟩
  have u1 := fr_t f2 hsrc s1
  have u2 := fr_t f2 hsrc s2
  have u3 := fr_t f2 hsrc s3
  refine w_cut (M := fun σ' H' => ∃ turns : Nat, σ' = [some (.ref a), some (.ref ra), some (.int more), some (.int turns), none, none, none] ∧ Fr a H2 H' ∧ SrcAt H' a ∧ (l = [] → turns = 1) ∧ 1 ≤ turns ∧ turns ≤ 3) ?_ ?_
  · walk_at "w"
    by_cases c : l = []
    · have h0 : l.length = 0 := by rw [c]; rfl
      walk_at "w"
      exact ⟨1, rfl, Fr.refl _ _, q2, fun _ => rfl, by decide, by decide⟩
    · have h0 : 0 < l.length := List.length_pos_iff.mpr c
      walk_at "w"
      refine ⟨a, 3, rfl, rfl, by decide, by decide, q2, fun r H' r0 r1 q f => ?_⟩
      walk_at "w"
      exact ⟨(1 + r).toNat, by rw [Int.toNat_of_nonneg (by omega)], f, q, fun e => absurd e c, by omega, by omega⟩
  rintro σ' H3 ⟨turns, rfl, f3, q3, ht, ht1, ht2⟩
  have w1 := fr_t f3 q2 u1
  have w2 := fr_t f3 q2 u2
  have w3 := fr_t f3 q2 u3
  have F3 : Fr a H H3 := f2.trans f3
  have hLt : l.length * turns ≤ 12 := Nat.le_trans (Nat.mul_le_mul zl ht2) (by decide)
  have hLt2 : (l.length : Int) * turns = ((l.length * turns : Nat) : Int) := (Int.natCast_mul ..).symm
  have hv : ∀ j : Nat, j < h.length + more + l.length * turns → vat h l r ((j : Int) + 1) = some (if l = [] then gI h j else fV h l r j) := fun j hj => by
    by_cases c : l = []
    · subst c
      rw [hm rfl] at hj
      unfold vat
      rw [if_neg (by omega), if_pos (by simp at hj; omega), if_pos rfl, show (j : Int) + 1 - 1 = j by omega]
    · rw [if_neg c, vat_fV c]
  walk_at "w"
  rw [hLt2, show (h.length : Int) + more + ((l.length * turns : Nat) : Int) = ((h.length + more + l.length * turns : Nat) : Int) by omega]
  refine lcJ_r0 (v := fun i => .int (if l = [] then gI h i else fV h l r i)) (by omega) (fun x => [_, _, _, _, _, _, some x]) (fun x => rfl) (fun x => rfl) (fun j H4 Q' e4 hj hq => ?_) (fun p H4 n4 e4 hp => ?_)
  · walk_at "w"
    refine ⟨h, l, r, some ((j : Int) + 1), dp_of_raw (ex_t e4 w1) (ex_t e4 w2) (ex_t e4 w3), .int _, fun n e => by cases e; omega, W.sm, fun v H5 e5 d5 => ?_⟩
    have d5' : Dp K H5 v (dOpt (vat h l r ((j : Int) + 1))) := d5
    rw [hv j hj] at d5'
    obtain rfl := dp_toInt d5'
    exact hq H5 e5
  · rw [Int.toNat_natCast] at hp
    rw [show (List.range (h.length + more + l.length * turns)).map (fun i : Nat => V.int (if l = [] then gI h i else fV h l r i)) = vI ((List.range (h.length + more + l.length * turns)).map fun i : Nat => if l = [] then gI h i else fV h l r i) from (List.map_map ..).symm] at hp
    have z3 : r * (turns : Int) ≤ 12 * 3 := Int.mul_le_mul br (by omega) (by omega) (by decide)
    have fin : Val (((List.range (h.length + more + l.length * turns)).map fun i : Nat => if l = [] then gI h i else fV h l r i).take (h.length + more)) (((List.range (h.length + more + l.length * turns)).map fun i : Nat => if l = [] then gI h i else fV h l r i).drop (h.length + more)) (r * turns) ∧ plainF (((List.range (h.length + more + l.length * turns)).map fun i : Nat => if l = [] then gI h i else fV h l r i).take (h.length + more)) (((List.range (h.length + more + l.length * turns)).map fun i : Nat => if l = [] then gI h i else fV h l r i).drop (h.length + more)) (r * turns) = plainF h l r := by
      by_cases c : l = []
      · have e1 := hm c
        have e2 := ht c
        subst e1 e2
        simp only [if_pos c]
        have e3 : (List.range (h.length + 0 + l.length * 1)).map (fun i : Nat => gI h i) = h := by
          subst c
          refine ext_gI (by simp) fun k hk => ?_
          rw [gI_map_range (f := fun i : Nat => gI h i) (by simpa using hk)]
        rw [e3, Nat.add_zero, List.take_length, List.drop_length, ← c, show r * ((1 : Nat) : Int) = r by omega]
        exact ⟨W, rfl⟩
      · simp only [if_neg c]
        exact ⟨tell_val W c more turns ht1 (by omega) (by omega) (by omega), tell_plain c more turns ht1⟩
    have hlw : ((List.range (h.length + more + l.length * turns)).map fun i : Nat => if l = [] then gI h i else fV h l r i).length ≤ 1000 := by
      rw [List.length_map, List.length_range]; omega
    generalize ((List.range (h.length + more + l.length * turns)).map fun i : Nat => if l = [] then gI h i else fV h l r i) = ws at *
    walk_at "w"
    intro p5 H5 n5 e5 h5
    walk_at "w"
    intro p6 H6 e6 s6
    walk_at "w"
    intro p7 H7 n7 e7 h7
    walk_at "w"
    intro p8 H8 e8 s8
    walk_at "w"
    intro p9 H9 n9 e9 h9
    rw [show ((h.length : Int) + more).toNat = h.length + more by omega] at *
    have ee : Ex H3 H9 := by walk_at "ex"
    exact k _ _ _ _ _ (F3.trans (Fr.of ee)) (q3.ex ee) (dp_of_raw (st_of h9) (ex_t e9 (ex_t e8 (ex_t e7 s6))) (ex_t e9 s8)) fin.1 fin.2 (by rw [List.length_take]; omega) (by rw [List.length_drop]; omega) (by omega)
theorem never_text : textOf [] [] 0 = "never" := by
  have e : textL [] [] 0 = [("never" : Str)] := by unfold textL; rw [if_pos rfl]; rfl
  unfold textOf
  rw [e]
  decide +kernel
theorem never_twr : Twr [] [] 0 := ⟨fun _ h => absurd h List.not_mem_nil, fun _ h => absurd h List.not_mem_nil, ⟨by decide, by decide⟩, by decide, by decide⟩
theorem never_val : Val [] [] 0 := ⟨fun _ h => absurd h List.not_mem_nil, fun _ h => absurd h List.not_mem_nil, fun i hi => absurd hi (by simp), fun i hi => absurd hi (by simp), Int.le_refl _, fun _ => rfl, fun q => absurd rfl q, fun q => absurd rfl q, ⟨by decide, by decide, by decide, by decide⟩⟩
theorem never_plain : plainF [] [] 0 = ([], [], 0) := plainF_nil

end
section
/-- raw data at u -/
def RwAt (K : PySem.W.Frag) (H : Hp) (u : Addr) (h l : List Int) (r : Int) : Prop := ∃ th tl, SqT K H u [.ref th, .ref tl, .int r] ∧ SqT K H th (vI h) ∧ SqT K H tl (vI l)
section
variable {K : PySem.W.Frag} {H H' : Hp} {u x : Addr} {h l : List Int} {r : Int}
theorem RwAt.of {v : V} (d : Dp K H v (dRaw h l r)) : ∃ u, v = .ref u ∧ RwAt K H u h l r := by
  obtain ⟨a, th, tl, e, s1, s2, s3⟩ := dp_raw d
  exact ⟨a, e, th, tl, s1, s2, s3⟩
theorem RwAt.dp (a : RwAt K H u h l r) : Dp K H (.ref u) (dRaw h l r) := by
  obtain ⟨th, tl, s1, s2, s3⟩ := a
  exact dp_of_raw s1 s2 s3
theorem RwAt.ex (e : Ex H H') (a : RwAt K H u h l r) : RwAt K H' u h l r := by
  obtain ⟨th, tl, s1, s2, s3⟩ := a
  exact ⟨th, tl, ex_t e s1, ex_t e s2, ex_t e s3⟩
theorem RwAt.fr (f : Fr x H H') (s : SrcAt H x) (a : RwAt K H u h l r) : RwAt K H' u h l r := by
  obtain ⟨th, tl, s1, s2, s3⟩ := a
  exact ⟨th, tl, fr_t f s s1, fr_t f s s2, fr_t f s s3⟩
end
local macro_rules | `(tactic| walk_at "hp") => `(tactic| first
  | with_reducible assumption
  | (with_reducible refine' ex_tab ?a ?b; (case a => with_reducible assumption); (case b => walk_at "hp")))
theorem endOf_plain {h l : List Int} {r : Int} (V : Val h l r) : endOf (plainF h l r).2.1 (plainF h l r).2.2 = endOf l r := at_ext (p := none) (plainF_val V).1 V (plainF_val V).2.1 (fun i e => nomatch e)
abbrev N_law : List Str := ["script", "source", "raw", "plain", "table", "text", "other", "told", "n", "second", "near"]
theorem sc_law : FnScope N_law ["script"] (defScope s_law) := ⟨rfl, rfl, rfl, by decide +kernel, rfl, by decide +kernel, by decide +kernel⟩
abbrev lawSp (K : PySem.W.Frag) : Sp := sp1 fun s H Q _ => ∃ (a : Addr) (ns : List Int), s = .ref a ∧ SqL K H a (vI ns) ∧ (∀ z ∈ ns, Builtin.Int.intBits z ≤ 1048576) ∧ ns.length ≤ 63 ∧ ∀ H', Q (.bl true) H'
theorem ok_law {P : Program} {w : World} {K : PySem.W.Frag} {mg : Str → Option Value} {base : Heap} (E : Env P K mg) {fd : FuncData} (F : FunD K "law" "law" (defArgs s_law) (defBody s_law) (defScope s_law) (d_law.dvs K) [] (d_law.adr K) fd) : FnOk P w K mg base CX0 14 (d_law.adr K) fd ["script"] (lawSp K) := by
  refine fnok0 F sc_law sp1_len (fun cdv A outer s H vs Q X hr h => ?_)
  have nd := sc_law.nd
  obtain ⟨v0, rfl, h⟩ := h
  refine ⟨_, (pss_cons (ps_set (i := 1) nd rfl (.inl rfl) (pc (ok__law_source E) hr (by decide) pass0 rfl (pa_cons (pv 0) (pa_cons (pe_int) pa_nil))))
  (pss_cons (ps_set (i := 2) nd rfl (.inl rfl) (pc (ok__law_great E) hr (by decide) pass0 rfl (pa_cons (pv 1) (pa_cons (pc (ok__law_raw E) hr (by decide) pass0 rfl (pa_cons (pv 1) (pa_cons (pe_bl) pa_nil))) pa_nil))))
  (pss_cons (ps_set (i := 3) nd rfl (.inl rfl) (pc (ok__law_plain E) hr (by decide) pass0 rfl (pa_cons (pe_ix (kIx K) (pv 2) (pe_int) (fun _ _ => rfl)) (pa_cons (pe_ix (kIx K) (pv 2) (pe_int) (fun _ _ => rfl)) (pa_cons (pe_ix (kIx K) (pv 2) (pe_int) (fun _ _ => rfl)) pa_nil)))))
  (pss_cons (ps_set (i := 4) nd rfl (.inl rfl) (pc (ok__law_table E) hr (by decide) pass0 rfl (pa_cons (pv 2) pa_nil)))
  (pss_cons (ps_set (i := 5) nd rfl (.inl rfl) (pc (ok_write_table E) hr (by decide) pass0 rfl (pa_cons (pv 4) pa_nil)))
  (pss_cons (ps_if (PW.pt (pw_or (pt_not (kTru K (pe_callB (kIsi K) (by rfl) E.f_isinstance (by decide +kernel) (pa_cons (pv 5) (pa_cons (pe_bltn (v := .ty "str") (by rfl) E.f_str (by decide +kernel) rfl) pa_nil))) (by intro _; rfl))) (pw_or1 (pt_cmpR (kNe K hr) (pv 5) (pc (ok__law_text E) hr (by decide) pass0 rfl (pa_cons (pv 3) pa_nil)) (nomark _)))))
   (pss_one (ps_ret (pe_bl)))
   pss_nil)
  (pss_cons (ps_if (pt_not (kTru K (pc (ok__law_same E) hr (by decide) pass0 rfl (pa_cons (pc (ok_read_table E) hr (by decide) pass0 rfl (pa_cons (pv 5) pa_nil)) (pa_cons (pv 3) pa_nil))) (by intro _; rfl)))
   (pss_one (ps_ret (pe_bl)))
   pss_nil)
  (pss_cons (ps_set (i := 6) nd rfl (.inl rfl) (pc (ok__law_telling E) hr (by decide) pass0 rfl (pa_cons (pc (ok__law_source E) hr (by decide) pass0 rfl (pa_cons (pv 0) (pa_cons (pe_int) pa_nil))) (pa_cons (pv 2) pa_nil))))
  (pss_cons (ps_set (i := 7) nd rfl (.inl rfl) (pc (ok_read_table E) hr (by decide) pass0 rfl (pa_cons (pc (ok__law_text E) hr (by decide) pass0 rfl (pa_cons (pv 6) pa_nil)) pa_nil)))
  (pss_cons (ps_if (PW.pt (pw_or (pt_not (kTru K (pc (ok__law_same E) hr (by decide) pass0 rfl (pa_cons (pv 7) (pa_cons (pv 3) pa_nil))) (by intro _; rfl))) (pw_or (pt_not (pt_cmpR (kEqO K (ok_Table_eq E) hr (by decide)) (pv 7) (pv 4) (nomark _))) (pw_or1 (pt_cmpR (kNe K hr) (pc (ok_write_table E) hr (by decide) pass0 rfl (pa_cons (pv 7) pa_nil)) (pv 5) (nomark _))))))
   (pss_one (ps_ret (pe_bl)))
   pss_nil)
  (pss_cons (ps_for PassesOwn.never rfl (pi_range1 (by rfl) E.f_range (pa_cons (pe_int) pa_nil)) (pg_name (i := 8) nd rfl (.inl rfl))
   (pss_one (ps_if (pt_cmpR (kNe K hr) (pcl (ok_Table_call E) hr (by decide) (pv 7) (pa_cons (pv 8) pa_nil)) (pc (ok__law_at E) hr (by decide) pass0 rfl (pa_cons (pv 2) (pa_cons (pv 8) pa_nil))) (nomark _))
   (pss_one (ps_ret (pe_bl)))
   pss_nil)))
  (pss_cons (ps_set (i := 9) nd rfl (.inl rfl) (pc (ok__law_raw E) hr (by decide) pass0 rfl (pa_cons (pc (ok__law_source E) hr (by decide) pass0 rfl (pa_cons (pv 0) (pa_cons (pe_int) pa_nil))) (pa_cons (pe_bl) pa_nil))))
  (pss_cons (ps_set (i := 10) nd rfl (.inl rfl) (pc (ok_read_table E) hr (by decide) pass0 rfl (pa_cons (pc (ok__law_text E) hr (by decide) pass0 rfl (pa_cons (pv 9) pa_nil)) pa_nil)))
  (pss_cons (ps_if (pt_cmpR (kNe K hr) (pc (ok_write_table E) hr (by decide) pass0 rfl (pa_cons (pe_op (kOwnB K (ok_Table_mul E) hr (by decide)) (pv 10) (pc (ok__law_table E) hr (by decide) pass0 rfl (pa_cons (pv 9) pa_nil))) pa_nil)) (pc (ok__law_text E) hr (by decide) pass0 rfl (pa_cons (pc (ok__law_behind E) hr (by decide) pass0 rfl (pa_cons (pv 9) (pa_cons (pv 9) pa_nil))) pa_nil)) (nomark _))
   (pss_one (ps_ret (pe_bl)))
   pss_nil)
  (pss_one (ps_ret (pe_and (pe_cmpR (kEq K hr) (pc (ok_write_table E) hr (by decide) pass0 rfl (pa_cons (pv 4) pa_nil)) (pv 5) (nomark _)) (pe_and (pe_cmpR (kEq K hr) (pc (ok_write_table E) hr (by decide) pass0 rfl (pa_cons (pmk (ok_Table1 E) hr (by decide) pass0 rfl (pa_cons (pe_tup pa_nil) pa_nil)) pa_nil)) (pe_str) (nomark _)) (pe_one (pe_cmpR xIs (ppr (ok_Table_end E) hr (by decide) (pc (ok_read_table E) hr (by decide) pass0 rfl (pa_cons (pe_str) pa_nil)) rfl) (pe_non) (nomark _))))))))))))))))))))), ?_⟩
  change (_ : TS) _ [some v0, none, none, none, none, none, none, none, none, none, none] H
  try dsimp only [cxOf, Cx.nox, Cx.blk]
  obtain ⟨sa, ns, rfl, s0, hb, hz, k⟩ := h
  walk_at "w"
  refine ⟨sa, ns, 0, rfl, rfl, s0, hb, hz, by decide, by decide, fun x H1 n1 e1 q1 => ?_⟩
  walk_at "w"
  refine ⟨x, false, rfl, rfl, q1, fun v1 H2 h0 l0 r0 f2 q2 d2 R0 _ => ?_⟩
  walk_at "w"
  refine ⟨x, h0, l0, r0, rfl, q2, d2, R0, fun v3 H3 h l r f3 q3 d3 R => ?_⟩
  obtain ⟨ra, rfl, W1⟩ := RwAt.of d3
  have sA := l_fr (f2.trans f3) s0 n1 (ex_l e1 s0)
  clear d2 d3 R0 e1
  obtain ⟨o1, o2, o3, o4, o5, o6⟩ := plainF_ok R.val
  obtain ⟨pv, ptv, ppf, _⟩ := plainF_val R.val
  have zh := R.zh
  have zl := R.zl
  have PT := R.plain
  have W1d := W1.dp
  obtain ⟨th, tl, s1, s2, s3⟩ := id W1
  walk_at "w"
  refine ⟨true, true, h, l, r, dp_of_ints s2, dp_of_ints s3, .int r, R.val.r0, R.val.sm, fun v4 H4 e4 d4 => ?_⟩
  rw [lawF_eq] at d4
  obtain ⟨pa, rfl, W2⟩ := RwAt.of d4
  have W1 := W1.ex e4
  clear s1 s2 s3 d4 W1d
  walk_at "w"
  refine ⟨h, l, r, W1.dp, R.val, fun tb H5 e5 T1 => ?_⟩
  have W1 := W1.ex e5
  have W2 := W2.ex e5
  walk_at "w"
  refine ⟨tb, _, _, _, rfl, T1, PT, fun H6 e6 => ?_⟩
  have W1 := W1.ex e6
  have W2 := W2.ex e6
  have T1 := ex_tab e6 T1
  walk_at "w"
  refine ⟨_, _, _, W2.dp, PT, fun H7 e7 => ?_⟩
  have W1 := W1.ex e7
  have W2 := W2.ex e7
  have T1 := ex_tab e7 T1
  walk_at "w"
  refine r_neSS ?_
  walk_at "w"
  refine ⟨_, _, _, rfl, pv, PT, textOf_len PT, fun u H8 e8 T2 => ?_⟩
  rw [ppf] at T2
  have W1 := W1.ex e8
  have W2 := W2.ex e8
  have T1 := ex_tab e8 T1
  walk_at "w"
  refine ⟨u, _, _, _, rfl, T2, W2.dp, o1, o2, o3, by omega, by omega, fun b H9 e9 d9 => ?_⟩
  obtain rfl := dp_toBl d9
  have W1 := W1.ex e9
  have W2 := W2.ex e9
  have T1 := ex_tab e9 T1
  have e49 := ((((e4.trans e5).trans e6).trans e7).trans e8).trans e9
  have sA := ex_l e49 sA
  clear e4 e5 e6 e7 e8 e9 e49 d9 T2 q1 q2
  walk_at "w"
  refine ⟨sa, ns, 1, rfl, rfl, sA, hb, hz, by decide, by decide, fun y G1 n1' e1 p1 => ?_⟩
  have W1 := W1.ex e1
  have W2 := W2.ex e1
  have T1 := ex_tab e1 T1
  have sB := ex_l e1 sA
  walk_at "w"
  refine ⟨y, h, l, r, rfl, p1, W1.dp, R, fun v G2 h2 l2 r2 f2' p2 d2 V2 P2 z1 z2 z3 => ?_⟩
  obtain ⟨ob, rfl, W3⟩ := RwAt.of d2
  have T2 := R.twr V2 P2 z1 z2 z3
  have W1 := W1.fr f2' p1
  have W2 := W2.fr f2' p1
  have T1 := fr_tab f2' p1 T1
  have sB := l_fr f2' sA n1' sB
  clear d2 e1 f2' p1 sA
  walk_at "w"
  refine ⟨_, _, _, W3.dp, T2, fun G3 e3 => ?_⟩
  have W1 := W1.ex e3
  have W2 := W2.ex e3
  have T1 := ex_tab e3 T1
  have sB := ex_l e3 sB
  walk_at "w"
  refine ⟨_, _, _, rfl, V2, T2, textOf_len T2, fun told G4 e4 T3 => ?_⟩
  rw [P2] at T3
  have W1 := W1.ex e4
  have W2 := W2.ex e4
  have T1 := ex_tab e4 T1
  have sB := ex_l e4 sB
  walk_at "w"
  refine ⟨told, _, _, _, rfl, T3, W2.dp, o1, o2, o3, by omega, by omega, fun b G5 e5 d5 => ?_⟩
  obtain rfl := dp_toBl d5
  have W1 := W1.ex e5
  have T1 := ex_tab e5 T1
  have T3 := ex_tab e5 T3
  have sB := ex_l e5 sB
  walk_at "w"
  obtain ⟨dx3, _, _, hi3, _⟩ := id T3
  obtain ⟨dy3, _, _, hj3, _⟩ := id T1
  refine r_ownEq hi3 (insB_ok E.ins_Table E.c_Table hj3) E.nf_Table_self ?_
  refine ⟨told, _, _, _, rfl, T3, .inl ⟨tb, _, _, _, rfl, T1, fun b G6 e6 d6 => ?_⟩⟩
  rw [decide_eq_true ⟨rfl, rfl, rfl⟩] at d6
  obtain rfl := dp_toBl d6
  refine ⟨⟨_, rfl⟩, ?_⟩
  have W1 := W1.ex e6
  have T1 := ex_tab e6 T1
  have T3 := ex_tab e6 T3
  have sB := ex_l e6 sB
  walk_at "w"
  refine ⟨told, _, _, _, rfl, T3, PT, fun G7 e7 => ?_⟩
  have W1 := W1.ex e7
  have T1 := ex_tab e7 T1
  have T3 := ex_tab e7 T3
  have sB := ex_l e7 sB
  walk_at "w"
  refine r_neSS ?_
  clear hi3 hj3 e3 e4 e5 e6 e7 d5 d6 W2 W3
  walk_at "w"
  refine for_range (lo := 0) (Pv := fun _ σ' H' => ∃ u : Option V, σ' = [some (.ref sa), some (.ref x), some (.ref ra), some (.ref pa), some (.ref tb), some (.str (textOf (plainF h l r).1 (plainF h l r).2.1 (plainF h l r).2.2)), some (.ref ob), some (.ref told), u, none, none] ∧ Ex G7 H') ⟨_, rfl, Ex.refl _⟩ ?_ ?_
  · rintro i σ' H' hi ⟨u, rfl, e⟩
    walk_at "w"
    have tc := ex_tab e T3
    obtain ⟨dxh, _, _, hih, _⟩ := id tc
    refine r_callO1 hih ?_
    refine ⟨told, _, _, _, some (0 + (i : Int)), rfl, tc, rfl, fun m e => by cases e; omega, pv.sm, fun v Hb eb db => ?_⟩
    rw [Int.zero_add, vat_eq ptv] at db
    obtain rfl := dp_toOpt db
    have e' := e.trans eb
    walk_at "w"
    refine ⟨h, l, r, some (0 + (i : Int)), (W1.ex e').dp, dp_of_opt (p := some _), fun m e => by cases e; omega, R.val.sm, fun v Hc ec dc => ?_⟩
    rw [Int.zero_add] at dc
    obtain rfl := dp_toOpt dc
    walk_at "w"
    exact ⟨_, rfl, e'.trans ec⟩
  rintro σ' H' ⟨u, rfl, e⟩
  have T1 := ex_tab e T1
  have sB := ex_l e sB
  clear e T3 W1
  walk_at "w"
  refine ⟨sa, ns, 1, rfl, rfl, sB, hb, hz, by decide, by decide, fun z J1 n5 e5 q5 => ?_⟩
  have T1 := ex_tab e5 T1
  walk_at "w"
  refine ⟨z, false, rfl, rfl, q5, fun v J2 h3 l3 r3 f6 q6 d6 R3 _ => ?_⟩
  obtain ⟨se, rfl, W5⟩ := RwAt.of d6
  have T1 := fr_tab f6 q5 T1
  clear d6 e5 q5 f6
  have R3g := R3.gr
  have TW3 := R3g.twr R3.val rfl (by have := R3.zh; omega) (by have := R3.zl; omega) (by have := R3.br; omega)
  obtain ⟨pv3, ptv3, ppf3, pz3, _⟩ := plainF_val R3.val
  obtain ⟨u1, u2, u3, u4, u5, u6⟩ := plainF_ok R3.val
  have yh := R3.zh
  have yl := R3.zl
  have yr := R3.br
  walk_at "w"
  refine ⟨h3, l3, r3, W5.dp, TW3, fun J3 e3 => ?_⟩
  have T1 := ex_tab e3 T1
  have W5 := W5.ex e3
  walk_at "w"
  refine ⟨h3, l3, r3, rfl, R3.val, TW3, textOf_len TW3, fun near J4 e4 T5 => ?_⟩
  have T1 := ex_tab e4 T1
  have W5 := W5.ex e4
  walk_at "w"
  refine ⟨h3, l3, r3, W5.dp, R3.val, fun sb J5 e5 T6 => ?_⟩
  have T1 := ex_tab e5 T1
  have W5 := W5.ex e5
  have T5 := ex_tab e5 T5
  have zzp : (plainF h3 l3 r3).1.length + (plainF h3 l3 r3).2.1.length * ((plainF h3 l3 r3).1.length + (plainF h3 l3 r3).2.1.length + 1) ≤ 40000 := by
    have m := Nat.mul_le_mul (show (plainF h3 l3 r3).2.1.length ≤ 4 by omega) (show (plainF h3 l3 r3).1.length + (plainF h3 l3 r3).2.1.length + 1 ≤ 9 by omega)
    omega
  walk_at "w"
  refine r_mulT T5 T6 pv3 pv3 zzp (by omega) (by omega) fun zz J6 hc lc rc e6 T7 C => ?_
  have TWC := sq_twr R3 (funext ptv3) (endOf_plain R3.val) (by omega) (by omega) u3 (by omega) C
  have PC := C.pl
  rw [cv_plain R3.val R3.val] at PC
  have T1 := ex_tab e6 T1
  have W5 := W5.ex e6
  walk_at "w"
  refine ⟨zz, hc, lc, rc, rfl, T7, TWC, fun J7 e7 => ?_⟩
  have T1 := ex_tab e7 T1
  have W5 := W5.ex e7
  walk_at "w"
  refine ⟨h3, l3, h3, l3, r3, r3, W5.dp, W5.dp, R3.val, R3.val, raw_zz R3 R3, by omega, by omega, fun v J8 h8 l8 r8 e8 d8 P8 => ?_⟩
  obtain ⟨rfl, rfl, rfl⟩ := PC.uniq P8
  have T1 := ex_tab e8 T1
  walk_at "w"
  refine ⟨_, _, _, d8, TWC, fun J9 e9 => ?_⟩
  have T1 := ex_tab e9 T1
  walk_at "w"
  refine r_neSS ?_
  walk_at "w"
  refine ⟨tb, _, _, _, rfl, T1, PT, fun K1 k1 => ?_⟩
  walk_at "w"
  refine r_eqSS ?_
  rw [decide_eq_true rfl]
  walk_at "w"
  intro p9 K2 n9 k2 g9
  have s9 : SqT K K2 p9 (vI []) := st_of g9
  walk_at "w"
  refine mk_tab (b1 := true) (b2 := true) rfl (dp_of_ints s9) (dp_of_ints (ns := []) (E.t0_Table _)) (.int 0) never_val fun e0 K3 k3 T9 => ?_
  rw [never_plain] at T9
  walk_at "w"
  refine ⟨e0, [], [], 0, rfl, T9, never_twr, fun K4 k4 => ?_⟩
  rw [never_text]
  walk_at "w"
  refine r_eqSS ?_
  rw [decide_eq_true rfl]
  walk_at "w"
  refine ⟨[], [], 0, never_text.symm ▸ rfl, never_val, never_twr, textOf_len never_twr, fun e2 K5 k5 TA => ?_⟩
  rw [never_plain] at TA
  obtain ⟨dx9, _, _, hi9, _⟩ := id TA
  walk_at "w"
  refine r_prop hi9 ?_
  refine ⟨e2, [], [], 0, rfl, TA, fun v K6 k6 d6 => ?_⟩
  rw [show endOf [] 0 = none from if_pos (.inl rfl)] at d6
  obtain rfl := dp_toOpt d6
  simp only [optV]
  walk_at "w"
  exact k _

end
end M
namespace M
open PySem PySem.Spec PyProof.Rows L2 Evl MS
theorem facts {P : Program} {w : World} {K : PySem.W.Frag} {h : Heap} {mg : Str → Option Value} {f : Addr} (X : K.In h) (G : h.Ns mainGlobals mg) (hfa : mg ("law" : Str) = some (.ref f)) (c : SaysM fa fn exB K) (pf : ((P.main.file : Str) == mainFile) = true ∧ (P.main.scope.names.lookup ("super" : Str)).isSome = false) :
    ∃ fd : FuncData, (∀ (s : Shared) (v : Value), BindsTo s fd ⟨[v], []⟩ [("script", v)]) ∧ ∀ base : Heap, K.In base → base.Ns mainGlobals mg → FnOk P w K mg base CX0 14 f fd ["script"] (lawSp K) := by
  have E : Env P K mg := ⟨⟨h, X, G⟩, c, pf⟩
  obtain ⟨fd, F⟩ := E.dd_law
  have e := hfa.symm.trans E.g_law
  cases e
  have b := FunD.bindsA (ps := ["script"]) F fun _ _ _ _ _ _ us hl => match us, hl with | [_], _ => rfl
  exact ⟨fd, fun s v => b s [v] rfl, fun base _ _ => ok_law E F⟩
end M
open PySem PySem.W PySem.Calls PyProof.Rows
theorem PySem.Challenge.cw_rosterneed_k10_whole_tables_read_holds : PySem.Challenge.rw_rosterneed_k10_whole_tables_read.Holds := by
  w_on; o_law
  refine HandSHeadRun.head_any (r := OpenLaw.row PySem.Challenge.rw_rosterneed_k10_whole_tables_read) (q := view (OpenLaw.row PySem.Challenge.rw_rosterneed_k10_whole_tables_read).prog [64]) (H := M.hk) (ob := M.ob) (M := 6000) (loose := M.nmL) (d := HandSHeadRun.topDef (OpenLaw.row PySem.Challenge.rw_rosterneed_k10_whole_tables_read).prog 64) (kwd := []) M.ob_eq
    (by kernel_rfl) (fun s => by kernel_rfl) M.run (by kernel_rfl) (by kernel_rfl) (by kernel_rfl) (by rfl) (by first | assumption | decide +kernel) (by decide +kernel) ⟨rfl, rfl, rfl, rfl, rfl, by decide +kernel⟩ ?hw ?hc
  case hw => w_witness2
  case hc =>
    refine Att.attach_callB (l := PySem.Challenge.rw_rosterneed_k10_whole_tables_read) (n := 63) rfl (by kernel_rfl) fun w s₀ s₁ mg mb fa o pm cd doc a vs ns G Y ho hd hcd hmg0 hobj hints hlen hbits hg => ?_
    obtain ⟨K, KX, c⟩ := Y
    have hmg : mg ("law" : PySem.Str) = some (.ref fa) := by
      have e : (HandSHeadRun.topDef (OpenLaw.row PySem.Challenge.rw_rosterneed_k10_whole_tables_read).prog 64).name = ("law" : PySem.Str) := by kernel_rfl
      rw [← e]
      exact hmg0
    obtain ⟨fd, hb, hF⟩ := M.facts (P := (PySem.Challenge.rw_rosterneed_k10_whole_tables_read).prog) (w := w) KX G.T.g hmg c ⟨by kernel_rfl, by kernel_rfl⟩
    exact L2.law_call (CX := L2.CX0) KX G.T.g G.T.b G.T.builtins G.T.nolimit hg hobj hints (Nat.le_trans hlen (by decide)) ⟨rfl, by decide, by decide⟩ hF hb (fun H _ hS => ⟨_, rfl, a, ns, rfl, hS, hbits, hlen, fun _ => rfl⟩) fun _ _ _ z => z

