import PyProof.Rows.All
import Wide.All
import OpenK.AllK
import Wide.FinOn
import KE.KStateDown
import HandS.ForMost
import HandS.Exc
import HandS.WordsExc
import HandS.Defaults
import HandS.Evl
import HandS.Flow
import HandS.Conv
import HandS.IsInst
import HandS.TupMul
import HandS.TupAny
import HandS.Wide
import HandS.WideBits
import HandS.Property
import HandS.Star
import HandS.OwnEq
import HandS.Flt
import KE.KSuper
import HandS.ClsMeth
import HandS.Nested
import HandS.Style
import HandS.Head0
import HandS.Head1
import HandS.Head2
import HandS.HeadEnd
import HandS.EndBits
import HandS.HeadHook1
import HandS.HeadHook2
import PySem.Challenge.RW_rosterneed_k08_whole_over
set_option Elab.async false
set_option linter.all false
set_option maxRecDepth 100000
set_option maxHeartbeats 4000000
/-! ### part A: defs by name, calls, unions of rules (own layer over HandS) -/
namespace M
open PySem PySem.Spec PyProof.Rows L2 Evl

section
variable {P : Program} {w : World} {K : PySem.W.Frag} {mg : Str → Option Value} {base : Heap}
/-- a def of the module under its name, with its promise -/
structure Fn (P : Program) (w : World) (K : PySem.W.Frag) (mg : Str → Option Value) (base : Heap) (CX : CXT) (k : Nat) (x : Str) (sp : Sp) : Prop where
  ex : ∃ (f : Addr) (fd : FuncData) (ps : List Str), FnOk P w K mg base CX k f fd ps sp ∧ mg x = some (.ref f) ∧ PySem.W.keepIn K (.ref f) = true ∧ Binds K fd ps []
/-- a method of the class at C -/
structure Mt (P : Program) (w : World) (K : PySem.W.Frag) (mg : Str → Option Value) (base : Heap) (CX : CXT) (k : Nat) (C : Addr) (m : Str) (sp : Sp) : Prop where
  ex : ∃ (f : Addr) (fd : FuncData) (ps : List Str), Cls K C ∧ Meth K C m f ∧ FnOk P w K mg base CX k f fd ps sp ∧ Binds K fd ps []

def sp1 (F : V → Hp → VK → XK → Prop) : Sp := fun vs H Q E => ∃ a, vs = [a] ∧ F a H Q E
def sp2 (F : V → V → Hp → VK → XK → Prop) : Sp := fun vs H Q E => ∃ a b, vs = [a, b] ∧ F a b H Q E
def sp3 (F : V → V → V → Hp → VK → XK → Prop) : Sp := fun vs H Q E => ∃ a b c, vs = [a, b, c] ∧ F a b c H Q E
def sp4 (F : V → V → V → V → Hp → VK → XK → Prop) : Sp := fun vs H Q E => ∃ a b c d, vs = [a, b, c, d] ∧ F a b c d H Q E
def sp5 (F : V → V → V → V → V → Hp → VK → XK → Prop) : Sp := fun vs H Q E => ∃ a b c d e, vs = [a, b, c, d, e] ∧ F a b c d e H Q E

theorem sp1_len {F} {p : Str} : ∀ vs H Q E, sp1 F vs H Q E → vs.length = [p].length := fun vs H Q E ⟨a, e, _⟩ => by rw [e]; rfl
theorem sp2_len {F} {p q : Str} : ∀ vs H Q E, sp2 F vs H Q E → vs.length = [p, q].length := fun vs H Q E ⟨a, b, e, _⟩ => by rw [e]; rfl
theorem sp3_len {F} {p q r : Str} : ∀ vs H Q E, sp3 F vs H Q E → vs.length = [p, q, r].length := fun vs H Q E ⟨a, b, c, e, _⟩ => by rw [e]; rfl
theorem sp4_len {F} {p q r u : Str} : ∀ vs H Q E, sp4 F vs H Q E → vs.length = [p, q, r, u].length := fun vs H Q E ⟨a, b, c, d, e, _⟩ => by rw [e]; rfl
theorem sp5_len {F} {p q r u v : Str} : ∀ vs H Q E, sp5 F vs H Q E → vs.length = [p, q, r, u, v].length := fun vs H Q E ⟨a, b, c, d, _, e, _⟩ => by rw [e]; rfl

/-- a def of which nothing is promised (the floor of a recursion) -/
theorem Fn.never {x qual : Str} {params : Arguments} {body : List Stmt} {scope : Scope} {f : Addr} {fd : FuncData} {ps : List Str} {k : Nat}
    (F : FunD K x qual params body scope [] [] f fd) (hm : mg x = some (.ref f))
    (hb : ∀ (kV doc pm : Value) (an : Option Addr) (cdv ct : Value) (us : List Value), us.length = ps.length → bindArgs (PySem.W.fnOf x qual params body scope .none kV doc pm an cdv ct) ⟨us, []⟩ = pure (ps.zip us)) :
    Fn P w K mg base CX0 k x (fun _ _ _ _ => False) :=
  ⟨f, fd, ps, ⟨fun _ _ _ _ h => h.elim, fun _ _ _ _ _ _ _ _ _ _ _ _ _ h => h.elim⟩, hm, F.kp, F.bindsN hb⟩
theorem fnok0 {x qual : Str} {params : Arguments} {body : List Stmt} {scope : Scope} {dvs : List V} {f : Addr} {fd : FuncData} {N ps : List Str} {k : Nat} {sp : Sp}
    (F : FunD K x qual params body scope dvs [] f fd) (S : FnScope N ps scope) (len : ∀ vs H Q E, sp vs H Q E → vs.length = ps.length)
    (hbody : ∀ (cdv : Value) (A : Around) (outer : List Env) (s : Shared) (H : Hp) (vs : List V) (Q : VK) (E : XK), Room k (A.deeper (envOfC qual scope s.heap.objs.size f cdv)) → sp vs H Q E →
      ∃ t, PSs (cxOf CX0 P w K mg base N qual scope f cdv A outer s H E).nox body t ∧ t { nx := fun _ H' => Q .non H', rt := Q } (start N vs) H) :
    FnOk P w K mg base CX0 (k + 1) f fd ps sp := F.ok S len fun cdv A outer s H vs Q E hr h => by
  obtain ⟨t, h1, h2⟩ := hbody cdv A outer s H vs Q E hr h
  exact ⟨t, h1.nox, h2⟩
/-- a def that lets nothing out, by its body -/
theorem Fn.mk0 {x qual : Str} {params : Arguments} {body : List Stmt} {scope : Scope} {f : Addr} {fd : FuncData} {N ps : List Str} {k : Nat} {sp : Sp}
    (F : FunD K x qual params body scope [] [] f fd) (hm : mg x = some (.ref f)) (S : FnScope N ps scope) (len : ∀ vs H Q E, sp vs H Q E → vs.length = ps.length)
    (hb : ∀ (kV doc pm : Value) (an : Option Addr) (cdv ct : Value) (us : List Value), us.length = ps.length → bindArgs (PySem.W.fnOf x qual params body scope .none kV doc pm an cdv ct) ⟨us, []⟩ = pure (ps.zip us))
    (hbody : ∀ (cdv : Value) (A : Around) (outer : List Env) (s : Shared) (H : Hp) (vs : List V) (Q : VK) (E : XK), Room k (A.deeper (envOfC qual scope s.heap.objs.size f cdv)) → sp vs H Q E →
      ∃ t, PSs (cxOf CX0 P w K mg base N qual scope f cdv A outer s H E).nox body t ∧ t { nx := fun _ H' => Q .non H', rt := Q } (start N vs) H) :
    Fn P w K mg base CX0 (k + 1) x sp :=
  ⟨f, fd, ps, F.ok S len fun cdv A outer s H vs Q E hr h => by
    obtain ⟨t, h1, h2⟩ := hbody cdv A outer s H vs Q E hr h
    exact ⟨t, h1.nox, h2⟩, hm, F.kp, F.bindsN hb⟩
theorem Mt.mk0 {x qual : Str} {params : Arguments} {body : List Stmt} {scope : Scope} {f C : Addr} {fd : FuncData} {N ps : List Str} {k : Nat} {sp : Sp} {m : Str}
    (F : FunD K x qual params body scope [] [] f fd) (c : Cls K C) (hm : Meth K C m f) (S : FnScope N ps scope) (len : ∀ vs H Q E, sp vs H Q E → vs.length = ps.length)
    (hb : ∀ (kV doc pm : Value) (an : Option Addr) (cdv ct : Value) (us : List Value), us.length = ps.length → bindArgs (PySem.W.fnOf x qual params body scope .none kV doc pm an cdv ct) ⟨us, []⟩ = pure (ps.zip us))
    (hbody : ∀ (cdv : Value) (A : Around) (outer : List Env) (s : Shared) (H : Hp) (vs : List V) (Q : VK) (E : XK), Room k (A.deeper (envOfC qual scope s.heap.objs.size f cdv)) → sp vs H Q E →
      ∃ t, PSs (cxOf CX0 P w K mg base N qual scope f cdv A outer s H E).nox body t ∧ t { nx := fun _ H' => Q .non H', rt := Q } (start N vs) H) :
    Mt P w K mg base CX0 (k + 1) C m sp :=
  ⟨f, fd, ps, c, hm, F.ok S len fun cdv A outer s H vs Q E hr h => by
    obtain ⟨t, h1, h2⟩ := hbody cdv A outer s H vs Q E hr h
    exact ⟨t, h1.nox, h2⟩, F.bindsN hb⟩
end

section
variable {X : Cx} {CX : CXT} {k j : Nat} {C : Addr} {x m : Str} {sp : Sp} {E : XK} {p pos apos : Pos} {e o : Expr} {es : List Expr} {ta : TE} {t : TA}
theorem pc (c : Fn X.prog X.w X.K X.mg X.base CX k x sp) (hr : Room j X.A) (hk : k ≤ j) (hx : Passes CX X E) (hg : Gl X x) (ha : PA X (e :: es) t)
    (hdb : (x == ("__debug__" : Str)) = false := by decide) (he : starEach (e :: es) X.env = (false, eval e X.env) :: starEach es X.env := by rfl) (hpl : (backTo pos (starEach es X.env)).any (·.1) = false := by rfl) :
    PE X (.Call (.Name x p) (e :: es) [] pos) (tCall sp [] E t) := by
  obtain ⟨f, fd, ps, F, hm, hkp, hb⟩ := c.ex
  exact pe_call F (hr.mono hk) hg hm hkp hb .nil hx ha hdb he hpl
theorem pc0 (c : Fn X.prog X.w X.K X.mg X.base CX k x sp) (hr : Room j X.A) (hk : k ≤ j) (hx : Passes CX X E) (hg : Gl X x)
    (hdb : (x == ("__debug__" : Str)) = false := by decide) :
    PE X (.Call (.Name x p) [] [] pos) (tCall sp [] E tNil) := by
  obtain ⟨f, fd, ps, F, hm, hkp, hb⟩ := c.ex
  exact pe_call0 F (hr.mono hk) hg hm hkp hb .nil hx hdb
end

/-! unions -/
section
variable {X : Cx}
def rAdd (K : PySem.W.Frag) : R2 := fun x y H Q => (rI0 fun i j => .int (i + j)) x y H Q ∨ rCat x y H Q ∨ rCatA K x y H Q ∨ ∃ i j, x = .str i ∧ y = .str j ∧ i.length + j.length ≤ sizeLine ∧ Q (.str (i ++ j)) H
theorem xAdd : OpR X (binaryOp .Add) (rAdd X.K) := op_add.or (op_cat.or (op_catA.or op_add_str))
def rMul (K : PySem.W.Frag) : R2 := fun x y H Q => (rI CMul fun i j => .int (i * j)) x y H Q ∨ rRep x y H Q ∨ rRepT K x y H Q
theorem xMul : OpR X (binaryOp .Mult) (rMul X.K) := op_mul.or (op_rep.or op_repT)
abbrev rDiv : R2 := rI CDivW fun i j => .int (i / j)
theorem xDiv : OpR X (binaryOp .FloorDiv) rDiv := op_fdivW
abbrev rMod : R2 := rI (fun _ j => 0 < j) fun i j => .int (i % j)
theorem xMod : OpR X (binaryOp .Mod) rMod := op_mod
abbrev rSubI : R2 := rI0 fun i j => .int (i - j)
theorem xSub : OpR X (binaryOp .Sub) rSubI := op_sub
abbrev rShl : R2 := rI CShl fun i j => .int (i * 2 ^ j.toNat)
theorem xShl : OpR X (binaryOp .LShift) rShl := op_shlW
abbrev rShr : R2 := rI (fun _ j => 0 ≤ j) fun i j => .int (i / 2 ^ j.toNat)
theorem xShr : OpR X (binaryOp .RShift) rShr := op_shr
abbrev rPow : R2 := rI CPow fun i j => .int (i ^ j.toNat)
theorem xPow : OpR X (binaryOp .Pow) rPow := op_pow
def rEqU (K : PySem.W.Frag) : R2 := fun x y H Q => rEq x y H Q ∨ rEqD K x y H Q
theorem xEq {j : Nat} (hr : Room j X.A) : OpR X (compareOp .Eq) (rEqU X.K) := op_eq.or (op_eqD (by have := hr.un; omega))
def rNeU (K : PySem.W.Frag) : R2 := fun x y H Q => rNe x y H Q ∨ rNeD K x y H Q
theorem xNe {j : Nat} (hr : Room j X.A) : OpR X (compareOp .NotEq) (rNeU X.K) := op_ne.or (op_neD (by have := hr.un; omega))
def rSl (K : PySem.W.Frag) : V → Option Int → Option Int → Hp → VK → Prop := fun x lo hi H Q => rSlL K x lo hi H Q ∨ rSlA K x lo hi H Q ∨ rSlS x lo hi H Q
theorem xSl : SlR X (rSl X.K) := sl_list.or (sl_tupA.or sl_str)
theorem PI.or {tg iter : Expr} {w1 w2 : TI} (h1 : PI X tg iter w1) (h2 : PI X tg iter w2) : PI X tg iter (fun σ H R => w1 σ H R ∨ w2 σ H R) :=
  ⟨fun pins s σ H R I h => h.elim (h1.run pins s σ H R I) (h2.run pins s σ H R I)⟩
def iSeq (K : PySem.W.Frag) (tl : TE) : TI := fun σ H R => iList K tl σ H R ∨ iTup K tl σ H R
theorem pi_seq {tg l : Expr} {tl : TE} (hl : PE X l tl) : PI X tg l (iSeq X.K tl) := PI.or (pi_list hl) (pi_tup hl)
end
end M

/-! ### part B: readings step by step -/
namespace M
open PySem PySem.Spec PyProof.Rows L2 Evl
section
variable {K : PySem.W.Frag} {σ : L2.St} {H : Hp} {Q : VK} {D : Ends} {t u : TS} {te ta tb : TE} {tt tu : TT} {g : TG} {v : V} {r : R2}
theorem w_cut {M : L2.St → Hp → Prop} (h : t { nx := M, rt := D.rt, bk := D.bk, ct := D.ct } σ H) (h2 : ∀ σ' H', M σ' H' → u D σ' H') : tCut t u D σ H := ⟨M, h, h2⟩
theorem w_seq (h : t { nx := u D, rt := D.rt, bk := D.bk, ct := D.ct } σ H) : tSeq t u D σ H := h
theorem w_drop (h : te σ H fun _ H1 => D.nx σ H1) : tDrop te D σ H := h
theorem w_asg (h : te σ H fun x H1 => g x σ H1 D.nx) : tAsg te g D σ H := h
theorem w_ret (h : te σ H D.rt) : tRet te D σ H := h
theorem w_retN (h : D.rt .non H) : tRetN D σ H := h
theorem w_next (h : D.nx σ H) : tNext D σ H := h
theorem w_break (h : D.bk σ H) : tBreak D σ H := h
theorem w_ifS (h : tt σ H fun b H1 => if b = true then t D σ H1 else u D σ H1) : tIfS tt t u D σ H := h
theorem w_op (h : ta σ H fun x H1 => tb σ H1 fun y H2 => r x y H2 Q) : tOp r ta tb σ H Q := h
theorem w_un {r : V → Hp → VK → Prop} (h : ta σ H fun x H1 => r x H1 Q) : tUn r ta σ H Q := h
theorem w_c (h : Q v H) : tC v σ H Q := h
theorem w_test {Q : Bool → Hp → Prop} (h : te σ H fun x H' => ∃ k, x = .bl k ∧ Q k H') : tTest te σ H Q := h
theorem w_tB {Q : Bool → Hp → Prop} (h : te σ H fun x H' => ∃ k, x = .bl k ∧ Q k H') : tB te σ H Q := h
theorem w_exbl {Q : Bool → Hp → Prop} {b : Bool} (h : Q b H) : ∃ k, V.bl b = .bl k ∧ Q k H := ⟨b, rfl, h⟩
theorem w_exbl2 {Q : Bool → Prop} {b : Bool} (h : Q b) : ∃ k, V.bl b = .bl k ∧ Q k := ⟨b, rfl, h⟩
theorem w_and {Q : Bool → Hp → Prop} (h : tt σ H fun c H1 => if c = true then tu σ H1 Q else Q false H1) : tAnd tt tu σ H Q := h
theorem w_or {Q : Bool → Hp → Prop} (h : tt σ H fun c H1 => if c = true then Q true H1 else tu σ H1 Q) : tOr tt tu σ H Q := h
theorem w_not {Q : Bool → Hp → Prop} (h : tt σ H fun c H1 => Q (!c) H1) : tNot tt σ H Q := h
theorem w_andV (h : ta σ H fun x H1 => ∃ c, x = .bl c ∧ if c = true then tb σ H1 Q else Q (.bl false) H1) : tAndV ta tb σ H Q := h
theorem w_orV (h : ta σ H fun x H1 => ∃ c, x = .bl c ∧ if c = true then Q (.bl true) H1 else tb σ H1 Q) : tOrV ta tb σ H Q := h
theorem w_notV (h : ta σ H fun x H1 => ∃ c, x = .bl c ∧ Q (.bl (!c)) H1) : tNotV ta σ H Q := h
theorem w_ifE (h : tt σ H fun c H1 => if c = true then ta σ H1 Q else tb σ H1 Q) : tIf tt ta tb σ H Q := h
theorem w_chain {r' : R2} {tc : TE} (h : ta σ H fun x H1 => tb σ H1 fun y H2 => r x y H2 fun z H3 => ∃ k, z = .bl k ∧ (if k = true then tc σ H3 fun w' H4 => r' y w' H4 Q else Q (.bl false) H3)) : tChain r r' ta tb tc σ H Q := h
theorem w_nil {Q : List V → Hp → Prop} (h : Q [] H) : tNil σ H Q := h
theorem w_cons {tr : TA} {Q : List V → Hp → Prop} (h : ta σ H fun x H1 => tr σ H1 fun xs H2 => Q (x :: xs) H2) : tCons ta tr σ H Q := h
theorem w_cb {r : List V → Hp → VK → Prop} {t : TA} (h : t σ H fun vs H1 => r vs H1 Q) : tCB r t σ H Q := h
theorem w_call {sp : Sp} {E : XK} {t : TA} (h : t σ H fun vs H1 => sp (vs ++ []) H1 Q E) : tCall sp [] E t σ H Q := h
theorem w_call1 {F} {E : XK} {a : V} (h : F a H Q E) : sp1 F ([a] ++ []) H Q E := ⟨a, rfl, h⟩
theorem w_call2 {F} {E : XK} {a b : V} (h : F a b H Q E) : sp2 F ([a, b] ++ []) H Q E := ⟨a, b, rfl, h⟩
theorem w_call3 {F} {E : XK} {a b c : V} (h : F a b c H Q E) : sp3 F ([a, b, c] ++ []) H Q E := ⟨a, b, c, rfl, h⟩
theorem w_call4 {F} {E : XK} {a b c d : V} (h : F a b c d H Q E) : sp4 F ([a, b, c, d] ++ []) H Q E := ⟨a, b, c, d, rfl, h⟩
theorem w_call5 {F} {E : XK} {a b c d e : V} (h : F a b c d e H Q E) : sp5 F ([a, b, c, d, e] ++ []) H Q E := ⟨a, b, c, d, e, rfl, h⟩
theorem w_callM1 {F} {E : XK} {x : V} (h : F x H Q E) : sp1 F (x :: ([] ++ [])) H Q E := ⟨x, rfl, h⟩
theorem w_callM2 {F} {E : XK} {x a : V} (h : F x a H Q E) : sp2 F (x :: ([a] ++ [])) H Q E := ⟨x, a, rfl, h⟩
theorem w_callM3 {F} {E : XK} {x a b : V} (h : F x a b H Q E) : sp3 F (x :: ([a, b] ++ [])) H Q E := ⟨x, a, b, rfl, h⟩
theorem w_callM4 {F} {E : XK} {x a b c : V} (h : F x a b c H Q E) : sp4 F (x :: ([a, b, c] ++ [])) H Q E := ⟨x, a, b, c, rfl, h⟩
/-- a new tuple, a new list: what is asked, named -/
def NewT (xs : List V) (H : Hp) (Q : VK) : Prop := xs.length ≤ sizeLine ∧ ∀ p, H p = none → Q (.ref p) (upd H p (.tup xs))
def NewL (xs : List V) (H : Hp) (Q : VK) : Prop := xs.length ≤ sizeLine ∧ ∀ p, H p = none → Q (.ref p) (upd H p (.lst xs))
theorem w_tup {t : TA} (h : t σ H fun xs H1 => NewT xs H1 Q) : tTup t σ H Q := h
theorem w_lst {t : TA} (h : t σ H fun xs H1 => NewL xs H1 Q) : tLst t σ H Q := h
theorem w_newT {xs : List V} (hz : xs.length ≤ sizeLine) (h : ∀ p H1, H p = none → Ex H H1 → H1 p = some (.tup xs) → Q (.ref p) H1) : NewT xs H Q :=
  ⟨hz, fun p hp => h p _ hp (Ex.new hp) upd_same⟩
theorem w_newL {xs : List V} (hz : xs.length ≤ sizeLine) (h : ∀ p H1, H p = none → Ex H H1 → H1 p = some (.lst xs) → Q (.ref p) H1) : NewL xs H Q :=
  ⟨hz, fun p hp => h p _ hp (Ex.new hp) upd_same⟩
theorem w_sl {r : V → Option Int → Option Int → Hp → VK → Prop} {tl th : TO} (h : te σ H fun x H1 => tl σ H1 fun l H2 => th σ H2 fun u H3 => r x l u H3 Q) : tSl r te tl th σ H Q := h
theorem w_part {Q : Option Int → Hp → Prop} (h : te σ H fun x H1 => ∃ i, x = .int i ∧ Q (some i) H1) : tPart te σ H Q := h
theorem w_noPart {Q : Option Int → Hp → Prop} (h : Q none H) : tNoPart σ H Q := h
theorem w_exint {Q : Int → Prop} {i : Int} (h : Q i) : ∃ k, V.int i = .int k ∧ Q k := ⟨i, rfl, h⟩
theorem w_gsub {to ti : TE} {s : TSet} {Q : L2.St → Hp → Prop} (h : to σ H fun o H1 => ti σ H1 fun i H2 => s o i v H2 fun H3 => Q σ H3) : gSub to ti s v σ H Q := h
theorem w_par {i j : Nat} {ta : TA} (h : ta σ H fun vs H1 => ∃ v w, vs = [v, w] ∧ D.nx ((List.set σ i (some v)).set j (some w)) H1) : tPar i j ta D σ H := h
theorem w_yes {Q : Bool → Hp → Prop} (h : Q true H) : tYes σ H Q := h
/-! tuples unpacked -/
theorem w_gtup {n : Nat} {t : TGs} {a : Addr} {xs : List V} {Q : L2.St → Hp → Prop} (hs : SqT K H a xs) (hl : xs.length = n) (h : t xs σ H Q) : gTup K n t (.ref a) σ H Q := ⟨a, xs, rfl, hs, hl, h⟩
theorem w_gcons {g : TG} {us : TGs} {x : V} {xs : List V} {Q : L2.St → Hp → Prop} (h : g x σ H fun σ' H' => us xs σ' H' Q) : gCons g us (x :: xs) σ H Q := ⟨x, xs, rfl, h⟩
theorem w_gnil {Q : L2.St → Hp → Prop} (h : Q σ H) : gNil [] σ H Q := ⟨rfl, h⟩
/-! ifs -/
theorem w_ite {c A B : Prop} [Decidable c] (h1 : c → A) (h2 : ¬ c → B) : if decide c = true then A else B := by
  by_cases h : c
  · rw [if_pos (decide_eq_true h)]; exact h1 h
  · rw [if_neg (by rw [decide_eq_false h]; exact Bool.false_ne_true)]; exact h2 h
theorem w_iteN {c A B : Prop} [Decidable c] (h1 : ¬ c → A) (h2 : c → B) : if (!decide c) = true then A else B := by
  by_cases h : c
  · rw [decide_eq_true h, if_neg (by decide)]; exact h2 h
  · rw [decide_eq_false h, if_pos (by decide)]; exact h1 h
theorem w_dT {c A B : Prop} [Decidable c] (h : c) (h1 : A) : if decide c = true then A else B := w_ite (fun _ => h1) fun n => absurd h n
theorem w_dF {c A B : Prop} [Decidable c] (h : ¬ c) (h1 : B) : if decide c = true then A else B := w_ite (fun n => absurd n h) fun _ => h1
theorem w_nT {c A B : Prop} [Decidable c] (h : ¬ c) (h1 : A) : if (!decide c) = true then A else B := w_iteN (fun _ => h1) fun n => absurd n h
theorem w_nF {c A B : Prop} [Decidable c] (h : c) (h1 : B) : if (!decide c) = true then A else B := w_iteN (fun n => absurd h n) fun _ => h1
theorem w_bT {b : Bool} {A B : Prop} (h : b = true) (h1 : A) : if b = true then A else B := by rw [if_pos h]; exact h1
theorem w_bF {b : Bool} {A B : Prop} (h : b = false) (h1 : B) : if b = true then A else B := by rw [if_neg (by rw [h]; decide)]; exact h1
theorem w_b2 {b : Bool} {A B : Prop} (h1 : b = true → A) (h2 : b = false → B) : if b = true then A else B := by
  cases b
  · exact iteF (h2 rfl)
  · exact iteT (h1 rfl)

/-- a store, named -/
def SetN (i : Nat) (v : V) (l : L2.St) (H : Hp) (Q : L2.St → Hp → Prop) : Prop := Q (l.set i (some v)) H
theorem w_nn {i : Nat} {Q : L2.St → Hp → Prop} (h : SetN i v σ H Q) : gName i v σ H Q := h
def GetN (i : Nat) (l : L2.St) (H : Hp) (Q : VK) : Prop := ∃ v, l[i]? = some (some v) ∧ Q v H
theorem w_vv {i : Nat} (h : GetN i σ H Q) : tVar i σ H Q := h
theorem w_v0 {l : L2.St} (h : Q v H) : GetN 0 (some v :: l) H Q := ⟨v, rfl, h⟩
theorem w_n0 {y : Option V} {l : L2.St} {Q : L2.St → Hp → Prop} (h : Q (some v :: l) H) : SetN 0 v (y :: l) H Q := h
theorem w_v1 {x0 : Option V} {l : L2.St} (h : Q v H) : GetN 1 (x0 :: some v :: l) H Q := ⟨v, rfl, h⟩
theorem w_n1 {x0 : Option V} {y : Option V} {l : L2.St} {Q : L2.St → Hp → Prop} (h : Q (x0 :: some v :: l) H) : SetN 1 v (x0 :: y :: l) H Q := h
theorem w_v2 {x0 x1 : Option V} {l : L2.St} (h : Q v H) : GetN 2 (x0 :: x1 :: some v :: l) H Q := ⟨v, rfl, h⟩
theorem w_n2 {x0 x1 : Option V} {y : Option V} {l : L2.St} {Q : L2.St → Hp → Prop} (h : Q (x0 :: x1 :: some v :: l) H) : SetN 2 v (x0 :: x1 :: y :: l) H Q := h
theorem w_v3 {x0 x1 x2 : Option V} {l : L2.St} (h : Q v H) : GetN 3 (x0 :: x1 :: x2 :: some v :: l) H Q := ⟨v, rfl, h⟩
theorem w_n3 {x0 x1 x2 : Option V} {y : Option V} {l : L2.St} {Q : L2.St → Hp → Prop} (h : Q (x0 :: x1 :: x2 :: some v :: l) H) : SetN 3 v (x0 :: x1 :: x2 :: y :: l) H Q := h
theorem w_v4 {x0 x1 x2 x3 : Option V} {l : L2.St} (h : Q v H) : GetN 4 (x0 :: x1 :: x2 :: x3 :: some v :: l) H Q := ⟨v, rfl, h⟩
theorem w_n4 {x0 x1 x2 x3 : Option V} {y : Option V} {l : L2.St} {Q : L2.St → Hp → Prop} (h : Q (x0 :: x1 :: x2 :: x3 :: some v :: l) H) : SetN 4 v (x0 :: x1 :: x2 :: x3 :: y :: l) H Q := h
theorem w_v5 {x0 x1 x2 x3 x4 : Option V} {l : L2.St} (h : Q v H) : GetN 5 (x0 :: x1 :: x2 :: x3 :: x4 :: some v :: l) H Q := ⟨v, rfl, h⟩
theorem w_n5 {x0 x1 x2 x3 x4 : Option V} {y : Option V} {l : L2.St} {Q : L2.St → Hp → Prop} (h : Q (x0 :: x1 :: x2 :: x3 :: x4 :: some v :: l) H) : SetN 5 v (x0 :: x1 :: x2 :: x3 :: x4 :: y :: l) H Q := h
theorem w_v6 {x0 x1 x2 x3 x4 x5 : Option V} {l : L2.St} (h : Q v H) : GetN 6 (x0 :: x1 :: x2 :: x3 :: x4 :: x5 :: some v :: l) H Q := ⟨v, rfl, h⟩
theorem w_n6 {x0 x1 x2 x3 x4 x5 : Option V} {y : Option V} {l : L2.St} {Q : L2.St → Hp → Prop} (h : Q (x0 :: x1 :: x2 :: x3 :: x4 :: x5 :: some v :: l) H) : SetN 6 v (x0 :: x1 :: x2 :: x3 :: x4 :: x5 :: y :: l) H Q := h
theorem w_v7 {x0 x1 x2 x3 x4 x5 x6 : Option V} {l : L2.St} (h : Q v H) : GetN 7 (x0 :: x1 :: x2 :: x3 :: x4 :: x5 :: x6 :: some v :: l) H Q := ⟨v, rfl, h⟩
theorem w_n7 {x0 x1 x2 x3 x4 x5 x6 : Option V} {y : Option V} {l : L2.St} {Q : L2.St → Hp → Prop} (h : Q (x0 :: x1 :: x2 :: x3 :: x4 :: x5 :: x6 :: some v :: l) H) : SetN 7 v (x0 :: x1 :: x2 :: x3 :: x4 :: x5 :: x6 :: y :: l) H Q := h
theorem w_v8 {x0 x1 x2 x3 x4 x5 x6 x7 : Option V} {l : L2.St} (h : Q v H) : GetN 8 (x0 :: x1 :: x2 :: x3 :: x4 :: x5 :: x6 :: x7 :: some v :: l) H Q := ⟨v, rfl, h⟩
theorem w_n8 {x0 x1 x2 x3 x4 x5 x6 x7 : Option V} {y : Option V} {l : L2.St} {Q : L2.St → Hp → Prop} (h : Q (x0 :: x1 :: x2 :: x3 :: x4 :: x5 :: x6 :: x7 :: some v :: l) H) : SetN 8 v (x0 :: x1 :: x2 :: x3 :: x4 :: x5 :: x6 :: x7 :: y :: l) H Q := h
theorem w_v9 {x0 x1 x2 x3 x4 x5 x6 x7 x8 : Option V} {l : L2.St} (h : Q v H) : GetN 9 (x0 :: x1 :: x2 :: x3 :: x4 :: x5 :: x6 :: x7 :: x8 :: some v :: l) H Q := ⟨v, rfl, h⟩
theorem w_n9 {x0 x1 x2 x3 x4 x5 x6 x7 x8 : Option V} {y : Option V} {l : L2.St} {Q : L2.St → Hp → Prop} (h : Q (x0 :: x1 :: x2 :: x3 :: x4 :: x5 :: x6 :: x7 :: x8 :: some v :: l) H) : SetN 9 v (x0 :: x1 :: x2 :: x3 :: x4 :: x5 :: x6 :: x7 :: x8 :: y :: l) H Q := h
theorem w_v10 {x0 x1 x2 x3 x4 x5 x6 x7 x8 x9 : Option V} {l : L2.St} (h : Q v H) : GetN 10 (x0 :: x1 :: x2 :: x3 :: x4 :: x5 :: x6 :: x7 :: x8 :: x9 :: some v :: l) H Q := ⟨v, rfl, h⟩
theorem w_n10 {x0 x1 x2 x3 x4 x5 x6 x7 x8 x9 : Option V} {y : Option V} {l : L2.St} {Q : L2.St → Hp → Prop} (h : Q (x0 :: x1 :: x2 :: x3 :: x4 :: x5 :: x6 :: x7 :: x8 :: x9 :: some v :: l) H) : SetN 10 v (x0 :: x1 :: x2 :: x3 :: x4 :: x5 :: x6 :: x7 :: x8 :: x9 :: y :: l) H Q := h
theorem w_v11 {x0 x1 x2 x3 x4 x5 x6 x7 x8 x9 x10 : Option V} {l : L2.St} (h : Q v H) : GetN 11 (x0 :: x1 :: x2 :: x3 :: x4 :: x5 :: x6 :: x7 :: x8 :: x9 :: x10 :: some v :: l) H Q := ⟨v, rfl, h⟩
theorem w_n11 {x0 x1 x2 x3 x4 x5 x6 x7 x8 x9 x10 : Option V} {y : Option V} {l : L2.St} {Q : L2.St → Hp → Prop} (h : Q (x0 :: x1 :: x2 :: x3 :: x4 :: x5 :: x6 :: x7 :: x8 :: x9 :: x10 :: some v :: l) H) : SetN 11 v (x0 :: x1 :: x2 :: x3 :: x4 :: x5 :: x6 :: x7 :: x8 :: x9 :: x10 :: y :: l) H Q := h
theorem w_v12 {x0 x1 x2 x3 x4 x5 x6 x7 x8 x9 x10 x11 : Option V} {l : L2.St} (h : Q v H) : GetN 12 (x0 :: x1 :: x2 :: x3 :: x4 :: x5 :: x6 :: x7 :: x8 :: x9 :: x10 :: x11 :: some v :: l) H Q := ⟨v, rfl, h⟩
theorem w_n12 {x0 x1 x2 x3 x4 x5 x6 x7 x8 x9 x10 x11 : Option V} {y : Option V} {l : L2.St} {Q : L2.St → Hp → Prop} (h : Q (x0 :: x1 :: x2 :: x3 :: x4 :: x5 :: x6 :: x7 :: x8 :: x9 :: x10 :: x11 :: some v :: l) H) : SetN 12 v (x0 :: x1 :: x2 :: x3 :: x4 :: x5 :: x6 :: x7 :: x8 :: x9 :: x10 :: x11 :: y :: l) H Q := h
theorem w_v13 {x0 x1 x2 x3 x4 x5 x6 x7 x8 x9 x10 x11 x12 : Option V} {l : L2.St} (h : Q v H) : GetN 13 (x0 :: x1 :: x2 :: x3 :: x4 :: x5 :: x6 :: x7 :: x8 :: x9 :: x10 :: x11 :: x12 :: some v :: l) H Q := ⟨v, rfl, h⟩
theorem w_n13 {x0 x1 x2 x3 x4 x5 x6 x7 x8 x9 x10 x11 x12 : Option V} {y : Option V} {l : L2.St} {Q : L2.St → Hp → Prop} (h : Q (x0 :: x1 :: x2 :: x3 :: x4 :: x5 :: x6 :: x7 :: x8 :: x9 :: x10 :: x11 :: x12 :: some v :: l) H) : SetN 13 v (x0 :: x1 :: x2 :: x3 :: x4 :: x5 :: x6 :: x7 :: x8 :: x9 :: x10 :: x11 :: x12 :: y :: l) H Q := h
theorem w_v14 {x0 x1 x2 x3 x4 x5 x6 x7 x8 x9 x10 x11 x12 x13 : Option V} {l : L2.St} (h : Q v H) : GetN 14 (x0 :: x1 :: x2 :: x3 :: x4 :: x5 :: x6 :: x7 :: x8 :: x9 :: x10 :: x11 :: x12 :: x13 :: some v :: l) H Q := ⟨v, rfl, h⟩
theorem w_n14 {x0 x1 x2 x3 x4 x5 x6 x7 x8 x9 x10 x11 x12 x13 : Option V} {y : Option V} {l : L2.St} {Q : L2.St → Hp → Prop} (h : Q (x0 :: x1 :: x2 :: x3 :: x4 :: x5 :: x6 :: x7 :: x8 :: x9 :: x10 :: x11 :: x12 :: x13 :: some v :: l) H) : SetN 14 v (x0 :: x1 :: x2 :: x3 :: x4 :: x5 :: x6 :: x7 :: x8 :: x9 :: x10 :: x11 :: x12 :: x13 :: y :: l) H Q := h
theorem w_v15 {x0 x1 x2 x3 x4 x5 x6 x7 x8 x9 x10 x11 x12 x13 x14 : Option V} {l : L2.St} (h : Q v H) : GetN 15 (x0 :: x1 :: x2 :: x3 :: x4 :: x5 :: x6 :: x7 :: x8 :: x9 :: x10 :: x11 :: x12 :: x13 :: x14 :: some v :: l) H Q := ⟨v, rfl, h⟩
theorem w_n15 {x0 x1 x2 x3 x4 x5 x6 x7 x8 x9 x10 x11 x12 x13 x14 : Option V} {y : Option V} {l : L2.St} {Q : L2.St → Hp → Prop} (h : Q (x0 :: x1 :: x2 :: x3 :: x4 :: x5 :: x6 :: x7 :: x8 :: x9 :: x10 :: x11 :: x12 :: x13 :: x14 :: some v :: l) H) : SetN 15 v (x0 :: x1 :: x2 :: x3 :: x4 :: x5 :: x6 :: x7 :: x8 :: x9 :: x10 :: x11 :: x12 :: x13 :: x14 :: y :: l) H Q := h

/-! rules by values -/
theorem r_addI {i j : Int} (h : Q (.int (i + j)) H) : rAdd K (.int i) (.int j) H Q := .inl ⟨i, j, rfl, rfl, h⟩
theorem r_subI {i j : Int} (h : Q (.int (i - j)) H) : rSubI (.int i) (.int j) H Q := ⟨i, j, rfl, rfl, h⟩
theorem r_mulI {i j : Int} (hc : CMul i j) (h : Q (.int (i * j)) H) : rMul K (.int i) (.int j) H Q := .inl ⟨i, j, rfl, rfl, hc, h⟩
theorem r_divI {i j : Int} (h0 : 0 < j) (h1 : j < 2 ^ 62) (h : Q (.int (i / j)) H) : rDiv (.int i) (.int j) H Q := ⟨i, j, rfl, rfl, ⟨h0, by
  have h2 : j.natAbs < 2 ^ 62 := by omega
  have h3 : j.natAbs.log2 < 62 := (Nat.log2_lt (by omega)).mpr h2
  omega⟩, h⟩
theorem r_modI {i j : Int} (h0 : 0 < j) (h : Q (.int (i % j)) H) : rMod (.int i) (.int j) H Q := ⟨i, j, rfl, rfl, h0, h⟩
theorem r_addL {a b : Addr} {xs ys : List V} (ha : H a = some (.lst xs)) (hb : H b = some (.lst ys)) (hz : xs.length + ys.length ≤ sizeLine) (h : ∀ p H1, H p = none → Ex H H1 → H1 p = some (.lst (xs ++ ys)) → Q (.ref p) H1) : rAdd K (.ref a) (.ref b) H Q :=
  .inr (.inl ⟨a, b, xs, ys, rfl, rfl, ha, hb, hz, fun p hp => h p _ hp (Ex.new hp) upd_same⟩)
theorem r_addT {a b : Addr} {xs ys : List V} (ha : SqT K H a xs) (hb : SqT K H b ys) (hz : xs.length + ys.length ≤ sizeLine) (h : ∀ p H1, Ex H H1 → SqT K H1 p (xs ++ ys) → Q (.ref p) H1) : rAdd K (.ref a) (.ref b) H Q :=
  .inr (.inr (.inl ⟨a, b, xs, ys, rfl, rfl, ha, hb, hz, fun e => h b H (Ex.refl H) (by rw [e]; exact hb), fun _ e => h a H (Ex.refl H) (by rw [e, List.append_nil]; exact ha), fun _ _ p hp => h p _ (Ex.new hp) (st_of upd_same)⟩))
theorem r_neg {i : Int} (h : Q (.int (-i)) H) : (rU fun i => .int (-i)) (.int i) H Q := ⟨i, rfl, h⟩
theorem r_lt {i j : Int} (h : Q (.bl (decide (i < j))) H) : (rI0 fun i j => .bl (decide (i < j))) (.int i) (.int j) H Q := ⟨i, j, rfl, rfl, h⟩
theorem r_le {i j : Int} (h : Q (.bl (decide (i ≤ j))) H) : (rI0 fun i j => .bl (decide (i ≤ j))) (.int i) (.int j) H Q := ⟨i, j, rfl, rfl, h⟩
theorem r_gt {i j : Int} (h : Q (.bl (decide (j < i))) H) : (rI0 fun i j => .bl (decide (j < i))) (.int i) (.int j) H Q := ⟨i, j, rfl, rfl, h⟩
theorem r_ge {i j : Int} (h : Q (.bl (decide (j ≤ i))) H) : (rI0 fun i j => .bl (decide (j ≤ i))) (.int i) (.int j) H Q := ⟨i, j, rfl, rfl, h⟩
end
end M

/-! ### part C: data, equality, built-ins, comprehensions -/
namespace M
open PySem PySem.Spec PyProof.Rows L2 Evl

abbrev dInts (ns : List Int) : PyData := .tuple (ns.map .int)
abbrev dIntL (ns : List Int) : PyData := .list (ns.map .int)
def dOpt : Option Int → PyData
  | none => .none
  | some i => .int i
def optV : Option Int → V
  | none => .non
  | some i => .int i
abbrev vI (ns : List Int) : List V := ns.map V.int
abbrev dRaw (h l : List Int) (r : Int) : PyData := .tuple [dInts h, dInts l, .int r]

section
variable {K : PySem.W.Frag} {H H' : Hp} {v : V} {Q : VK}
mutual
theorem dp_ex (e : Ex H H') : ∀ {d : PyData} {v : V}, Dp K H v d → Dp K H' v d
  | _, _, .non => .non
  | _, _, .bl b => .bl b
  | _, _, .int i => .int i
  | _, _, .str x => .str x
  | _, _, .lst h a => .lst (ex_l e h) (dpAll_ex e a)
  | _, _, .tup h a => .tup (ex_t e h) (dpAll_ex e a)
theorem dpAll_ex (e : Ex H H') : ∀ {ds : List PyData} {vs : List V}, DpAll K H vs ds → DpAll K H' vs ds
  | _, _, .nil => .nil
  | _, _, .cons a r => .cons (dp_ex e a) (dpAll_ex e r)
end
theorem dpAll_ints : ∀ {ns : List Int} {vs : List V}, DpAll K H vs (ns.map .int) → vs = vI ns
  | [], _, .nil => rfl
  | _ :: _, _, .cons (.int _) r => by rw [dpAll_ints r]; rfl
theorem dpAll_of_ints : ∀ {ns : List Int}, DpAll K H (vI ns) (ns.map .int)
  | [] => .nil
  | n :: _ => .cons (.int n) dpAll_of_ints
theorem dp_ints {ns : List Int} (h : Dp K H v (dInts ns)) : ∃ a, v = .ref a ∧ SqT K H a (vI ns) := by
  cases h with
  | tup h a => rw [dpAll_ints a] at h; exact ⟨_, rfl, h⟩
theorem dp_intL {ns : List Int} (h : Dp K H v (dIntL ns)) : ∃ a, v = .ref a ∧ SqL K H a (vI ns) := by
  cases h with
  | lst h a => rw [dpAll_ints a] at h; exact ⟨_, rfl, h⟩
theorem dp_of_ints {a : Addr} {ns : List Int} (h : SqT K H a (vI ns)) : Dp K H (.ref a) (dInts ns) := .tup h dpAll_of_ints
theorem dp_of_intL {a : Addr} {ns : List Int} (h : SqL K H a (vI ns)) : Dp K H (.ref a) (dIntL ns) := .lst h dpAll_of_ints
theorem dp_opt {p : Option Int} (h : Dp K H v (dOpt p)) : v = optV p := by
  cases p with
  | none => cases h; rfl
  | some i => cases h; rfl
theorem dp_of_opt {p : Option Int} : Dp K H (optV p) (dOpt p) := by
  cases p with
  | none => exact .non
  | some i => exact .int i
theorem dp_toInt {i : Int} (h : Dp K H v (.int i)) : v = .int i := by cases h; rfl
theorem dp_toBl {b : Bool} (h : Dp K H v (.bool b)) : v = .bl b := by cases h; rfl
theorem dp_toNon (h : Dp K H v .none) : v = .non := by cases h; rfl
/-- a raw table: a triple of two tuples of ints and an int -/
structure RawAt (K : PySem.W.Frag) (H : Hp) (a : Addr) (h l : List Int) (r : Int) : Prop where
  ex : ∃ th tl, SqT K H a [.ref th, .ref tl, .int r] ∧ SqT K H th (vI h) ∧ SqT K H tl (vI l)
theorem dp_raw {h l : List Int} {r : Int} (d : Dp K H v (dRaw h l r)) : ∃ a th tl, v = .ref a ∧ SqT K H a [.ref th, .ref tl, .int r] ∧ SqT K H th (vI h) ∧ SqT K H tl (vI l) := by
  cases d with
  | tup s q =>
    cases q with
    | cons q1 q => cases q with
      | cons q2 q => cases q with
        | cons q3 q =>
          cases q
          cases q3
          obtain ⟨th, rfl, s1⟩ := dp_ints q1
          obtain ⟨tl, rfl, s2⟩ := dp_ints q2
          exact ⟨_, th, tl, rfl, s, s1, s2⟩
theorem dp_of_raw {a th tl : Addr} {h l : List Int} {r : Int} (s : SqT K H a [.ref th, .ref tl, .int r]) (s1 : SqT K H th (vI h)) (s2 : SqT K H tl (vI l)) : Dp K H (.ref a) (dRaw h l r) :=
  .tup s (.cons (dp_of_ints s1) (.cons (dp_of_ints s2) (.cons (.int r) .nil)))
theorem dp_t2 {d1 d2 : PyData} (d : Dp K H v (.tuple [d1, d2])) : ∃ a x y, v = .ref a ∧ SqT K H a [x, y] ∧ Dp K H x d1 ∧ Dp K H y d2 := by
  cases d with
  | tup s q => cases q with
    | cons q1 q => cases q with
      | cons q2 q => cases q; exact ⟨_, _, _, rfl, s, q1, q2⟩
theorem dp_t3 {d1 d2 d3 : PyData} (d : Dp K H v (.tuple [d1, d2, d3])) : ∃ a x y z, v = .ref a ∧ SqT K H a [x, y, z] ∧ Dp K H x d1 ∧ Dp K H y d2 ∧ Dp K H z d3 := by
  cases d with
  | tup s q => cases q with
    | cons q1 q => cases q with
      | cons q2 q => cases q with
        | cons q3 q => cases q; exact ⟨_, _, _, _, rfl, s, q1, q2, q3⟩
/-- what is wanted of a def that makes the value of d and leaves what stands -/
def RetD (K : PySem.W.Frag) (d : PyData) (H : Hp) (Q : VK) : Prop := ∀ v H', Ex H H' → Dp K H' v d → Q v H'
theorem RetD.int {i : Int} (k : RetD K (.int i) H Q) (e : Ex H H') : Q (.int i) H' := k _ _ e (.int i)
theorem RetD.bl {b : Bool} (k : RetD K (.bool b) H Q) (e : Ex H H') : Q (.bl b) H' := k _ _ e (.bl b)
theorem RetD.opt {p : Option Int} (k : RetD K (dOpt p) H Q) (e : Ex H H') : Q (optV p) H' := k _ _ e dp_of_opt
theorem RetD.non (k : RetD K .none H Q) (e : Ex H H') : Q .non H' := k _ _ e .non
end

/-! the type of data -/
def tyD : PyData → Value
  | .none => .type "NoneType"
  | .bool _ => .type "bool"
  | .int _ => .type "int"
  | .str _ => .type "str"
  | .list _ => .type "list"
  | .tuple _ => .type "tuple"
  | .dict _ => .type "dict"
section
variable {K : PySem.W.Frag} {H H' : Hp} {v : V} {Q : VK} {d : PyData}
theorem SqL.ty {a : Addr} {xs : List V} (h : SqL K H a xs) : TyX K H (.ref a) (.type "list") := by
  rcases h with (h | ⟨o, h⟩) | ⟨o, its, n, h, c, _⟩
  · exact .base (.lst h)
  · exact .base (.frz h)
  · exact .kList h c
theorem SqT.ty {a : Addr} {xs : List V} (h : SqT K H a xs) : TyX K H (.ref a) (.type "tuple") := by
  rcases h with (h | ⟨o, h⟩) | ⟨o, its, n, h, c, _⟩
  · exact .base (.tup h)
  · exact .fTuple h
  · exact .kTuple h c
theorem dp_ty (h : Dp K H v d) : TyX K H v (tyD d) := by
  cases h with
  | non => exact .base .non
  | bl b => exact .base (.bl b)
  | int i => exact .base (.int i)
  | str x => exact .base (.str x)
  | lst h a => exact SqL.ty h
  | tup h a => exact SqT.ty h
theorem r_isi {n : String} {b : Bool} {t : Value} (ty : TyX K H v t) (hb : PySem.W.kitOne K t (.type n) = some b) (h : Q (.bl b) H) : rIsi K [v, .ty n] H Q := ⟨v, .ty n, t, .type n, b, rfl, .ty n, ty, hb, h⟩
theorem r_isiC {C : Addr} {b : Bool} {t : Value} (ty : TyX K H v t) (hb : PySem.W.kitOne K t (.ref C) = some b) (h : Q (.bl b) H) : rIsi K [v, .ref C] H Q := ⟨v, .ref C, t, .ref C, b, rfl, .own C, ty, hb, h⟩
theorem r_isiT {tp : Addr} {n m : String} {b : Bool} {t : Value} (hT : H tp = some (.tup [.ty n, .ty m])) (ty : TyX K H v t) (hb : PySem.W.kitAny K t [.type n, .type m] = some b) (h : Q (.bl b) H) : rIsiT K [v, .ref tp] H Q :=
  ⟨v, tp, [.ty n, .ty m], t, [.type n, .type m], b, rfl, hT, .cons (.ty n) (.cons (.ty m) .nil), ty, hb, h⟩
end

/-! equality -/
theorem eqv_ints : ∀ xs ys : List Int, PyData.eqvAll (xs.map .int) (ys.map .int) = decide (xs = ys)
  | [], [] => rfl
  | [], _ :: _ => rfl
  | _ :: _, [] => rfl
  | x :: xs, y :: ys => by
    show (x == y && PyData.eqvAll (xs.map .int) (ys.map .int)) = _
    rw [eqv_ints xs ys]
    by_cases h : x = y
    · subst h; simp
    · simp [h]
theorem canLay_ints : ∀ xs : List Int, PyData.canLayAll0 (xs.map .int) = true
  | [] => rfl
  | x :: xs => by show (true && PyData.canLayAll0 (xs.map .int)) = true; rw [canLay_ints xs]; rfl
theorem depth_ints : ∀ xs : List Int, PyData.depthAll (xs.map .int) = 0
  | [] => rfl
  | x :: xs => by show max 0 (PyData.depthAll (xs.map .int)) = 0; rw [depth_ints xs]; rfl
theorem shaped_ints (xs : List Int) : SeqAt.shaped (dInts xs) = true := by
  show (PyData.canLayAll0 (xs.map .int) && decide (PyData.depthAll (xs.map .int) + 1 ≤ 64)) = true
  rw [canLay_ints, depth_ints]; rfl
theorem shaped_intL (xs : List Int) : SeqAt.shaped (dIntL xs) = true := by
  show (PyData.canLayAll0 (xs.map .int) && decide (PyData.depthAll (xs.map .int) + 1 ≤ 64)) = true
  rw [canLay_ints, depth_ints]; rfl
theorem shaped_raw (h l : List Int) (r : Int) : SeqAt.shaped (dRaw h l r) = true := by
  show (((PyData.canLayAll0 (h.map .int)) && ((PyData.canLayAll0 (l.map .int)) && (true && true))) && decide (max (PyData.depthAll (h.map .int) + 1) (max (PyData.depthAll (l.map .int) + 1) (max 0 0)) + 1 ≤ 64)) = true
  rw [canLay_ints, canLay_ints, depth_ints, depth_ints]; rfl
theorem eqv_raw (h l h' l' : List Int) (r r' : Int) : PyData.eqv (dRaw h l r) (dRaw h' l' r') = decide (h = h' ∧ l = l' ∧ r = r') := by
  show (PyData.eqvAll (h.map .int) (h'.map .int) && (PyData.eqvAll (l.map .int) (l'.map .int) && (r == r' && true))) = _
  rw [eqv_ints, eqv_ints]
  by_cases h1 : h = h' <;> by_cases h2 : l = l' <;> by_cases h3 : r = r' <;> simp [h1, h2, h3]
section
variable {K : PySem.W.Frag} {H H' : Hp} {x y : V} {Q : VK} {d e : PyData}
theorem r_eqI {i j : Int} (h : Q (.bl (decide (i = j))) H) : rEqU K (.int i) (.int j) H Q := .inl ⟨rfl, by
  have q : decide (V.int i = V.int j) = decide (i = j) := decide_eq_decide.mpr ⟨V.int.inj, congrArg _⟩
  rw [q]; exact h⟩
theorem r_neI {i j : Int} (h : Q (.bl (!decide (i = j))) H) : rNeU K (.int i) (.int j) H Q := .inl ⟨rfl, by
  have q : decide (V.int i = V.int j) = decide (i = j) := decide_eq_decide.mpr ⟨V.int.inj, congrArg _⟩
  rw [q]; exact h⟩
theorem r_eqB {i j : Bool} (h : Q (.bl (decide (i = j))) H) : rEqU K (.bl i) (.bl j) H Q := .inl ⟨rfl, by
  have q : decide (V.bl i = V.bl j) = decide (i = j) := decide_eq_decide.mpr ⟨V.bl.inj, congrArg _⟩
  rw [q]; exact h⟩
theorem optV_inj {p q : Option Int} : optV p = optV q ↔ p = q := by
  cases p <;> cases q <;> simp [optV]
theorem scal_opt (p q : Option Int) : scal (optV p) (optV q) = true := by cases p <;> cases q <;> rfl
theorem r_eqO {p q : Option Int} (h : Q (.bl (decide (p = q))) H) : rEqU K (optV p) (optV q) H Q := .inl ⟨scal_opt p q, by
  have z : decide (optV p = optV q) = decide (p = q) := decide_eq_decide.mpr optV_inj
  rw [z]; exact h⟩
theorem r_neO {p q : Option Int} (h : Q (.bl (!decide (p = q))) H) : rNeU K (optV p) (optV q) H Q := .inl ⟨scal_opt p q, by
  have z : decide (optV p = optV q) = decide (p = q) := decide_eq_decide.mpr optV_inj
  rw [z]; exact h⟩
theorem r_eqD (hd : Dp K H x d) (he : Dp K H y e) (sd : SeqAt.shaped d = true) (se : SeqAt.shaped e = true) (h : Q (.bl (PyData.eqv d e)) H) : rEqU K x y H Q := .inr ⟨d, e, hd, he, sd, se, h⟩
theorem r_neD (hd : Dp K H x d) (he : Dp K H y e) (sd : SeqAt.shaped d = true) (se : SeqAt.shaped e = true) (h : Q (.bl (!PyData.eqv d e)) H) : rNeU K x y H Q := .inr ⟨d, e, hd, he, sd, se, h⟩
theorem r_eqT {a b : Addr} {xs ys : List Int} (ha : SqT K H a (vI xs)) (hb : SqT K H b (vI ys)) (h : Q (.bl (decide (xs = ys))) H) : rEqU K (.ref a) (.ref b) H Q :=
  r_eqD (dp_of_ints ha) (dp_of_ints hb) (shaped_ints _) (shaped_ints _) (by rw [show PyData.eqv (dInts xs) (dInts ys) = decide (xs = ys) from eqv_ints xs ys]; exact h)
theorem r_neT {a b : Addr} {xs ys : List Int} (ha : SqT K H a (vI xs)) (hb : SqT K H b (vI ys)) (h : Q (.bl (!decide (xs = ys))) H) : rNeU K (.ref a) (.ref b) H Q :=
  r_neD (dp_of_ints ha) (dp_of_ints hb) (shaped_ints _) (shaped_ints _) (by rw [show PyData.eqv (dInts xs) (dInts ys) = decide (xs = ys) from eqv_ints xs ys]; exact h)
theorem r_neL {a b : Addr} {xs ys : List Int} (ha : SqL K H a (vI xs)) (hb : SqL K H b (vI ys)) (h : Q (.bl (!decide (xs = ys))) H) : rNeU K (.ref a) (.ref b) H Q :=
  r_neD (dp_of_intL ha) (dp_of_intL hb) (shaped_intL _) (shaped_intL _) (by rw [show PyData.eqv (dIntL xs) (dIntL ys) = decide (xs = ys) from eqv_ints xs ys]; exact h)
/-! is None -/
def rIs : R2 := fun x y H Q => y = .non ∧ Q (.bl (decide (x = .non))) H
def rIsNot : R2 := fun x y H Q => y = .non ∧ Q (.bl (!decide (x = .non))) H
theorem xIs {X : Cx} : OpR X (compareOp .Is) rIs := op_isN
theorem xIsNot {X : Cx} : OpR X (compareOp .IsNot) rIsNot := op_notN
theorem r_isO {p : Option Int} (h : Q (.bl (decide (p = none))) H) : rIs (optV p) .non H Q := ⟨rfl, by
  have z : decide (optV p = V.non) = decide (p = none) := decide_eq_decide.mpr (by cases p <;> simp [optV])
  rw [z]; exact h⟩
theorem r_isNotO {p : Option Int} (h : Q (.bl (!decide (p = none))) H) : rIsNot (optV p) .non H Q := ⟨rfl, by
  have z : decide (optV p = V.non) = decide (p = none) := decide_eq_decide.mpr (by cases p <;> simp [optV])
  rw [z]; exact h⟩
theorem r_isI {i : Int} (h : Q (.bl false) H) : rIs (.int i) .non H Q := ⟨rfl, h⟩
theorem r_isN (h : Q (.bl true) H) : rIs .non .non H Q := ⟨rfl, h⟩
theorem r_isR {a : Addr} (h : Q (.bl false) H) : rIs (.ref a) .non H Q := ⟨rfl, h⟩
theorem r_isNotI {i : Int} (h : Q (.bl true) H) : rIsNot (.int i) .non H Q := ⟨rfl, h⟩
theorem r_isNotN (h : Q (.bl false) H) : rIsNot .non .non H Q := ⟨rfl, h⟩
theorem r_isNotR {a : Addr} (h : Q (.bl true) H) : rIsNot (.ref a) .non H Q := ⟨rfl, h⟩
end

/-! built-ins by names of our own -/
section
variable {X : Cx} {K : PySem.W.Frag} {H : Hp} {Q : VK}
def rLenU (K : PySem.W.Frag) : List V → Hp → VK → Prop := fun xs H Q => ∃ x n, xs = [x] ∧ LenV K x H n ∧ Q (.int n) H
theorem xLen : CallR X (.builtin "len") (rLenU X.K) := call_len
theorem r_lenT {a : Addr} {xs : List V} (h : SqT K H a xs) (q : Q (.int (xs.length : Int)) H) : rLenU K [.ref a] H Q := ⟨_, xs.length, rfl, .inr ⟨xs, h, rfl⟩, q⟩
theorem r_lenL {a : Addr} {xs : List V} (h : SqL K H a xs) (q : Q (.int (xs.length : Int)) H) : rLenU K [.ref a] H Q := ⟨_, xs.length, rfl, .inl ⟨xs, h, rfl⟩, q⟩
theorem r_lenTI {a : Addr} {xs : List Int} (h : SqT K H a (vI xs)) (q : Q (.int (xs.length : Int)) H) : rLenU K [.ref a] H Q := r_lenT h (by rw [List.length_map]; exact q)
theorem r_lenLI {a : Addr} {xs : List Int} (h : SqL K H a (vI xs)) (q : Q (.int (xs.length : Int)) H) : rLenU K [.ref a] H Q := r_lenL h (by rw [List.length_map]; exact q)
def rAbsU : List V → Hp → VK → Prop := fun xs H Q => ∃ i, xs = [.int i] ∧ Q (.int (if i < 0 then -i else i)) H
theorem xAbs : CallR X (.builtin "abs") rAbsU := call_abs
theorem r_abs {i : Int} (q : Q (.int (i.natAbs : Int)) H) : rAbsU [.int i] H Q := ⟨i, rfl, by
  have e : (if i < 0 then -i else i) = (i.natAbs : Int) := by split <;> omega
  rw [e]; exact q⟩
def rMax2U : List V → Hp → VK → Prop := fun xs H Q => ∃ i j, xs = [.int i, .int j] ∧ Q (.int (if j > i then j else i)) H
theorem xMax2 (hc : X.calm = true) : CallR X (.builtin "max") rMax2U := call_max2 hc
theorem r_max2 {i j : Int} (q : Q (.int (max i j)) H) : rMax2U [.int i, .int j] H Q := ⟨i, j, rfl, by
  have e : (if j > i then j else i) = max i j := by split <;> omega
  rw [e]; exact q⟩
def rMin2U : List V → Hp → VK → Prop := fun xs H Q => ∃ i j, xs = [.int i, .int j] ∧ Q (.int (if j < i then j else i)) H
theorem xMin2 (hc : X.calm = true) : CallR X (.builtin "min") rMin2U := call_min2 hc
theorem r_min2 {i j : Int} (q : Q (.int (min i j)) H) : rMin2U [.int i, .int j] H Q := ⟨i, j, rfl, by
  have e : (if j < i then j else i) = min i j := by split <;> omega
  rw [e]; exact q⟩
def rIntU : List V → Hp → VK → Prop := fun xs H Q => (∃ i, xs = [.int i] ∧ Q (.int i) H) ∨ ∃ k, xs = [.bl k] ∧ Q (.int (if k then 1 else 0)) H
theorem xInt : CallR X (.type "int") rIntU := call_int1
theorem r_int {i : Int} (q : Q (.int i) H) : rIntU [.int i] H Q := .inl ⟨i, rfl, q⟩
def rBoolU : List V → Hp → VK → Prop := fun xs H Q => (∃ i, xs = [.int i] ∧ Q (.bl (i != 0)) H) ∨ ∃ k, xs = [.bl k] ∧ Q (.bl k) H
theorem xBool : CallR X (.type "bool") rBoolU := call_bool1
theorem r_boolB {b : Bool} (q : Q (.bl b) H) : rBoolU [.bl b] H Q := .inr ⟨b, rfl, q⟩
def rLstU (K : PySem.W.Frag) : List V → Hp → VK → Prop := fun xs H Q => ∃ p ys, xs = [.ref p] ∧ (SqL K H p ys ∨ SqT K H p ys) ∧ ∀ l, H l = none → Q (.ref l) (upd H l (.lst ys))
theorem xLst : CallR X (.type "list") (rLstU X.K) := call_list_of
theorem r_lstL {a : Addr} {xs : List V} (h : SqL K H a xs) (q : ∀ p H1, H p = none → Ex H H1 → H1 p = some (.lst xs) → Q (.ref p) H1) : rLstU K [.ref a] H Q := ⟨a, xs, rfl, .inl h, fun p hp => q p _ hp (Ex.new hp) upd_same⟩
theorem r_lstT {a : Addr} {xs : List V} (h : SqT K H a xs) (q : ∀ p H1, H p = none → Ex H H1 → H1 p = some (.lst xs) → Q (.ref p) H1) : rLstU K [.ref a] H Q := ⟨a, xs, rfl, .inr h, fun p hp => q p _ hp (Ex.new hp) upd_same⟩
def rTupU (K : PySem.W.Frag) : List V → Hp → VK → Prop := fun xs H Q => ∃ p ys, xs = [.ref p] ∧ ((SqL K H p ys ∧ ∀ l, H l = none → Q (.ref l) (upd H l (.tup ys))) ∨ (SqT K H p ys ∧ Q (.ref p) H))
theorem xTup : CallR X (.type "tuple") (rTupU X.K) := call_tuple_of
theorem r_tupL {a : Addr} {xs : List V} (h : SqL K H a xs) (q : ∀ p H1, Ex H H1 → SqT K H1 p xs → Q (.ref p) H1) : rTupU K [.ref a] H Q := ⟨a, xs, rfl, .inl ⟨h, fun p hp => q p _ (Ex.new hp) (st_of upd_same)⟩⟩
theorem r_tupT {a : Addr} {xs : List V} (h : SqT K H a xs) (q : ∀ p H1, Ex H H1 → SqT K H1 p xs → Q (.ref p) H1) : rTupU K [.ref a] H Q := ⟨a, xs, rfl, .inr ⟨h, q a H (Ex.refl H) h⟩⟩
theorem r_all {a : Addr} {bs : List Bool} {xs : List V} (h : SqL K H a xs) (e : xs = bs.map V.bl) (q : Q (.bl (bs.all id)) H) : rAll K [.ref a] H Q := ⟨a, bs, rfl, by rw [← e]; exact h, q⟩
theorem r_any {a : Addr} {bs : List Bool} {xs : List V} (h : SqL K H a xs) (e : xs = bs.map V.bl) (q : Q (.bl (bs.any id)) H) : rAny K [.ref a] H Q := ⟨a, bs, rfl, by rw [← e]; exact h, q⟩
/-! indices -/
theorem atI_pos {α : Type} {xs : List α} {i : Int} {v : α} (h0 : 0 ≤ i) (h : xs[i.toNat]? = some v) : atI xs i = some v := by
  have hl : i.toNat < xs.length := (List.getElem?_eq_some_iff.mp h).1
  unfold atI ixN
  rw [if_pos h0, if_pos (by omega)]
  exact h
theorem atI_neg {α : Type} {xs : List α} {i : Int} {v : α} (h0 : i < 0) (h1 : -(xs.length : Int) ≤ i) (h : xs[(i + xs.length).toNat]? = some v) : atI xs i = some v := by
  unfold atI ixN
  rw [if_neg (by omega), if_pos h1]
  exact h
/-- the int at a place of a list of ints -/
def gI (xs : List Int) (i : Int) : Int := xs.getD i.toNat 0
theorem atI_ints {xs : List Int} {i : Int} (h0 : 0 ≤ i) (h1 : i < xs.length) : atI (vI xs) i = some (V.int (gI xs i)) := by
  refine atI_pos h0 ?_
  have hl : i.toNat < xs.length := by omega
  rw [List.getElem?_map, List.getElem?_eq_getElem hl]
  show some (V.int xs[i.toNat]) = some (V.int (xs.getD i.toNat 0))
  rw [List.getD_eq_getElem?_getD, List.getElem?_eq_getElem hl]; rfl
theorem atI_intsN {xs : List Int} {i : Int} (h0 : i < 0) (h1 : -(xs.length : Int) ≤ i) : atI (vI xs) i = some (V.int (gI xs (i + xs.length))) := by
  have hl : (i + xs.length).toNat < xs.length := by omega
  refine atI_neg h0 (by rw [List.length_map]; exact h1) ?_
  rw [List.length_map, List.getElem?_map, List.getElem?_eq_getElem hl]
  show some (V.int xs[(i + xs.length).toNat]) = some (V.int (xs.getD (i + xs.length).toNat 0))
  rw [List.getD_eq_getElem?_getD, List.getElem?_eq_getElem hl]; rfl
theorem r_ixT {a : Addr} {xs : List V} {i : Int} {v : V} (h : SqT K H a xs) (ha : atI xs i = some v) (q : Q v H) : rIx K (.ref a) (.int i) H Q := .inr (.inl ⟨a, xs, i, v, rfl, rfl, h, ha, q⟩)
theorem r_ixL {a : Addr} {xs : List V} {i : Int} {v : V} (h : SqL K H a xs) (ha : atI xs i = some v) (q : Q v H) : rIx K (.ref a) (.int i) H Q := .inl ⟨a, xs, i, v, rfl, rfl, h, ha, q⟩
theorem r_ixTI {a : Addr} {xs : List Int} {i : Int} (h : SqT K H a (vI xs)) (h0 : 0 ≤ i) (h1 : i < xs.length) (q : Q (.int (gI xs i)) H) : rIx K (.ref a) (.int i) H Q := r_ixT h (atI_ints h0 h1) q
theorem r_ixTN {a : Addr} {xs : List Int} {i : Int} (h : SqT K H a (vI xs)) (h0 : i < 0) (h1 : -(xs.length : Int) ≤ i) (q : Q (.int (gI xs (i + xs.length))) H) : rIx K (.ref a) (.int i) H Q := r_ixT h (atI_intsN h0 h1) q
theorem r_ixLI {a : Addr} {xs : List Int} {i : Int} (h : SqL K H a (vI xs)) (h0 : 0 ≤ i) (h1 : i < xs.length) (q : Q (.int (gI xs i)) H) : rIx K (.ref a) (.int i) H Q := r_ixL h (atI_ints h0 h1) q
theorem r_ixLN {a : Addr} {xs : List Int} {i : Int} (h : SqL K H a (vI xs)) (h0 : i < 0) (h1 : -(xs.length : Int) ≤ i) (q : Q (.int (gI xs (i + xs.length))) H) : rIx K (.ref a) (.int i) H Q := r_ixL h (atI_intsN h0 h1) q
/-! slices -/
def rSlI (xs : List Int) (lo hi : Option Int) : List Int := (xs.drop (HT.sIx xs.length 0 lo)).take (HT.sIx xs.length xs.length hi - HT.sIx xs.length 0 lo)
theorem cut_ints (xs : List Int) (lo hi : Option Int) : cutV (vI xs) lo hi = vI (rSlI xs lo hi) := by
  unfold cutV rSlI
  rw [List.length_map, ← List.map_drop, ← List.map_take]
theorem r_slL {a : Addr} {xs : List V} {lo hi : Option Int} (h : SqL K H a xs) (q : ∀ p H1, H p = none → Ex H H1 → H1 p = some (.lst (cutV xs lo hi)) → Q (.ref p) H1) : rSl K (.ref a) lo hi H Q :=
  .inl ⟨a, xs, rfl, h, fun p hp => q p _ hp (Ex.new hp) upd_same⟩
theorem cut_whole {xs : List V} {lo hi : Option Int} (h1 : HT.sIx xs.length 0 lo = 0) (h2 : HT.sIx xs.length xs.length hi = xs.length) : cutV xs lo hi = xs := by
  unfold cutV
  rw [h1, h2, List.drop_zero, Nat.sub_zero, List.take_length]
theorem r_slT {a : Addr} {xs : List V} {lo hi : Option Int} (h : SqT K H a xs) (q : ∀ p H1, Ex H H1 → SqT K H1 p (cutV xs lo hi) → Q (.ref p) H1) : rSl K (.ref a) lo hi H Q :=
  .inr (.inl ⟨a, xs, rfl, h, fun e => q a H (Ex.refl H) (by rw [cut_whole e.1 e.2]; exact h), fun _ p hp => q p _ (Ex.new hp) (st_of upd_same)⟩)
theorem cutV_to {α : Type} {xs : List α} {i : Int} (h : 0 ≤ i) (f : α → V) : cutV (xs.map f) none (some i) = (xs.take i.toNat).map f := by
  have e : cutV (xs.map f) none (some i) = ((xs.map f).drop 0).take (HT.sIx (xs.map f).length (xs.map f).length (some i) - 0) := rfl
  have e2 : HT.sIx (xs.map f).length (xs.map f).length (some i) = min i.toNat (xs.map f).length := if_neg (by omega)
  rw [e, e2, List.drop_zero, Nat.sub_zero, List.map_take]
  rcases Nat.le_total i.toNat (xs.map f).length with h1 | h1
  · rw [Nat.min_eq_left h1]
  · rw [Nat.min_eq_right h1, List.take_length, List.take_of_length_le h1]
theorem cutV_from {α : Type} {xs : List α} {i : Int} (h : 0 ≤ i) (f : α → V) : cutV (xs.map f) (some i) none = (xs.drop i.toNat).map f := by
  have e : cutV (xs.map f) (some i) none = ((xs.map f).drop (HT.sIx (xs.map f).length 0 (some i))).take ((xs.map f).length - HT.sIx (xs.map f).length 0 (some i)) := rfl
  have e2 : HT.sIx (xs.map f).length 0 (some i) = min i.toNat (xs.map f).length := if_neg (by omega)
  rw [e, e2, List.map_drop]
  rcases Nat.le_total i.toNat (xs.map f).length with h1 | h1
  · rw [Nat.min_eq_left h1, List.take_of_length_le (by rw [List.length_drop]; omega)]
  · rw [Nat.min_eq_right h1, List.drop_eq_nil_of_le h1, List.drop_eq_nil_of_le (Nat.le_refl _), List.take_nil]
theorem cutV_mid {α : Type} {xs : List α} {i j : Int} (h : 0 ≤ i) (hij : i ≤ j) (hj : j ≤ xs.length) (f : α → V) : cutV (xs.map f) (some i) (some j) = ((xs.drop i.toNat).take (j - i).toNat).map f := by
  have e : cutV (xs.map f) (some i) (some j) = ((xs.map f).drop (HT.sIx (xs.map f).length 0 (some i))).take (HT.sIx (xs.map f).length (xs.map f).length (some j) - HT.sIx (xs.map f).length 0 (some i)) := rfl
  have e2 : HT.sIx (xs.map f).length 0 (some i) = min i.toNat (xs.map f).length := if_neg (by omega)
  have e3 : HT.sIx (xs.map f).length (xs.map f).length (some j) = min j.toNat (xs.map f).length := if_neg (by omega)
  rw [e, e2, e3, List.length_map, Nat.min_eq_left (by omega), Nat.min_eq_left (by omega), List.map_take, List.map_drop, show (j - i).toNat = j.toNat - i.toNat by omega]

theorem r_slTto {a : Addr} {xs : List Int} {i : Int} (h : SqT K H a (vI xs)) (h0 : 0 ≤ i) (q : ∀ p H1, Ex H H1 → SqT K H1 p (vI (xs.take i.toNat)) → Q (.ref p) H1) : rSl K (.ref a) none (some i) H Q := r_slT h (by rw [cutV_to h0]; exact q)
theorem r_slTfrom {a : Addr} {xs : List Int} {i : Int} (h : SqT K H a (vI xs)) (h0 : 0 ≤ i) (q : ∀ p H1, Ex H H1 → SqT K H1 p (vI (xs.drop i.toNat)) → Q (.ref p) H1) : rSl K (.ref a) (some i) none H Q := r_slT h (by rw [cutV_from h0]; exact q)
theorem r_slLto {a : Addr} {xs : List Int} {i : Int} (h : SqL K H a (vI xs)) (h0 : 0 ≤ i) (q : ∀ p H1, H p = none → Ex H H1 → H1 p = some (.lst (vI (xs.take i.toNat))) → Q (.ref p) H1) : rSl K (.ref a) none (some i) H Q := r_slL h (by rw [cutV_to h0]; exact q)
theorem r_slLfrom {a : Addr} {xs : List Int} {i : Int} (h : SqL K H a (vI xs)) (h0 : 0 ≤ i) (q : ∀ p H1, H p = none → Ex H H1 → H1 p = some (.lst (vI (xs.drop i.toNat))) → Q (.ref p) H1) : rSl K (.ref a) (some i) none H Q := r_slL h (by rw [cutV_from h0]; exact q)
theorem r_slLmid {a : Addr} {xs : List Int} {i j : Int} (h : SqL K H a (vI xs)) (h0 : 0 ≤ i) (hij : i ≤ j) (hj : j ≤ xs.length) (q : ∀ p H1, H p = none → Ex H H1 → H1 p = some (.lst (vI ((xs.drop i.toNat).take (j - i).toNat))) → Q (.ref p) H1) : rSl K (.ref a) (some i) (some j) H Q := r_slL h (by rw [cutV_mid h0 hij hj]; exact q)
/-! comprehensions whose parts leave what stands -/
theorem w_lc {wi : TI} {g : TG} {tt : TT} {te : TE} {vs : List Nat} {σ : L2.St} (h : wi σ H fun J H1 => ∀ D, H1 D = none → ∃ W : Nat → Nat → Hp → Prop, (∃ m, W 0 m (upd H1 D (.lst []))) ∧ ∀ i m H, W i m H →
  (J.stop i H ∧ Q (.ref D) H) ∨ (J.go i H ∧ ∃ Nx : Hp → Prop, (∀ H', Nx H' → ∃ m', m' < m ∧ W (i + 1) m' H') ∧ ∀ x H', J.yld i H x H' → g x (wipe σ vs) H' fun σ2 H2 => wipe σ2 vs = wipe σ vs ∧ tt σ2 H2 fun b H3 =>
    if b = true then te σ2 H3 fun y H4 => ∃ acc, H4 D = some (.lst acc) ∧ acc.length < sizeLine ∧ Nx (upd H4 D (.lst (acc ++ [y]))) else Nx H3)) : tLc wi g tt te vs σ H Q := h
/-- what a comprehension over J asks, J named -/
def LcJ (J : It) (g : TG) (tt : TT) (te : TE) (vs : List Nat) (σ : L2.St) (H1 : Hp) (Q : VK) : Prop := ∀ D, H1 D = none → ∃ W : Nat → Nat → Hp → Prop, (∃ m, W 0 m (upd H1 D (.lst []))) ∧ ∀ i m H, W i m H →
  (J.stop i H ∧ Q (.ref D) H) ∨ (J.go i H ∧ ∃ Nx : Hp → Prop, (∀ H', Nx H' → ∃ m', m' < m ∧ W (i + 1) m' H') ∧ ∀ x H', J.yld i H x H' → g x (wipe σ vs) H' fun σ2 H2 => wipe σ2 vs = wipe σ vs ∧ tt σ2 H2 fun b H3 =>
    if b = true then te σ2 H3 fun y H4 => ∃ acc, H4 D = some (.lst acc) ∧ acc.length < sizeLine ∧ Nx (upd H4 D (.lst (acc ++ [y]))) else Nx H3)
theorem w_lcJ {wi : TI} {g : TG} {tt : TT} {te : TE} {vs : List Nat} {σ : L2.St} (h : wi σ H fun J H1 => LcJ J g tt te vs σ H1 Q) : tLc wi g tt te vs σ H Q := h
/-- over a range, every item kept, item i giving v i -/
theorem lcJ_range {lo : Int} {n j : Nat} {te : TE} {vs : List Nat} {σ : L2.St} (v : Nat → V) (hn : n ≤ 100000) (σ' : V → L2.St) (hσ : ∀ x, (wipe σ vs).set j (some x) = σ' x) (hw : ∀ x, wipe ((wipe σ vs).set j (some x)) vs = wipe σ vs)
    (he : ∀ (i : Nat) (H1 : Hp) (Q' : VK), Ex H H1 → i < n → (∀ H2, Ex H1 H2 → Q' (v i) H2) → te (σ' (.int (lo + (i : Int)))) H1 Q')
    (hq : ∀ p H2, H p = none → Ex H H2 → H2 p = some (.lst ((List.range n).map v)) → Q (.ref p) H2) : LcJ (Itr lo n) (gName j) tYes te vs σ H Q := fun D hD =>
  lc_range (Pv := fun i H' => Ex H H' ∧ H' D = some (.lst ((List.range i).map v))) ⟨Ex.new hD, upd_same⟩ (fun i H' hi p => ⟨hw _, by
    show te ((wipe σ vs).set j _) H' _
    rw [hσ]
    refine he i H' _ p.1 hi fun H2 e2 => ⟨(List.range i).map v, e2 D _ p.2, sz_lt (by simp only [List.length_map, List.length_range]; omega), Ex.mut (p.1.trans e2) hD, ?_⟩
    rw [List.range_succ, List.map_append]
    exact upd_same⟩) fun H' p => hq D H' hD p.1 p.2
theorem lcJ_r0 {n j : Nat} {te : TE} {vs : List Nat} {σ : L2.St} (v : Nat → V) (hn : n ≤ 100000) (σ' : V → L2.St) (hσ : ∀ x, (wipe σ vs).set j (some x) = σ' x) (hw : ∀ x, wipe ((wipe σ vs).set j (some x)) vs = wipe σ vs)
    (he : ∀ (i : Nat) (H1 : Hp) (Q' : VK), Ex H H1 → i < n → (∀ H2, Ex H1 H2 → Q' (v i) H2) → te (σ' (.int (i : Int))) H1 Q')
    (hq : ∀ p H2, H p = none → Ex H H2 → H2 p = some (.lst ((List.range n).map v)) → Q (.ref p) H2) : LcJ (Itr 0 n) (gName j) tYes te vs σ H Q :=
  lcJ_range v hn σ' hσ hw (fun i H1 Q' e hi k => by rw [Int.zero_add]; exact he i H1 Q' e hi k) hq
/-- over a list or a tuple -/
theorem lcJ_list {a : Addr} {xs : List V} {j : Nat} {te : TE} {vs : List Nat} {σ : L2.St} (v : V → V) (hx : SqL K H a xs) (hn : xs.length ≤ 100000) (σ' : V → L2.St) (hσ : ∀ x, (wipe σ vs).set j (some x) = σ' x) (hw : ∀ x, wipe ((wipe σ vs).set j (some x)) vs = wipe σ vs)
    (he : ∀ (x : V) (H1 : Hp) (Q' : VK), Ex H H1 → x ∈ xs → (∀ H2, Ex H1 H2 → Q' (v x) H2) → te (σ' x) H1 Q')
    (hq : ∀ p H2, H p = none → Ex H H2 → H2 p = some (.lst (xs.map v)) → Q (.ref p) H2) : LcJ (Itl K a) (gName j) tYes te vs σ H Q := fun D hD =>
  lc_list (xs := xs) (Pv := fun i H' => Ex H H' ∧ H' D = some (.lst ((xs.take i).map v))) ⟨Ex.new hD, upd_same⟩ (fun i H' _ p => ex_l p.1 hx) (fun i x H' hi p => ⟨hw _, by
    show te ((wipe σ vs).set j _) H' _
    rw [hσ]
    refine he x H' _ p.1 (List.mem_of_getElem? hi) fun H2 e2 => ⟨(xs.take i).map v, e2 D _ p.2, sz_lt (by rw [List.length_map, List.length_take]; have := (List.getElem?_eq_some_iff.mp hi).1; omega), Ex.mut (p.1.trans e2) hD, ?_⟩
    rw [List.take_add_one, hi, List.map_append]
    exact upd_same⟩) fun H' p => hq D H' hD p.1 (by rw [List.take_length] at p; exact p.2)
theorem lcJ_tup {a : Addr} {xs : List V} {j : Nat} {te : TE} {vs : List Nat} {σ : L2.St} (v : V → V) (hx : SqT K H a xs) (hn : xs.length ≤ 100000) (σ' : V → L2.St) (hσ : ∀ x, (wipe σ vs).set j (some x) = σ' x) (hw : ∀ x, wipe ((wipe σ vs).set j (some x)) vs = wipe σ vs)
    (he : ∀ (x : V) (H1 : Hp) (Q' : VK), Ex H H1 → x ∈ xs → (∀ H2, Ex H1 H2 → Q' (v x) H2) → te (σ' x) H1 Q')
    (hq : ∀ p H2, H p = none → Ex H H2 → H2 p = some (.lst (xs.map v)) → Q (.ref p) H2) : LcJ (Itt K a) (gName j) tYes te vs σ H Q := fun D hD =>
  lc_tup (xs := xs) (Pv := fun i H' => Ex H H' ∧ H' D = some (.lst ((xs.take i).map v))) ⟨Ex.new hD, upd_same⟩ (fun i H' _ p => ex_t p.1 hx) (fun i x H' hi p => ⟨hw _, by
    show te ((wipe σ vs).set j _) H' _
    rw [hσ]
    refine he x H' _ p.1 (List.mem_of_getElem? hi) fun H2 e2 => ⟨(xs.take i).map v, e2 D _ p.2, sz_lt (by rw [List.length_map, List.length_take]; have := (List.getElem?_eq_some_iff.mp hi).1; omega), Ex.mut (p.1.trans e2) hD, ?_⟩
    rw [List.take_add_one, hi, List.map_append]
    exact upd_same⟩) fun H' p => hq D H' hD p.1 (by rw [List.take_length] at p; exact p.2)
/-! what is walked -/
def SeqLi (K : PySem.W.Frag) (R : It → Hp → Prop) (x : V) (H1 : Hp) : Prop := ∃ a, x = .ref a ∧ (∃ xs, SqL K H1 a xs) ∧ R (Itl K a) H1
def SeqTi (K : PySem.W.Frag) (R : It → Hp → Prop) (x : V) (H1 : Hp) : Prop := ∃ a, x = .ref a ∧ (∃ xs, SqT K H1 a xs) ∧ R (Itt K a) H1
theorem i_seqL {tl : TE} {σ : L2.St} {R : It → Hp → Prop} (h : tl σ H fun x H1 => SeqLi K R x H1) : iSeq K tl σ H R := .inl h
theorem i_seqT {tl : TE} {σ : L2.St} {R : It → Hp → Prop} (h : tl σ H fun x H1 => SeqTi K R x H1) : iSeq K tl σ H R := .inr h
theorem i_xL {a : Addr} {xs : List V} {R : It → Hp → Prop} (hx : SqL K H a xs) (h : R (Itl K a) H) : SeqLi K R (.ref a) H := ⟨a, rfl, ⟨xs, hx⟩, h⟩
theorem i_xT {a : Addr} {xs : List V} {R : It → Hp → Prop} (hx : SqT K H a xs) (h : R (Itt K a) H) : SeqTi K R (.ref a) H := ⟨a, rfl, ⟨xs, hx⟩, h⟩
def Rng1 (R : It → Hp → Prop) (vs : List V) (H1 : Hp) : Prop := ∃ j : Int, vs = [.int j] ∧ -(2 ^ 62) ≤ j ∧ j < 2 ^ 62 ∧ R (Itr 0 j.toNat) H1
def Rng2 (R : It → Hp → Prop) (vs : List V) (H1 : Hp) : Prop := ∃ i j : Int, vs = [.int i, .int j] ∧ (-(2 ^ 62) ≤ i ∧ i < 2 ^ 62 ∧ -(2 ^ 62) ≤ j ∧ j < 2 ^ 62) ∧ R (Itr i (j - i).toNat) H1
theorem i_r1 {ta : TA} {σ : L2.St} {R : It → Hp → Prop} (h : ta σ H fun vs H1 => Rng1 R vs H1) : iRng1 ta σ H R := h
theorem i_r2 {ta : TA} {σ : L2.St} {R : It → Hp → Prop} (h : ta σ H fun vs H1 => Rng2 R vs H1) : iRng2 ta σ H R := h
theorem i_x1 {j : Int} {R : It → Hp → Prop} (hj : -1000000000 ≤ j ∧ j ≤ 1000000000) (h : R (Itr 0 j.toNat) H) : Rng1 R [V.int j] H := ⟨j, rfl, by omega, by omega, h⟩
theorem i_x2 {i j : Int} {R : It → Hp → Prop} (hij : -1000000000 ≤ i ∧ i ≤ 1000000000 ∧ -1000000000 ≤ j ∧ j ≤ 1000000000) (h : R (Itr i (j - i).toNat) H) : Rng2 R [V.int i, V.int j] H := ⟨i, j, rfl, by omega, h⟩
/-! loops, J named -/
def ForJ (J : It) (g : TG) (tb : TS) (D : Ends) (σ : L2.St) (H1 : Hp) : Prop := ∃ W : Nat → Nat → L2.St → Hp → Prop, (∃ m, W 0 m σ H1) ∧ ∀ i m σ H, W i m σ H →
  (J.stop i H ∧ D.nx σ H) ∨ (J.go i H ∧ ∃ N : L2.St → Hp → Prop, (∀ σ' H', N σ' H' → ∃ m', m' < m ∧ W (i + 1) m' σ' H') ∧ ∀ x H', J.yld i H x H' → g x σ H' fun σ2 H2 => tb { D with nx := N, ct := N, bk := D.nx } σ2 H2)
theorem w_forJ {wi : TI} {g : TG} {tb : TS} {D : Ends} {σ : L2.St} (h : wi σ H fun J H1 => ForJ J g tb D σ H1) : tFor wi g tb D σ H := h
end
end M

/-! ### part D: the rules with the written part said -/
namespace M
open PySem PySem.Spec PyProof.Rows L2 Evl
section
variable {X : Cx} (K : PySem.W.Frag)
theorem kIx (h : X.K = K := by rfl) : IxR X (rIx K) := by subst h; exact ix_seq
theorem kAdd (h : X.K = K := by rfl) : OpR X (binaryOp .Add) (rAdd K) := by subst h; exact xAdd
theorem kMul (h : X.K = K := by rfl) : OpR X (binaryOp .Mult) (rMul K) := by subst h; exact xMul
theorem kEq {j : Nat} (hr : Room j X.A) (h : X.K = K := by rfl) : OpR X (compareOp .Eq) (rEqU K) := by subst h; exact xEq hr
theorem kNe {j : Nat} (hr : Room j X.A) (h : X.K = K := by rfl) : OpR X (compareOp .NotEq) (rNeU K) := by subst h; exact xNe hr
theorem kSl (h : X.K = K := by rfl) : SlR X (rSl K) := by subst h; exact xSl
theorem kLen (h : X.K = K := by rfl) : CallR X (.builtin "len") (rLenU K) := by subst h; exact xLen
theorem kLst (h : X.K = K := by rfl) : CallR X (.type "list") (rLstU K) := by subst h; exact xLst
theorem kTup (h : X.K = K := by rfl) : CallR X (.type "tuple") (rTupU K) := by subst h; exact xTup
theorem kAll (hc : X.calm = true) (h : X.K = K := by rfl) : CallR X (.builtin "all") (rAll K) := by subst h; exact cr_all hc
theorem kAny (hc : X.calm = true) (h : X.K = K := by rfl) : CallR X (.builtin "any") (rAny K) := by subst h; exact cr_any hc
theorem kSum (hc : X.calm = true) (h : X.K = K := by rfl) : CallR X (.builtin "sum") (rSum K) := by subst h; exact cr_sum hc
theorem kIsi (h : X.K = K := by rfl) : CallR X (.builtin "isinstance") (rIsi K) := by subst h; exact call_isi
theorem kIsiT (h : X.K = K := by rfl) : CallR X (.builtin "isinstance") (rIsiT K) := by subst h; exact call_isiT
theorem kSeq {tg l : Expr} {tl : TE} (hl : PE X l tl) (h : X.K = K := by rfl) : PI X tg l (iSeq K tl) := by subst h; exact pi_seq hl
theorem kFld {o : Expr} {f : Str} {pos : Pos} {ta : TE} (ha : PE X o ta) (hb : attributeBase o f X.env (eval o X.env) = eval o X.env) (h : X.K = K := by rfl) : PE X (.Attribute o f pos) (tFld K ta f) := by subst h; exact pe_fld ha hb
theorem kGtup {es : List Expr} {k : Nat} {t : TGs} {n : Nat} {pos : Pos} (hc : X.calm = true) (h : PGs X es t)
    (hn : (assignEach es X.env).length = n := by rfl) (hst : (assignEach es X.env).findIdx? (·.1) = none := by rfl) (hK : X.K = K := by rfl) : PG X (.Tuple es k pos) (gTup K n t) := by subst hK; exact pg_tup hc h hn hst
theorem kBM {e0 : Expr} {to : TE} {t : TA} {T : String} {r : V → List V → Hp → VK → Prop} (h0 : PE X e0 (tBM X.K T r to t)) (h : X.K = K := by rfl) : PE X e0 (tBM K T r to t) := by subst h; exact h0
theorem kFldS {st : Stmt} {ta tv : TE} {f : Str} (h0 : PS X st (sFld X.K ta tv f)) (h : X.K = K := by rfl) : PS X st (sFld K ta tv f) := by subst h; exact h0
/-! truth of any value, named -/
end
def TruX (K : PySem.W.Frag) (x : V) (H : Hp) (Q : Bool → Hp → Prop) : Prop := ∃ k, TruV K x H k ∧ Q k H
def tTru (K : PySem.W.Frag) (te : TE) : TT := fun σ H Q => te σ H fun x H' => TruX K x H' Q
section
variable {X : Cx} (K : PySem.W.Frag)
theorem kTru {a : Expr} {ta : TE} (ha : PE X a ta) (he : ∀ whole, isTrue a X.env whole = (do let v ← whole; standAt a.pos; holding [v] (truthy v))) (h : X.K = K := by rfl) : PT X a (tTru K ta) := by subst h; exact pt_truth ha he
end
section
variable {K : PySem.W.Frag} {σ : L2.St} {H : Hp} {te : TE} {Q : Bool → Hp → Prop}
theorem w_tru (h : te σ H fun x H' => TruX K x H' Q) : tTru K te σ H Q := h
theorem r_truB {b : Bool} (h : Q b H) : TruX K (.bl b) H Q := ⟨b, rfl, h⟩
theorem r_truI {i : Int} (h : Q (!decide (i = 0)) H) : TruX K (.int i) H Q := ⟨(i != 0), rfl, by
  have e : (i != 0) = (!decide (i = 0)) := by
    by_cases c : i = 0
    · subst c; rfl
    · simp [c]
  rw [e]; exact h⟩
theorem r_truN (h : Q false H) : TruX K .non H Q := ⟨false, rfl, h⟩
/-- all of a list of truths -/
theorem all_range {n : Nat} {p : Nat → Prop} [DecidablePred p] : ((List.range n).map fun i => decide (p i)).all id = decide (∀ i, i < n → p i) := by
  rw [Bool.eq_iff_iff]
  simp
theorem map_bl_range {n : Nat} {p : Nat → Prop} [DecidablePred p] : (List.range n).map (fun i => V.bl (decide (p i))) = ((List.range n).map fun i => decide (p i)).map V.bl := by
  rw [List.map_map]; rfl
end
end M

/-! ### part E: data without lists; comprehensions that make data -/
namespace M
open PySem PySem.Spec PyProof.Rows L2 Evl
mutual
def imm : PyData → Bool
  | .list _ => false
  | .dict _ => false
  | .tuple xs => immAll xs
  | _ => true
def immAll : List PyData → Bool
  | [] => true
  | x :: xs => imm x && immAll xs
end
/-- tuples stand -/
def TEx (H H' : Hp) : Prop := ∀ a xs, Rd H a (.tup xs) → Rd H' a (.tup xs)
theorem TEx.of {H H' : Hp} (e : Ex H H') : TEx H H' := fun _ _ h => ex_rd e h
theorem TEx.trans {H H1 H2 : Hp} (a : TEx H H1) (b : TEx H1 H2) : TEx H H2 := fun x o h => b x o (a x o h)
theorem TEx.refl (H : Hp) : TEx H H := fun _ _ h => h
theorem TEx.upd {H : Hp} {p : Addr} {xs : List V} {o : HO} (h : H p = some (.lst xs)) : TEx H (upd H p o) := fun a ys q => by
  have hne : a ≠ p := by
    rintro rfl
    rcases q with q | ⟨o', q⟩ <;> rw [h] at q <;> cases q
  rcases q with q | ⟨o', q⟩
  · exact .inl (by rw [upd_ne hne]; exact q)
  · exact .inr ⟨o', by rw [upd_ne hne]; exact q⟩
section
variable {K : PySem.W.Frag} {H H' : Hp}
theorem tex_t (e : TEx H H') {a : Addr} {xs : List V} (h : SqT K H a xs) : SqT K H' a xs := by
  rcases h with h | h
  · exact .inl (e a xs h)
  · exact .inr h
mutual
theorem dp_tex (e : TEx H H') : ∀ {d : PyData} {v : V}, imm d = true → Dp K H v d → Dp K H' v d
  | _, _, _, .non => .non
  | _, _, _, .bl b => .bl b
  | _, _, _, .int i => .int i
  | _, _, _, .str x => .str x
  | _, _, h, .lst _ _ => nomatch h
  | _, _, h, .tup s a => .tup (tex_t e s) (dpAll_tex e h a)
theorem dpAll_tex (e : TEx H H') : ∀ {ds : List PyData} {vs : List V}, immAll ds = true → DpAll K H vs ds → DpAll K H' vs ds
  | _, _, _, .nil => .nil
  | _, _, h, .cons a r => .cons (dp_tex e (Bool.and_eq_true_iff.mp h).1 a) (dpAll_tex e (Bool.and_eq_true_iff.mp h).2 r)
end
theorem dpAll_len : ∀ {vs : List V} {ds : List PyData}, DpAll K H vs ds → vs.length = ds.length
  | _, _, .nil => rfl
  | _, _, .cons _ r => congrArg Nat.succ (dpAll_len r)
theorem dpAll_app : ∀ {vs ws : List V} {ds es : List PyData}, DpAll K H vs ds → DpAll K H ws es → DpAll K H (vs ++ ws) (ds ++ es)
  | _, _, _, _, .nil, h => h
  | _, _, _, _, .cons a r, h => .cons a (dpAll_app r h)
theorem dpAll_get : ∀ {vs : List V} {ds : List PyData} {i : Nat} {x : V}, DpAll K H vs ds → vs[i]? = some x → ∃ d, ds[i]? = some d ∧ Dp K H x d
  | _, _, 0, _, .cons a _, e => by simp at e; subst e; exact ⟨_, rfl, a⟩
  | _, _, i + 1, x, .cons _ r, e => by
    obtain ⟨d, h1, h2⟩ := dpAll_get (i := i) (x := x) r (by simpa using e)
    exact ⟨d, by simpa using h1, h2⟩
theorem immAll_app : ∀ {ds es : List PyData}, immAll ds = true → immAll es = true → immAll (ds ++ es) = true
  | [], _, _, h => h
  | _ :: _, _, h, h' => Bool.and_eq_true_iff.mpr ⟨(Bool.and_eq_true_iff.mp h).1, immAll_app (Bool.and_eq_true_iff.mp h).2 h'⟩
theorem immAll_map {f : Nat → PyData} (h : ∀ i, imm (f i) = true) : ∀ l : List Nat, immAll (l.map f) = true
  | [] => rfl
  | i :: l => Bool.and_eq_true_iff.mpr ⟨h i, immAll_map h l⟩
variable {Q : VK}
/-- over a list: item i gives data f i (without lists) -/
theorem lcD_list {a : Addr} {xs : List V} {j : Nat} {te : TE} {vs : List Nat} {σ : L2.St} (f : Nat → PyData) (hf : ∀ i, imm (f i) = true) (hx : SqL K H a xs) (hn : xs.length ≤ 100000) (σ' : V → L2.St) (hσ : ∀ x, (wipe σ vs).set j (some x) = σ' x) (hw : ∀ x, wipe ((wipe σ vs).set j (some x)) vs = wipe σ vs)
    (he : ∀ (i : Nat) (x : V) (H1 : Hp) (Q' : VK), Ex H H1 → xs[i]? = some x → (∀ y H2, Ex H1 H2 → Dp K H2 y (f i) → Q' y H2) → te (σ' x) H1 Q')
    (hq : ∀ p H2 ys, H p = none → Ex H H2 → H2 p = some (.lst ys) → DpAll K H2 ys ((List.range xs.length).map f) → Q (.ref p) H2) : LcJ (Itl K a) (gName j) tYes te vs σ H Q := fun D hD =>
  lc_list (xs := xs) (Pv := fun i H' => Ex H H' ∧ ∃ ys, H' D = some (.lst ys) ∧ DpAll K H' ys ((List.range i).map f)) ⟨Ex.new hD, [], upd_same, .nil⟩ (fun i H' _ p => ex_l p.1 hx) (fun i x H' hi ⟨p1, ys, p2, p3⟩ => ⟨hw x, by
    show te ((wipe σ vs).set j _) H' _
    rw [hσ]
    have hi' := (List.getElem?_eq_some_iff.mp hi).1
    refine he i x H' _ p1 hi fun y H2 e2 d2 => ⟨ys, e2 D _ p2, sz_lt (by rw [dpAll_len p3, List.length_map, List.length_range]; omega), Ex.mut (p1.trans e2) hD, ys ++ [y], upd_same, ?_⟩
    have t := TEx.upd (o := .lst (ys ++ [y])) (e2 D _ p2)
    rw [List.range_succ, List.map_append]
    exact dpAll_app (dpAll_tex t (immAll_map hf _) (dpAll_ex e2 p3)) (.cons (dp_tex t (hf i) d2) .nil)⟩) fun H' ⟨p1, ys, p2, p3⟩ => hq D H' ys hD p1 p2 p3
theorem lcD_tup {a : Addr} {xs : List V} {j : Nat} {te : TE} {vs : List Nat} {σ : L2.St} (f : Nat → PyData) (hf : ∀ i, imm (f i) = true) (hx : SqT K H a xs) (hn : xs.length ≤ 100000) (σ' : V → L2.St) (hσ : ∀ x, (wipe σ vs).set j (some x) = σ' x) (hw : ∀ x, wipe ((wipe σ vs).set j (some x)) vs = wipe σ vs)
    (he : ∀ (i : Nat) (x : V) (H1 : Hp) (Q' : VK), Ex H H1 → xs[i]? = some x → (∀ y H2, Ex H1 H2 → Dp K H2 y (f i) → Q' y H2) → te (σ' x) H1 Q')
    (hq : ∀ p H2 ys, H p = none → Ex H H2 → H2 p = some (.lst ys) → DpAll K H2 ys ((List.range xs.length).map f) → Q (.ref p) H2) : LcJ (Itt K a) (gName j) tYes te vs σ H Q := fun D hD =>
  lc_tup (xs := xs) (Pv := fun i H' => Ex H H' ∧ ∃ ys, H' D = some (.lst ys) ∧ DpAll K H' ys ((List.range i).map f)) ⟨Ex.new hD, [], upd_same, .nil⟩ (fun i H' _ p => ex_t p.1 hx) (fun i x H' hi ⟨p1, ys, p2, p3⟩ => ⟨hw x, by
    show te ((wipe σ vs).set j _) H' _
    rw [hσ]
    have hi' := (List.getElem?_eq_some_iff.mp hi).1
    refine he i x H' _ p1 hi fun y H2 e2 d2 => ⟨ys, e2 D _ p2, sz_lt (by rw [dpAll_len p3, List.length_map, List.length_range]; omega), Ex.mut (p1.trans e2) hD, ys ++ [y], upd_same, ?_⟩
    have t := TEx.upd (o := .lst (ys ++ [y])) (e2 D _ p2)
    rw [List.range_succ, List.map_append]
    exact dpAll_app (dpAll_tex t (immAll_map hf _) (dpAll_ex e2 p3)) (.cons (dp_tex t (hf i) d2) .nil)⟩) fun H' ⟨p1, ys, p2, p3⟩ => hq D H' ys hD p1 p2 p3
/-! deep: tuples in the place of lists -/
end
mutual
def dDeep : PyData → PyData
  | .list xs => .tuple (dDeepAll xs)
  | .tuple xs => .tuple (dDeepAll xs)
  | .none => .none
  | .bool b => .bool b
  | .int i => .int i
  | .str s => .str s
  | .dict _ => .none
def dDeepAll : List PyData → List PyData
  | [] => []
  | x :: xs => dDeep x :: dDeepAll xs
end
mutual
theorem imm_deep : ∀ d, imm (dDeep d) = true
  | .list xs => immAll_deep xs
  | .tuple xs => immAll_deep xs
  | .none => rfl
  | .bool _ => rfl
  | .int _ => rfl
  | .str _ => rfl
  | .dict _ => rfl
theorem immAll_deep : ∀ ds, immAll (dDeepAll ds) = true
  | [] => rfl
  | x :: xs => Bool.and_eq_true_iff.mpr ⟨imm_deep x, immAll_deep xs⟩
end
theorem dDeepAll_eq : ∀ ds, dDeepAll ds = ds.map dDeep
  | [] => rfl
  | x :: xs => by show dDeep x :: dDeepAll xs = _; rw [dDeepAll_eq xs]; rfl
theorem dDeep_ints (ns : List Int) : dDeepAll (ns.map .int) = ns.map .int := by
  rw [dDeepAll_eq, List.map_map]; rfl
mutual
/-- depth at most n, each row at most so long -/
def shp : Nat → PyData → Bool
  | 0, .list _ => false
  | 0, .tuple _ => false
  | n + 1, .list xs => decide (xs.length ≤ 50000) && shpAll n xs
  | n + 1, .tuple xs => decide (xs.length ≤ 50000) && shpAll n xs
  | _, .dict _ => false
  | _, _ => true
def shpAll : Nat → List PyData → Bool
  | _, [] => true
  | n, x :: xs => shp n x && shpAll n xs
end
theorem shpAll_get {n : Nat} : ∀ {ds : List PyData} {i : Nat} {d : PyData}, shpAll n ds = true → ds[i]? = some d → shp n d = true
  | _ :: _, 0, _, h, e => by
    simp at e; subst e
    unfold shpAll at h
    exact (Bool.and_eq_true_iff.mp h).1
  | _ :: _, i + 1, d, h, e => by
    unfold shpAll at h
    exact shpAll_get (i := i) (d := d) (Bool.and_eq_true_iff.mp h).2 (by simpa using e)
theorem shpAll_ints : ∀ ns : List Int, shpAll 0 (ns.map .int) = true
  | [] => rfl
  | n :: ns => by show (shp 0 (.int n) && shpAll 0 (ns.map .int)) = true; rw [shpAll_ints ns]; rfl
end M

/-! ### part F: a list or a tuple -/
namespace M
open PySem PySem.Spec PyProof.Rows L2 Evl
def SqE (K : PySem.W.Frag) (H : Hp) (a : Addr) (xs : List V) : Prop := SqL K H a xs ∨ SqT K H a xs
section
variable {K : PySem.W.Frag} {H H' : Hp} {Q : VK}
theorem ex_e {a : Addr} {xs : List V} (e : Ex H H') (h : SqE K H a xs) : SqE K H' a xs := h.elim (fun h => .inl (ex_l e h)) (fun h => .inr (ex_t e h))
theorem r_lenEI {a : Addr} {xs : List Int} (h : SqE K H a (vI xs)) (q : Q (.int (xs.length : Int)) H) : rLenU K [.ref a] H Q := h.elim (fun h => r_lenLI h q) (fun h => r_lenTI h q)
theorem r_ixEI {a : Addr} {xs : List Int} {i : Int} (h : SqE K H a (vI xs)) (h0 : 0 ≤ i) (h1 : i < xs.length) (q : Q (.int (gI xs i)) H) : rIx K (.ref a) (.int i) H Q := h.elim (fun h => r_ixLI h h0 h1 q) (fun h => r_ixTI h h0 h1 q)
theorem r_ixEN {a : Addr} {xs : List Int} {i : Int} (h : SqE K H a (vI xs)) (h0 : i < 0) (h1 : -(xs.length : Int) ≤ i) (q : Q (.int (gI xs (i + xs.length))) H) : rIx K (.ref a) (.int i) H Q := h.elim (fun h => r_ixLN h h0 h1 q) (fun h => r_ixTN h h0 h1 q)
end
end M

/-! ### part G: fields, instances made, methods, properties, instances called, own == -/
namespace M
open PySem PySem.Spec PyProof.Rows L2 Evl
def GetF (K : PySem.W.Frag) (f : Str) (x : V) (H : Hp) (Q : VK) : Prop := ∃ a C dx fs v, x = .ref a ∧ H a = some (.ins C dx fs) ∧ Cls K C ∧ NoAttr K C f ∧ fs.lookup f = some v ∧ Q v H
def PutF (K : PySem.W.Frag) (f : Str) (y x : V) (H : Hp) (R : Hp → Prop) : Prop := ∃ a C dx fs, x = .ref a ∧ H a = some (.ins C dx fs) ∧ Cls K C ∧ NoAttr K C f ∧ fs.length < 1000 ∧ R (upd H a (.ins C dx (putF f y fs)))
section
variable {K : PySem.W.Frag} {σ : L2.St} {H : Hp} {Q : VK} {D : Ends} {ta tv : TE} {f : Str}
theorem w_fld (h : ta σ H fun x H1 => GetF K f x H1 Q) : tFld K ta f σ H Q := h
theorem w_fldS (h : tv σ H fun y H1 => ta σ H1 fun x H2 => PutF K f y x H2 fun H3 => D.nx σ H3) : sFld K ta tv f D σ H := h
theorem r_getF {a C dx : Addr} {fs : List (Str × V)} {v : V} (h : H a = some (.ins C dx fs)) (c : Cls K C) (n : NoAttr K C f) (e : fs.lookup f = some v) (q : Q v H) : GetF K f (.ref a) H Q := ⟨a, C, dx, fs, v, rfl, h, c, n, e, q⟩
theorem r_putF {a C dx : Addr} {fs : List (Str × V)} {y : V} {R : Hp → Prop} (h : H a = some (.ins C dx fs)) (c : Cls K C) (n : NoAttr K C f) (hl : fs.length < 1000) (q : R (upd H a (.ins C dx (putF f y fs)))) : PutF K f y (.ref a) H R := ⟨a, C, dx, fs, rfl, h, c, n, hl, q⟩
end
/-- a class made by its name: dvs the defaults that fill up -/
structure Mkc (P : Program) (w : World) (K : PySem.W.Frag) (mg : Str → Option Value) (base : Heap) (CX : CXT) (k : Nat) (x : Str) (C : Addr) (sp : Sp) (dvs : List V) : Prop where
  ex : ∃ (f : Addr) (fd : FuncData) (ps : List Str) (ds : List Value), Mk K C f ∧ FnOk P w K mg base CX k f fd ps sp ∧ mg x = some (.ref C) ∧ Binds K fd ps ds ∧ Vals dvs ds
section
variable {X : Cx} {CX : CXT} {k j : Nat} {C : Addr} {x m : Str} {sp : Sp} {dvs : List V} {E : XK} {p pos apos : Pos} {e o : Expr} {es : List Expr} {ta : TE} {t : TA}
theorem pmk (c : Mkc X.prog X.w X.K X.mg X.base CX k x C sp dvs) (hr : Room j X.A) (hk : k + 1 ≤ j) (hx : Passes CX X E) (hg : Gl X x) (ha : PA X (e :: es) t)
    (hdb : (x == ("__debug__" : Str)) = false := by decide) (he : starEach (e :: es) X.env = (false, eval e X.env) :: starEach es X.env := by rfl) (hpl : (backTo pos (starEach es X.env)).any (·.1) = false := by rfl) :
    PE X (.Call (.Name x p) (e :: es) [] pos) (tMake C sp dvs E t) := by
  obtain ⟨f, fd, ps, ds, M, F, hm, hb, hd⟩ := c.ex
  exact pe_make M F (hr.mono hk) hg hm hb hd hx ha hdb he hpl
theorem pmt {pl : Sem Bool} (c : Mt X.prog X.w X.K X.mg X.base CX k C m sp) (hr : Room j X.A) (hk : k ≤ j) (hx : Passes CX X E) (ho : PE X o ta) (ha : PA X (e :: es) t)
    (he : starEach (e :: es) X.env = (false, eval e X.env) :: starEach es X.env := by rfl) (hpl : (backTo pos (starEach es X.env)).any (·.1) = false := by rfl)
    (ht : eval (.Call (.Attribute o m apos) (e :: es) [] pos) X.env = (do let ov ← eval o X.env; standAt apos.atName; let (f, first) ← holding [ov] (getMethod ov m pl); callWith pos f first (backTo pos (starEach (e :: es) X.env)) (backToKw pos (keywordEach [] X.env))) := by rfl) :
    PE X (.Call (.Attribute o m apos) (e :: es) [] pos) (tMeth C m sp [] E ta t) := by
  obtain ⟨f, fd, ps, cl, hm, F, hb⟩ := c.ex
  exact pe_meth ho cl hm F (hr.mono hk) hb .nil hx ha he hpl ht
theorem pmt0 {pl : Sem Bool} (c : Mt X.prog X.w X.K X.mg X.base CX k C m sp) (hr : Room j X.A) (hk : k ≤ j) (hx : Passes CX X E) (ho : PE X o ta)
    (ht : eval (.Call (.Attribute o m apos) [] [] pos) X.env = (do let ov ← eval o X.env; standAt apos.atName; let (f, first) ← holding [ov] (getMethod ov m pl); callWith pos f first (backTo pos (starEach [] X.env)) (backToKw pos (keywordEach [] X.env))) := by rfl) :
    PE X (.Call (.Attribute o m apos) [] [] pos) (tMeth C m sp [] E ta tNil) := by
  obtain ⟨f, fd, ps, cl, hm, F, hb⟩ := c.ex
  exact pe_meth0 ho cl hm F (hr.mono hk) hb .nil hx ht
end
/-- a property of the class at C -/
structure Prp (P : Program) (w : World) (K : PySem.W.Frag) (mg : Str → Option Value) (base : Heap) (k : Nat) (C : Addr) (m : Str) (sp : Sp) : Prop where
  ex : ∃ (p g : Addr) (fd : FuncData) (ps : List Str), Cls K C ∧ PropOf K C m p g ∧ FnOk P w K mg base CX0 k g fd ps sp ∧ Binds K fd ps []
def PropI (C : Addr) (sp : Sp) (x : V) (H1 : Hp) (Q : VK) (E : XK) : Prop := ∃ a dx fs, x = .ref a ∧ H1 a = some (.ins C dx fs) ∧ sp (.ref a :: []) H1 Q E
section
variable {X : Cx} {k j : Nat} {C : Addr} {m : Str} {sp : Sp} {E : XK} {pos : Pos} {e : Expr} {ta : TE} {σ : L2.St} {H : Hp} {Q : VK}
theorem ppr (c : Prp X.prog X.w X.K X.mg X.base k C m sp) (hr : Room j X.A) (hk : k + 1 ≤ j) (he : PE X e ta) (hab : attributeBase e m X.env (eval e X.env) = eval e X.env) : PE X (.Attribute e m pos) (tProp C sp [] E0 ta) := by
  obtain ⟨p, g, fd, ps, cl, hp, F, hb⟩ := c.ex
  exact pe_prop he cl hp F (hr.mono hk) hb .nil pass0 hab
theorem w_prop (h : ta σ H fun x H1 => PropI C sp x H1 Q E) : tProp C sp [] E ta σ H Q := h
theorem r_prop {F} {a dx : Addr} {fs : List (Str × V)} (h : H a = some (.ins C dx fs)) (q : F (.ref a) H Q E) : PropI C (sp1 F) (.ref a) H Q E := ⟨a, dx, fs, rfl, h, _, rfl, q⟩
def MethI (C : Addr) (m : Str) (sp : Sp) (E : XK) (t : TA) (σ : L2.St) (x : V) (H1 : Hp) (Q : VK) : Prop := ∃ a dx fs, x = .ref a ∧ H1 a = some (.ins C dx fs) ∧ fs.lookup m = none ∧ t σ H1 fun vs H2 => sp (x :: (vs ++ [])) H2 Q E
theorem w_meth {t : TA} (h : ta σ H fun x H1 => MethI C m sp E t σ x H1 Q) : tMeth C m sp [] E ta t σ H Q := h
theorem r_meth {t : TA} {a dx : Addr} {fs : List (Str × V)} (h : H a = some (.ins C dx fs)) (n : fs.lookup m = none) (q : t σ H fun vs H2 => sp (.ref a :: (vs ++ [])) H2 Q E) : MethI C m sp E t σ (.ref a) H Q := ⟨a, dx, fs, rfl, h, n, q⟩
def MakeI (C : Addr) (sp : Sp) (dvs : List V) (E : XK) (vs : List V) (H1 : Hp) (Q : VK) : Prop := ∀ (x dx : Addr), H1 x = none → H1 dx = none → dx ≠ x → sp (.ref x :: (vs ++ dvs)) (upd (upd H1 dx (.own x)) x (.ins C dx [])) (fun v H2 => v = .non ∧ Q (.ref x) H2) E
theorem w_make {t : TA} {dvs : List V} (h : t σ H fun vs H1 => MakeI C sp dvs E vs H1 Q) : tMake C sp dvs E t σ H Q := h
/-- an instance called -/
structure Cli (P : Program) (w : World) (K : PySem.W.Frag) (mg : Str → Option Value) (base : Heap) (k : Nat) (C : Addr) (sp : Sp) : Prop where
  ex : ∃ (g : Addr) (fd : FuncData) (ps : List Str), StX.CallO K C g ∧ FnOk P w K mg base CX0 k g fd ps sp ∧ Binds K fd ps []
def CallI (C : Addr) (sp : Sp) (E : XK) (t : TA) (σ : L2.St) (y : V) (H1 : Hp) (Q : VK) : Prop := ∃ a, y = V.ref a ∧ t σ H1 fun vs H2 => (∃ dx fs, H2 a = some (.ins C dx fs)) ∧ sp (V.ref a :: vs) H2 Q E
def tCallI (C : Addr) (sp : Sp) (E : XK) (tf : TE) (t : TA) : TE := fun σ H Q => tf σ H fun y H1 => CallI C sp E t σ y H1 Q
end
section
variable {X : Cx} {k j : Nat} {C : Addr} {sp : Sp} {pos : Pos} {fe e : Expr} {es : List Expr} {tf : TE} {t : TA}
theorem pcl (c : Cli X.prog X.w X.K X.mg X.base k C sp) (hr : Room j X.A) (hk : k ≤ j) (hf : PE X fe tf) (ha : PA X (e :: es) t)
    (ht : eval (.Call fe (e :: es) [] pos) X.env = (do callWith pos (← eval fe X.env) [] (backTo pos (starEach (e :: es) X.env)) (backToKw pos (keywordEach [] X.env))) := by rfl)
    (he : starEach (e :: es) X.env = (false, eval e X.env) :: starEach es X.env := by rfl) (hpl : (backTo pos (starEach es X.env)).any (·.1) = false := by rfl) : PE X (.Call fe (e :: es) [] pos) (StX.tCallO X C sp E0 tf t) := by
  obtain ⟨g, fd, ps, co, F, hb⟩ := c.ex
  exact StX.pe_callO hf co ((F.raw hb .nil).imp fun vs H Q E h => by rw [List.append_nil]; exact h) (hr.mono hk) pass0 ha ht he hpl
def CallOI (X : Cx) (C : Addr) (sp : Sp) (t : TA) (σ : L2.St) (y : V) (H1 : Hp) (Q : VK) : Prop := ∃ a, y = V.ref a ∧ t σ H1 fun vs H2 => StX.InsC X H2 a C ∧ sp (V.ref a :: vs) H2 Q E0
variable {σ : L2.St} {H : Hp} {Q : VK}
theorem w_callO (h : tf σ H fun y H1 => CallOI X C sp t σ y H1 Q) : StX.tCallO X C sp E0 tf t σ H Q := h
def CallOJ (X : Cx) (C a : Addr) (sp : Sp) (vs : List V) (H2 : Hp) (Q : VK) : Prop := StX.InsC X H2 a C ∧ sp (V.ref a :: vs) H2 Q E0
theorem w_callOI {a : Addr} (h : t σ H fun vs H2 => CallOJ X C a sp vs H2 Q) : CallOI X C sp t σ (.ref a) H Q := ⟨a, rfl, h⟩
theorem r_callO1 {F} {a dx : Addr} {fs : List (Str × V)} {x : V} (hi : H a = some (.ins C dx fs)) (h : F (.ref a) x H Q E0) : CallOJ X C a (sp2 F) [x] H Q := ⟨.inr ⟨dx, fs, hi⟩, _, _, rfl, h⟩
end
/-! own == : x an instance of the class at C, y any value whose type is known -/
section
variable {X : Cx} {n : Nat} {C : Addr} {sp : Sp}
def rOwnEq (K : PySem.W.Frag) (C : Addr) (sp : Sp) : R2 := fun x y H Q => ∃ a dx fs t, x = .ref a ∧ H a = some (.ins C dx fs) ∧ TyX K H y t ∧ PySem.W.notFirst K C t = true ∧ sp [x, y] H (fun v H' => (∃ b, v = .bl b) ∧ Q v H') E0
end
section
variable {X : Cx} {n : Nat} {C : Addr} {sp : Sp}
/-- what == needs of the class at C -/
structure EqOf (P : Program) (w : World) (K : PySem.W.Frag) (mg : Str → Option Value) (base : Heap) (k : Nat) (C : Addr) (sp : Sp) : Prop where
  ex : ∃ (g : Addr) (fd : FuncData) (ps : List Str), PySem.W.findIn K (.ref C) "__eq__" = some (some (.ref g)) ∧ PySem.W.isFn K (.ref g) = true ∧ FnOk P w K mg base CX0 k g fd ps sp ∧ Binds K fd ps []
theorem op_ownEq {j : Nat} (c : EqOf X.prog X.w X.K X.mg X.base n C sp) (hr : Room j X.A) (hn : n ≤ j) : OpR X (compareOp .Eq) (rOwnEq X.K C sp) := by
  obtain ⟨g, fd, ps, hs, hf, F, hb⟩ := c.ex
  intro pins s σ H x y v u Q I rx ry h
  obtain ⟨a, dx, fs, t, rfl, ha, ty, hnf, q⟩ := h
  cases (show v = Value.ref a from rx)
  obtain ⟨mA, O, _⟩ := ins_get I.hok ha
  obtain ⟨od, J, _⟩ := O.look
  obtain ⟨m, hF⟩ := I.fr
  obtain ⟨Pk, kit, hk, _⟩ := kit_of I ry ty
  show wpAny _ _ (richCompare .Eq (.ref a) u) _ _ _
  refine PySem.W.cmp_K (op := .Eq) (tb := t) (hr.mono hn).units0 hF I.ok.mod.kin J (kit.ty _ _ I.kIn hk) hnf hs hf ?_
  refine wpAny_mono (run_fn (us := [.ref a, u]) (vs := [.ref a, y]) (dvs := []) (ds := []) F (hr.mono hn) hb .nil pass0 I (.cons rfl (.cons ry .nil)) q) (fun z s' hz => ?_) fun _ _ x => x
  obtain ⟨zv, H', I', rz, ⟨b, hb⟩, qz⟩ := hz
  subst hb
  cases (show z = Value.bool b from rz)
  exact ⟨.bl b, H', I', rfl, qz⟩
def rEqO (K : PySem.W.Frag) (C : Addr) (sp : Sp) : R2 := fun x y H Q => rEqU K x y H Q ∨ rOwnEq K C sp x y H Q
theorem kEqO (K : PySem.W.Frag) {j : Nat} (c : EqOf X.prog X.w X.K X.mg X.base n C sp) (hr : Room j X.A) (hn : n ≤ j) (h : X.K = K := by rfl) : OpR X (compareOp .Eq) (rEqO K C sp) := by subst h; exact (xEq hr).or (op_ownEq c hr hn)
end
section
variable {K : PySem.W.Frag} {C : Addr} {sp : Sp} {H : Hp} {Q : VK} {x y : V}
theorem w_eqO (h : rEqU K x y H Q) : rEqO K C sp x y H Q := .inl h
theorem r_ownEq {F} {a dx : Addr} {fs : List (Str × V)} {t : Value} (ha : H a = some (.ins C dx fs)) (ty : TyX K H y t) (hn : PySem.W.notFirst K C t = true) (q : F (.ref a) y H (fun v H' => (∃ b, v = .bl b) ∧ Q v H') E0) : rEqO K C (sp2 F) (.ref a) y H Q :=
  .inr ⟨a, dx, fs, t, rfl, ha, ty, hn, _, _, rfl, q⟩
end
end M

/-! ### part H: the head's facts, functions by any address -/
namespace M
open PySem PySem.Spec PyProof.Rows L2 Evl
/-- a def: where its function stands -/
structure DX where
  adr : PySem.W.Frag → Addr
  name : Str
  qual : Str
  params : Arguments
  body : List Stmt
  scope : Scope
  dfl : List He.Dv := []
  clo : Bool := false
/-- the parts of a function; of a closure the names alone -/
def fnA (K : PySem.W.Frag) (a : Addr) (c : Bool) : He.FnW := match K.lookup a with
  | some ⟨_, _, .func q, _⟩ => some (q.name, q.qualname, q.params, q.body, q.scope, q.globals, (if c = true then q.closure.map fun p => (p.1, 0) else q.closure), q.builtins)
  | _ => none
def DX.val (d : DX) : He.FnW := some (d.name, d.qual, d.params, .stmts d.body, d.scope, mainGlobals, (if d.clo = true then [("__class__", 0)] else []), builtinsNs)
def DX.dvs (K : PySem.W.Frag) (d : DX) : List V := d.dfl.map (He.Dv.v K)
def DX.ok (K : PySem.W.Frag) (d : DX) : Bool := PySem.W.keepIn K (.ref (d.adr K)) && (match K.lookup (d.adr K) with
  | some ⟨_, _, .func q, _⟩ => PySem.W.codeIn K q.code d.qual && He.dflB K q.defaults (d.dvs K)
  | _ => false)
theorem DX.fun_ {K : PySem.W.Frag} {d : DX} (n : d.clo = false) (e : fnA K (d.adr K) d.clo = d.val) (c : d.ok K = true) : ∃ fd, FunD K d.name d.qual d.params d.body d.scope (d.dvs K) [] (d.adr K) fd := by
  have c0 := Bool.and_eq_true_iff.mp c
  have c1 := c0.2
  unfold fnA DX.val at e
  rw [n] at e
  simp only [Bool.false_eq_true, if_false] at e
  cases q : K.lookup (d.adr K) with
  | none => rw [q] at c1; cases c1
  | some o =>
    obtain ⟨oc, od, dt, osl⟩ := o
    rw [q] at c1 e
    cases dt with
    | func fd =>
      obtain ⟨m1, m2, m3, m4, m5, m6, m7, m8, m9, m10, m11, m12, m13, m14, m15⟩ := fd
      have e2 : (some (m1, m2, m3, m4, m5, m6, m7, m15) : He.FnW) = some (d.name, d.qual, d.params, .stmts d.body, d.scope, mainGlobals, [], builtinsNs) := e
      simp only [Option.some.injEq, Prod.mk.injEq] at e2
      obtain ⟨g1, g2, g3, g4, g5, g6, g7, g8⟩ := e2
      subst g1 g2 g3 g4 g5 g6 g7 g8
      have c2 := Bool.and_eq_true_iff.mp (show (PySem.W.codeIn K m13 d.qual && He.dflB K m8 (d.dvs K)) = true from c1)
      exact ⟨_, ⟨oc, od, m8, m9, m10, m11, m12, m13, m14, osl, rfl, q, c2.1, He.dflB_ok c2.2, .inl rfl⟩, c0.1⟩
    | _ => cases c1
/-- a def that names super(), as it stands -/
structure FunS (K : PySem.W.Frag) (x qual : Str) (params : Arguments) (body : List Stmt) (scope : Scope) (f : Addr) (fd : FuncData) (cc cda : Addr) : Prop where
  ex : ∃ (oc : Value) (od : Option Addr) (dV kV doc pm : Value) (an : Option Addr) (ct : Value) (osl : Array (Option Value)),
    fd = PySem.W.ksFn x qual params body scope dV kV doc pm an (.ref cda) ct cc ∧ K.lookup f = some ⟨oc, od, .func fd, osl⟩ ∧ PySem.W.codeIn K (.ref cda) qual = true ∧ DflV K dV []
  kp : PySem.W.keepIn K (.ref f) = true
def cellOf (K : PySem.W.Frag) (a : Addr) : Addr := match K.lookup a with
  | some ⟨_, _, .func q, _⟩ => (match q.closure with
    | (_, c) :: _ => c
    | _ => 0)
  | _ => 0
def codeOf (K : PySem.W.Frag) (a : Addr) : Addr := match K.lookup a with
  | some ⟨_, _, .func q, _⟩ => (match q.code with
    | .ref c => c
    | _ => 0)
  | _ => 0
theorem DX.funS_ {K : PySem.W.Frag} {d : DX} (n : d.clo = true) (nd : d.dvs K = []) (e : fnA K (d.adr K) d.clo = d.val) (c : d.ok K = true) : ∃ fd, FunS K d.name d.qual d.params d.body d.scope (d.adr K) fd (cellOf K (d.adr K)) (codeOf K (d.adr K)) := by
  have c0 := Bool.and_eq_true_iff.mp c
  have c1 := c0.2
  unfold fnA DX.val at e
  rw [n] at e
  simp only [if_true] at e
  unfold cellOf codeOf
  cases q : K.lookup (d.adr K) with
  | none => rw [q] at c1; cases c1
  | some o =>
    obtain ⟨oc, od, dt, osl⟩ := o
    rw [q] at c1 e
    cases dt with
    | func fd =>
      obtain ⟨m1, m2, m3, m4, m5, m6, m7, m8, m9, m10, m11, m12, m13, m14, m15⟩ := fd
      have e2 : (some (m1, m2, m3, m4, m5, m6, (m7.map fun p => ((p.1, 0) : Str × Addr)), m15) : He.FnW) = (some (d.name, d.qual, d.params, FuncBody.stmts d.body, d.scope, mainGlobals, [(("__class__" : Str), (0 : Addr))], builtinsNs) : He.FnW) := e
      simp only [Option.some.injEq, Prod.mk.injEq] at e2
      obtain ⟨g1, g2, g3, g4, g5, g6, g7, g8⟩ := e2
      have c2 := Bool.and_eq_true_iff.mp (show (PySem.W.codeIn K m13 d.qual && He.dflB K m8 (d.dvs K)) = true from c1)
      obtain ⟨cda, rfl⟩ : ∃ c, m13 = .ref c := by
        have := c2.1
        unfold PySem.W.codeIn at this
        split at this
        · exact ⟨_, rfl⟩
        · cases this
      have h7 : ∃ c, m7 = [(("__class__" : Str), c)] := by
        rcases m7 with _ | ⟨⟨z1, z2⟩, _ | ⟨y, m7⟩⟩
        · exact absurd (congrArg List.length g7) (by simp)
        · have g8 : z1 = ("__class__" : Str) := congrArg Prod.fst (List.cons.inj g7).1
          exact ⟨z2, by rw [g8]⟩
        · exact absurd (congrArg List.length g7) (by simp)
      obtain ⟨z2, h7⟩ := h7
      subst g1 g2 g3 g4 g5 g6 g8 h7
      have dd := He.dflB_ok c2.2
      rw [nd] at dd
      exact ⟨_, ⟨oc, od, m8, m9, m10, m11, m12, m14, osl, rfl, q, c2.1, dd⟩, c0.1⟩
    | _ => cases c1
abbrev AlM : Type := Bool × List He.FnW
def obsM (fa : List He.Fa) (fn : List DX) (ex : PySem.W.Frag → Bool) (K : PySem.W.Frag) : AlM := ((fa.all fun f => f.ok K) && ((fn.all fun d => d.ok K) && ex K), fn.map fun d => fnA K (d.adr K) d.clo)
def valM (fn : List DX) : AlM := (true, fn.map DX.val)
def SaysM (fa : List He.Fa) (fn : List DX) (ex : PySem.W.Frag → Bool) (K : PySem.W.Frag) : Prop := obsM fa fn ex K = valM fn
/-- the cells of closures, too, and the table of the statics -/
def asX (g : Addr → Option Obj) (n : Nat) : List Addr := cStatics :: (He.asD g n ++ (He.asD g n).flatMap fun a => match g a with
  | some ⟨_, _, .func q, _⟩ => q.closure.map fun p => p.2
  | _ => [])
def obsMG (n : Nat) (fa : List He.Fa) (fn : List DX) (ex : PySem.W.Frag → Bool) (g : Addr → Option Obj) : AlM := obsM fa fn ex (He.frG g (asX g n))
def hookM (n : Nat) (fa : List He.Fa) (fn : List DX) (ex : PySem.W.Frag → Bool) : PySem.W.Hook where
  α := AlM
  obs := fun s => obsMG n fa fn ex s.heap.get?
  val := fun _ => valM fn
  says := fun _ h => ∃ K : PySem.W.Frag, K.In h ∧ SaysM fa fn ex K
  of := fun _ _ e => ⟨_, He.frG_in, e⟩
  keeps := fun _ _ _ ⟨K, hK, c⟩ k => ⟨K, PySem.W.Frag.In.keeps hK k, c⟩
theorem obsMG_eq {n : Nat} {fa : List He.Fa} {fn : List DX} {ex : PySem.W.Frag → Bool} {g : Addr → Option Obj} {s : Shared} (h : ∀ a, g a = s.heap.get? a) : obsMG n fa fn ex g = (hookM n fa fn ex).obs s := by
  rw [show g = s.heap.get? from funext h] <;> rfl
section
variable {fa : List He.Fa} {fn : List DX} {ex : PySem.W.Frag → Bool} {K : PySem.W.Frag}
theorem SaysM.fact (c : SaysM fa fn ex K) (i : Nat) {f : He.Fa} (h : fa[i]? = some f := by rfl) : f.ok K = true :=
  List.all_eq_true.mp (Bool.and_eq_true_iff.mp (show ((fa.all fun f => f.ok K) && ((fn.all fun d => d.ok K) && ex K)) = true from congrArg Prod.fst c)).1 f (List.mem_of_getElem? h)
theorem SaysM.more (c : SaysM fa fn ex K) : ex K = true :=
  (Bool.and_eq_true_iff.mp (Bool.and_eq_true_iff.mp (show ((fa.all fun f => f.ok K) && ((fn.all fun d => d.ok K) && ex K)) = true from congrArg Prod.fst c)).2).2
theorem SaysM.look (c : SaysM fa fn ex K) (i : Nat) {d : DX} (h : fn[i]? = some d := by rfl) : fnA K (d.adr K) d.clo = d.val ∧ d.ok K = true := by
  have c2 := (Bool.and_eq_true_iff.mp (Bool.and_eq_true_iff.mp (show ((fa.all fun f => f.ok K) && ((fn.all fun d => d.ok K) && ex K)) = true from congrArg Prod.fst c)).2).1
  have e : fn.map (fun d => fnA K (d.adr K) d.clo) = fn.map DX.val := congrArg Prod.snd c
  have e2 : (fn.map fun d => fnA K (d.adr K) d.clo)[i]? = (fn.map DX.val)[i]? := by rw [e]
  rw [List.getElem?_map, List.getElem?_map, h] at e2
  exact ⟨Option.some.inj e2, List.all_eq_true.mp c2 d (List.mem_of_getElem? h)⟩
theorem SaysM.def_ (c : SaysM fa fn ex K) (i : Nat) {d : DX} (h : fn[i]? = some d := by rfl) (n : d.clo = false := by rfl) : ∃ fd, FunD K d.name d.qual d.params d.body d.scope (d.dvs K) [] (d.adr K) fd :=
  let ⟨e, c2⟩ := c.look i h
  DX.fun_ n e c2
theorem SaysM.defS (c : SaysM fa fn ex K) (i : Nat) {d : DX} (h : fn[i]? = some d := by rfl) (n : d.clo = true := by rfl) (nd : d.dvs K = [] := by rfl) : ∃ fd, FunS K d.name d.qual d.params d.body d.scope (d.adr K) fd (cellOf K (d.adr K)) (codeOf K (d.adr K)) :=
  let ⟨e, c2⟩ := c.look i h
  DX.funS_ n nd e c2
end
/-! facts beyond He.Fa, told by a Bool -/
/-- the property m of the class x: its object, its getter -/
def prA (x m : Str) (K : PySem.W.Frag) : Addr := He.ma K (He.ga K x) m
def prG (x m : Str) (K : PySem.W.Frag) : Addr := match PySem.W.recIn K (prA x m K) "property" with
  | some (.ref g :: _) => g
  | _ => 0
def propB (x m : Str) (K : PySem.W.Frag) : Bool := decide (PySem.W.findIn K (.ref (He.ga K x)) m = some (some (.ref (prA x m K)))) && (decide (PySem.W.specialIn K (.ref (prA x m K)) "__get__" = some (some (.builtin "property.__get__"))) &&
  (decide (PySem.W.takesIn K (.ref (prA x m K)) = some true) && (match PySem.W.recIn K (prA x m K) "property" with
    | some (.ref g :: _) => true
    | _ => false)))
theorem propB_ok {x m : Str} {K : PySem.W.Frag} (h : propB x m K = true) : PropOf K (He.ga K x) m (prA x m K) (prG x m K) := by
  obtain ⟨h1, h⟩ := Bool.and_eq_true_iff.mp h
  obtain ⟨h2, h⟩ := Bool.and_eq_true_iff.mp h
  obtain ⟨h3, h⟩ := Bool.and_eq_true_iff.mp h
  refine ⟨of_decide_eq_true h1, of_decide_eq_true h2, of_decide_eq_true h3, ?_⟩
  unfold prG
  split at h
  · rename_i g r e
    rw [e]
    exact ⟨_, rfl⟩
  · cases h
/-- an empty tuple stands at an address of the written part -/
def tup0B (K : PySem.W.Frag) (a : Addr) : Bool := match K.lookup a with
  | some ⟨.type c, _, .seq its _, _⟩ => decide (c = "tuple") && decide (its.size = 0)
  | _ => false
theorem tup0B_ok {K : PySem.W.Frag} {a : Addr} (h : tup0B K a = true) (H : Hp) : SqT K H a [] := by
  unfold tup0B at h
  split at h
  · rename_i c od its n sl e
    obtain ⟨h1, h2⟩ := Bool.and_eq_true_iff.mp h
    have h3 : its = #[] := Array.eq_empty_of_size_eq_zero (of_decide_eq_true h2)
    subst h3
    exact .inr ⟨_, #[], n, e, congrArg Value.type (of_decide_eq_true h1), rfl, by decide, .nil⟩
  · cases h
/-- an instance of the class may be called -/
def callB (x : Str) (K : PySem.W.Frag) : Bool := decide (PySem.W.findIn K (.ref (He.ga K x)) "__call__" = some (some (.ref (He.ma K (He.ga K x) "__call__")))) && (PySem.W.isFn K (.ref (He.ma K (He.ga K x) "__call__")) && PySem.W.fnIn K (He.ma K (He.ga K x) "__call__"))
theorem callB_ok {x : Str} {K : PySem.W.Frag} (h : callB x K = true) : StX.CallO K (He.ga K x) (He.ma K (He.ga K x) "__call__") := by
  obtain ⟨h1, h⟩ := Bool.and_eq_true_iff.mp h
  obtain ⟨h2, h3⟩ := Bool.and_eq_true_iff.mp h
  exact ⟨of_decide_eq_true h1, h2, h3⟩
/-- the class of an instance, for isinstance and ==: what TyOf asks -/
def insB (x : Str) (K : PySem.W.Frag) : Bool := decide (PySem.W.findIn K (.ref (He.ga K x)) "__class__" = some (some (.builtin "object.__class__"))) && (decide (PySem.W.specialIn K (.builtin "object.__class__") "__get__" = some (some (.builtin "getset_descriptor.__get__"))) &&
  (decide (PySem.W.takesIn K (.builtin "object.__class__") = some true) && decide (PySem.W.mroIn K (He.ga K x) (.type "object") = some true)))
theorem insB_ok {x : Str} {K : PySem.W.Frag} (h : insB x K = true) (c : Cls K (He.ga K x)) {H : Hp} {a dx : Addr} {fs : List (Str × V)} (e : H a = some (.ins (He.ga K x) dx fs)) : TyX K H (.ref a) (.ref (He.ga K x)) := by
  obtain ⟨h1, h⟩ := Bool.and_eq_true_iff.mp h
  obtain ⟨h2, h⟩ := Bool.and_eq_true_iff.mp h
  obtain ⟨h3, h4⟩ := Bool.and_eq_true_iff.mp h
  exact .base (.ins e c (of_decide_eq_true h1) (of_decide_eq_true h2) (of_decide_eq_true h3) (of_decide_eq_true h4))
/-- isinstance's answers of the class, == of others -/
def kitB (x : Str) (n : String) (b : Bool) (K : PySem.W.Frag) : Bool := decide (PySem.W.kitOne K (.type n) (.ref (He.ga K x)) = some b)
def kitSB (x : Str) (K : PySem.W.Frag) : Bool := decide (PySem.W.kitOne K (.ref (He.ga K x)) (.ref (He.ga K x)) = some true)
def nfB (x : Str) (n : String) (K : PySem.W.Frag) : Bool := PySem.W.notFirst K (He.ga K x) (.type n)
end M

/-! ### part I: a source of draws; frames -/
namespace M
open PySem PySem.Spec PyProof.Rows L2 Evl
/-- all but what stands at a is as it was -/
def Fr (a : Addr) (H H' : Hp) : Prop := ∀ b o, b ≠ a → H b = some o → H' b = some o
theorem Fr.refl (a : Addr) (H : Hp) : Fr a H H := fun _ _ _ h => h
theorem Fr.trans {a : Addr} {H H1 H2 : Hp} (x : Fr a H H1) (y : Fr a H1 H2) : Fr a H H2 := fun b o n h => y b o n (x b o n h)
theorem Fr.of {a : Addr} {H H' : Hp} (e : Ex H H') : Fr a H H' := fun b o _ h => e b o h
theorem Fr.upd {a : Addr} {H : Hp} {o : HO} : Fr a H (upd H a o) := fun b o n h => by rw [upd_ne n]; exact h
/-- a list of three: the digits that are left, the seed, the count -/
def SrcAt (H : Hp) (a : Addr) : Prop := ∃ d s c : Int, H a = some (.lst [.int d, .int s, .int c]) ∧ 0 ≤ d ∧ 0 ≤ s ∧ s < 2147483629 ∧ 0 ≤ c
theorem SrcAt.ex {H H' : Hp} {a : Addr} (e : Ex H H') (h : SrcAt H a) : SrcAt H' a := by
  obtain ⟨d, s, c, h1, h2⟩ := h
  exact ⟨d, s, c, e _ _ h1, h2⟩
theorem SrcAt.ne {H : Hp} {a b : Addr} (h : SrcAt H a) (n : H b = none) : b ≠ a := by
  obtain ⟨d, s, c, h1, _⟩ := h
  rintro rfl
  rw [n] at h1; cases h1
/-- a change of the source alone leaves the tuples -/
theorem Fr.tex {a : Addr} {H H' : Hp} (f : Fr a H H') (h : SrcAt H a) : TEx H H' := fun b xs q => by
  obtain ⟨d, s, c, h1, _⟩ := h
  have hb : b ≠ a := by
    rintro rfl
    rcases q with q | ⟨o', q⟩ <;> rw [h1] at q <;> cases q
  rcases q with q | ⟨o', q⟩
  · exact .inl (f b _ hb q)
  · exact .inr ⟨o', f b _ hb q⟩
theorem fr_t {K : PySem.W.Frag} {a b : Addr} {H H' : Hp} {xs : List V} (f : Fr a H H') (h : SrcAt H a) (s : SqT K H b xs) : SqT K H' b xs := tex_t (f.tex h) s
theorem fr_dp {K : PySem.W.Frag} {a : Addr} {H H' : Hp} {v : V} {d : PyData} (f : Fr a H H') (h : SrcAt H a) (hi : imm d = true) (s : Dp K H v d) : Dp K H' v d := dp_tex (f.tex h) hi s
section
variable {H : Hp} {v : V}
theorem r_set {p : Addr} {xs : List V} {k : Int} {j : Nat} {R : Hp → Prop} (h : H p = some (.lst xs)) (hj : ixN xs.length k = some j) (q : R (upd H p (.lst (xs.set j v)))) : rSetL (.ref p) (.int k) v H R := ⟨p, xs, k, j, rfl, rfl, h, hj, q⟩
theorem r_app {K : PySem.W.Frag} {p : Addr} {xs : List V} {Q : VK} (h : H p = some (.lst xs)) (hz : xs.length < sizeLine) (q : Q .non (upd H p (.lst (xs ++ [v])))) : rAppend (.ref p) [v] H Q := ⟨p, xs, v, rfl, rfl, h, hz, q⟩
end
/-- a built-in method of a list: its receiver stands -/
def BmI (K : PySem.W.Frag) (T : String) (r : V → List V → Hp → VK → Prop) (t : TA) (σ : L2.St) (x : V) (H1 : Hp) (Q : VK) : Prop := tyV K T x H1 ∧ t σ H1 fun xs H2 => r x xs H2 Q
theorem w_bm {K : PySem.W.Frag} {T : String} {r : V → List V → Hp → VK → Prop} {to : TE} {t : TA} {σ : L2.St} {H : Hp} {Q : VK} (h : to σ H fun x H1 => BmI K T r t σ x H1 Q) : tBM K T r to t σ H Q := h
theorem r_bmL {K : PySem.W.Frag} {r : V → List V → Hp → VK → Prop} {t : TA} {σ : L2.St} {p : Addr} {xs : List V} {H : Hp} {Q : VK} (h : SqL K H p xs) (q : t σ H fun vs H2 => r (.ref p) vs H2 Q) : BmI K "list" r t σ (.ref p) H Q := ⟨.inl ⟨rfl, xs, h⟩, q⟩
section
variable {H : Hp} {Q : VK}
theorem r_shr {i j : Int} (h0 : 0 ≤ j) (h : Q (.int (i / 2 ^ j.toNat)) H) : rShr (.int i) (.int j) H Q := ⟨i, j, rfl, rfl, h0, h⟩
theorem r_shl {i j : Int} (hc : CShl i j) (h : Q (.int (i * 2 ^ j.toNat)) H) : rShl (.int i) (.int j) H Q := ⟨i, j, rfl, rfl, hc, h⟩
theorem r_pow {i j : Int} (hc : CPow i j) (h : Q (.int (i ^ j.toNat)) H) : rPow (.int i) (.int j) H Q := ⟨i, j, rfl, rfl, hc, h⟩
end
end M

/-! ### part J: a def whose last statement is super().__init__(..) -/
namespace M
open PySem PySem.Spec PyProof.Rows L2 Evl
namespace MS
open NdefX ClX
theorem execs_app (a b : List Stmt) (env : Env) : execs (a ++ b) env = (do match ← execs a env with | .next => execs b env | f => pure f) := by
  induction a with
  | nil => rw [List.nil_append, execs_nil, pure_bind]
  | cons st a ih =>
    rw [List.cons_append, execs_cons, execs_cons, bind_assoc]
    congr 1
    funext f
    cases f with
    | next => exact ih
    | _ => rw [pure_bind]
/-- what super().__init__ needs of the text: the class at D, its cell cc, the code object cda, the next __init__ at f2 -/
structure SupOf (P : Program) (K : PySem.W.Frag) (mg : Str → Option Value) (D cc cda f2 : Addr) : Prop where
  cell : ∃ cl cld csl, K.lookup cc = some ⟨cl, cld, .cell (some (.ref D)), csl⟩
  cls : ∃ cd, PySem.W.clsIn K D = some cd
  sub : PySem.W.mroIn K D (.ref D) = some true
  code : ∃ ccl cdd vs ccs file tf, K.lookup cda = some ⟨ccl, cdd, .fields vs, ccs⟩ ∧ vs[2]? = some (.str file tf) ∧ ((P.main.file : Str) == file) = true
  gl : mg "super" = none
  any : PySem.W.nsIn K cStatics "thirdparty.any" = some none
  nx : PySem.W.ks_superIn K D D "__init__" = some (some (.ref f2))
  ty : PySem.W.typeIn K (.ref f2) = some (.type "function")
  fi : PySem.W.fnIn K f2 = true
  top : (P.main.scope.names.lookup ("super" : Str)).isSome = false
section
variable {X : Cx} {pins : List (Addr × Obj)} {σ : L2.St} {H : Hp} {s : Shared} {D cc cda f f2 x dx : Addr} {fs : List (Str × V)} {sp2 : Sp} {k2 : Nat} {R : Hp → Prop}
theorem super_stmt {pl : Sem Bool} {ta : TE} {body : List Stmt} {p0 p1 p2 p3 p4 : Pos} {arg : Expr} {fd : FuncData} {of : Obj} {ar : Arg} (U : SupOf X.prog X.K X.mg D cc cda f2) (F2 : FnR X.prog X.w X.K X.mg X.base CX0 k2 f2 sp2) (hr : Room k2 X.A)
    (hks : X.env.kindOf "super" = some .globalImplicit) (hkc : X.env.kindOf "__class__" = some .free) (hfu : X.env.func = some f) (hf : X.K.lookup f = some of) (hfd : of.data = .func fd)
    (hp : (fd.params.posonlyargs ++ fd.params.args).head? = some ar) (har : X.env.scope.names.lookup ar.arg = some .local) (hN : X.N[0]? = some ar.arg) (hco : X.env.code = .ref cda) (hcl : X.env.cells.lookup ("__class__" : Str) = some cc)
    (ha : PE X arg ta) (I : Inv X pins σ H s) (hσ : σ[0]? = some (some (.ref x))) (hx : H x = some (.ins D dx fs))
    (h : ta σ H fun v H2 => sp2 [.ref x, v] H2 (fun _ H3 => R H3) E0)
    (he : starEach [arg] X.env = (false, eval arg X.env) :: starEach [] X.env := by rfl) (hpl : (backTo p3 (starEach ([] : List Expr) X.env)).any (·.1) = false := by rfl)
    (ht : eval (.Call (.Attribute (.Call (.Name "super" p0) [] [] p1) "__init__" p2) [arg] [] p3) X.env = (do
      let ov ← attributeBase (.Call (.Name "super" p0) [] [] p1) "__init__" X.env (eval (.Call (.Name "super" p0) [] [] p1) X.env)
      standAt p2.atName
      let (f, first) ← holding [ov] (getMethod ov "__init__" pl)
      callWith p3 f first (backTo p3 (starEach [arg] X.env)) []) := by rfl)
    (hi : interactive X.env = false := by rfl) (hs : swapsWith (.Call (.Attribute (.Call (.Name "super" p0) [] [] p1) "__init__" p2) [arg] [] p3) none p4.line X.env = pure false := by rfl) :
    PySem.wpAt (model X.prog X.w) X.A (.func body X.env) (exec (.Expr (.Call (.Attribute (.Call (.Name "super" p0) [] [] p1) "__init__" p2) [arg] [] p3) p4) X.env) (fun fl s' => fl = .next ∧ ∃ H', Inv X pins σ H' s' ∧ R H') X.xe s := by
  obtain ⟨cl, cld, csl, hcell⟩ := U.cell
  obtain ⟨cd, hD⟩ := U.cls
  obtain ⟨ccl, cdd, vs, ccs, file, tf, hcode, hvs, hfile⟩ := U.code
  have KX := I.kIn
  obtain ⟨oD, hD1, hD2⟩ : ∃ oD, s.heap.get? D = some oD ∧ oD.data = .cls cd := by
    have hD' := hD
    unfold PySem.W.clsIn at hD'
    split at hD'
    · rename_i c d cd' sl ho
      cases hD'
      exact ⟨_, KX _ _ ho, rfl⟩
    · cases hD'
  obtain ⟨mA, O, _⟩ := ins_get I.hok hx
  obtain ⟨od, J, _⟩ := O.look
  refine ks_wpAt_Expr_any ?_ hi hs
  refine ks_wpAt_MethodCall (pl := pl) ?_ ht
  refine ks_wpAt_super_base (env := X.env) hks hkc rfl hfu (KX _ _ hf) hfd hp hco (KX _ _ hcode) rfl hvs hfile U.top ?_
  obtain ⟨mb, h1, h2⟩ := I.mod.blt
  refine PySem.W.ks_loadName_global I.ok.kind hks (Calls.loadGlobal_builtin (by rw [I.ok.glob]; exact I.mod.glob.keeps I.bk) U.gl (by rw [I.ok.blt]; exact h1.keeps I.bk) ((h2 "super" (by decide)).trans (by decide +kernel)) ⟨rfl, ?_⟩)
  refine wpAny_loadName_free I.ok.kind hkc hcl ⟨_, KX _ _ hcell, rfl⟩ ?_
  obtain ⟨m, hn, hl⟩ := id I.loc
  obtain ⟨u, ru, lo⟩ := hl 0 ar.arg (.ref x) hN hσ (.inl har)
  cases (show u = Value.ref x from ru)
  have hm : m ar.arg = some (.ref x) := by
    rcases lo with ⟨_, hm⟩ | ⟨hk, _⟩
    · exact hm
    · rcases hk with hk | hk
      · have : X.env.scope.names.lookup ar.arg = some .cell := hk
        rw [har] at this; cases this
      · have : X.env.scope.names.lookup ar.arg = some .free := hk
        rw [har] at this; cases this
  refine wpAny_loadName_local I.ok.kind har hn hm ?_
  refine ks_wpAny_isType_cls hD1 hD2 ⟨rfl, ?_⟩
  obtain ⟨hh, g, d, t, os⟩ := s
  refine ks_wpAny_call_super hD1 hD2 J.at_ J.cls (fun c e => ?_) (PySem.W.looks_mroIn KX U.sub) (fun h' e k => ?_)
  · have := J.no
    unfold PySem.W.notCls at this
    rw [e] at this
    exact Bool.noConfusion this
  have I1 := pin_new (t' := t) I k (Nat.le_refl _) e (fun v z => by cases z)
  have KX1 := I1.kIn
  have hnx := U.nx
  unfold PySem.W.ks_superIn at hnx
  rw [hD] at hnx
  obtain ⟨of2, hof, hofc⟩ : ∃ of, h'.get? f2 = some of ∧ of.cls = .type "function" := by
    have ht' : (X.K.lookup f2).map (·.cls) = some (.type "function") := U.ty
    cases z : X.K.lookup f2 with
    | none => rw [z] at ht'; cases ht'
    | some of => rw [z] at ht'; exact ⟨of, KX1 _ _ z, Option.some.inj ht'⟩
  refine ks_wpAny_getMethod_super (l₀ := cd.mro) e (PySem.W.looks_opaque KX1 U.any) ?_ rfl KX1 hnx hof hofc (PySem.W.ks_ne KX J hD) (by decide) ?_
  · exact fun A Q E s k q => wpAny_bind ((PySem.W.looks_clsIn KX1 hD) A _ E s k (wpAny_pure q))
  have I2 := met_new (g := f2) (C := x) I1
  have h' : tCons ta tNil σ H (fun vs H2 => sp2 (.ref x :: vs) H2 (fun _ H3 => R H3) E0) := h
  refine callwith_cm I2 (base_none I1 (Nat.le_refl _)) U.fi (thn ((pa_cons ha pa_nil he).run p3 _ _ σ H _ I2 h') fun us s3 ⟨vs', H2, I3, rv, q2⟩ => ⟨⟨pin_at I3, I3.kIn⟩, ?_⟩) he hpl
  refine thn (run_cm F2 hr pass0 I3 rv q2) fun u s4 ⟨w, H3, I4, _, q3⟩ => ⟨rfl, H3, unpin I4, q3⟩
end
/-- a def whose last statement is super().__init__(arg) keeps its promise -/
theorem fnsup {P : Program} {w : World} {K : PySem.W.Frag} {mg : Str → Option Value} {base : Heap} {name qual self : Str} {params : Arguments} {body pre : List Stmt} {scope : Scope} {f cc cda D f2 : Addr} {fd : FuncData} {N ps : List Str} {k k2 : Nat} {sp sp2 : Sp} {arg : Expr} {p0 p1 p2 p3 p4 : Pos} {ar : Arg}
    (F : FunS K name qual params body scope f fd cc cda) (U : SupOf P K mg D cc cda f2) (F2 : FnR P w K mg base CX0 k2 f2 sp2) (hk : k2 ≤ k)
    (hbody : body = pre ++ [.Expr (.Call (.Attribute (.Call (.Name "super" p0) [] [] p1) "__init__" p2) [arg] [] p3) p4])
    (S : NScope N (self :: ps) ["__class__"] scope) (hks : scope.names.lookup ("super" : Str) = some .globalImplicit)
    (hp : (params.posonlyargs ++ params.args).head? = some ar) (hs : ar.arg = self) (hN : N[0]? = some self)
    (len : ∀ vs H Q E, sp vs H Q E → vs.length = (self :: ps).length)
    (hgo : ∀ (A : Around) (outer : List Env) (s : Shared) (H : Hp) (vs : List V) (Q : VK) (E : XK), Room k (A.deeper (envF ⟨name, qual, params, body, scope, [("__class__", cc)], cda⟩ f s.heap.objs.size)) → sp vs H Q E →
      ∃ t ta, PSs (ncx CX0 P w K mg base N ⟨name, qual, params, body, scope, [("__class__", cc)], cda⟩ f A outer s H E).nox pre t ∧ PE (ncx CX0 P w K mg base N ⟨name, qual, params, body, scope, [("__class__", cc)], cda⟩ f A outer s H E).nox arg ta ∧
        t { nx := fun σ H' => ∃ x dx fs, σ[0]? = some (some (.ref x)) ∧ H' x = some (.ins D dx fs) ∧ ta σ H' fun v H2 => sp2 [.ref x, v] H2 (fun _ H3 => Q .non H3) E0, rt := fun _ _ => False } (startF N vs [some (.ref D)]) H)
    (hst : ∀ (X : Cx), starEach [arg] X.env = (false, eval arg X.env) :: starEach [] X.env := by intro _; rfl) (hpl : ∀ (X : Cx), (backTo p3 (starEach ([] : List Expr) X.env)).any (·.1) = false := by intro _; rfl)
    {pl : Cx → Sem Bool}
    (ht : ∀ (X : Cx), eval (.Call (.Attribute (.Call (.Name "super" p0) [] [] p1) "__init__" p2) [arg] [] p3) X.env = (do
      let ov ← attributeBase (.Call (.Name "super" p0) [] [] p1) "__init__" X.env (eval (.Call (.Name "super" p0) [] [] p1) X.env)
      standAt p2.atName
      let (f, first) ← holding [ov] (getMethod ov "__init__" (pl X))
      callWith p3 f first (backTo p3 (starEach [arg] X.env)) []) := by intro _; rfl)
    (hsw : ∀ (X : Cx), swapsWith (.Call (.Attribute (.Call (.Name "super" p0) [] [] p1) "__init__" p2) [arg] [] p3) none p4.line X.env = pure false := by intro _; rfl) :
    FnOk P w K mg base CX0 (k + 1) f fd (self :: ps) sp := by
  obtain ⟨oc, od, dV, kV, doc, pm, an, ct, osl, rfl, lk, hcd, _⟩ := F.ex
  refine ⟨len, fun A outer s H args us vs Q E hr e0 hb r hsp => ?_⟩
  have KX : K.In s.heap := e0.mod.kin.keeps fun b o e => (e0.bs b o e).1
  have hl := len _ _ _ _ hsp
  have lim : s.heap.NoLimit := e0.mod.nolimit.keeps fun b o e => (e0.bs b o e).1
  obtain ⟨cl, cld, csl, hcell⟩ := U.cell
  refine codeAny_call_function hr.depth (KX _ _ lk) rfl S.co S.gen rfl (PySem.W.codeRec_of KX hcd) (hb _ _ _ _ ?_)
  refine wpAny_newFunctionEnv S.nocell (fun ⟨n, _⟩ hy => S.par n (List.of_mem_zip hy).1) (fun h₁ hns hsb => ⟨lim.fresh _ hsb, ?_⟩) S.kind
  show codeAny _ _ (.func body (envF ⟨name, qual, params, body, scope, [("__class__", cc)], cda⟩ f s.heap.objs.size)) _ _
  refine ks_codeAny_funcAt ?_
  have kp : ∀ b o, s.heap.get? b = some o → h₁.get? b = some o := fun b o e => hsb.extBut b o (Nat.ne_of_lt (Heap.lt_size e)) (Heap.get?_push_of_some _ e)
  have hcc : H cc = none := (e0.bs _ _ (e0.mod.kin _ _ hcell)).2
  have look1 : ∀ y c, List.lookup y [(("__class__" : Str), cc)] = some c → y = "__class__" ∧ c = cc := fun y c e => by
    unfold List.lookup at e
    split at e
    · rename_i q
      cases e
      exact ⟨beq_iff_eq.mp q, rfl⟩
    · cases e
  have C : CellsAt [(("__class__" : Str), cc)] ["__class__"] [some (.ref D)] s.heap H := by
    refine ⟨rfl, fun y c e => ?_, fun x y c e e' => ?_, fun i y e => ?_⟩
    · obtain ⟨_, rfl⟩ := look1 y c e
      exact ⟨hcc, _, ⟨_, KX _ _ hcell, rfl⟩⟩
    · exact (look1 _ _ e).1.trans (look1 _ _ e').1.symm
    · rcases i with _ | i
      · cases e
        refine ⟨cc, by unfold List.lookup; rw [beq_self_eq_true], fun v e => ?_⟩
        cases e
        exact ⟨.ref D, rfl, ⟨_, KX _ _ hcell, rfl⟩⟩
      · cases e
  have hroom := hr.deeper (envF ⟨name, qual, params, body, scope, [("__class__", cc)], cda⟩ f s.heap.objs.size)
  obtain ⟨t, ta, h1, h2, h3⟩ := hgo A outer s H vs Q E hroom hsp
  have I : Inv (ncx CX0 P w K mg base N ⟨name, qual, params, body, scope, [("__class__", cc)], cda⟩ f A outer s H E) [] (startF N vs [some (.ref D)]) H { s with heap := h₁, toks := s.toks + ((self :: ps).zip us).length } := inv_startN S hr.hd e0 hl r C hns kp
  have ebody : execs body (envF ⟨name, qual, params, body, scope, [("__class__", cc)], cda⟩ f s.heap.objs.size) = execs (pre ++ [.Expr (.Call (.Attribute (.Call (.Name "super" p0) [] [] p1) "__init__" p2) [arg] [] p3) p4]) (envF ⟨name, qual, params, body, scope, [("__class__", cc)], cda⟩ f s.heap.objs.size) := congrArg (fun b => execs b _) hbody
  rw [ebody, execs_app]
  refine _root_.PySem.wpAt_bind (_root_.PySem.wpAt_of_wpAny (wpAny_mono (h1.nox.run [] _ _ H _ I h3) (fun fl s' hs' => ?_) fun e s' he => he))
  have fin : ∀ {σ' : L2.St} {H' : Hp} {v : V} {u : Value} {s' : Shared}, Inv (ncx CX0 P w K mg base N ⟨name, qual, params, body, scope, [("__class__", cc)], cda⟩ f A outer s H E) [] σ' H' s' → L2.RelV v u → Q v H' → CE outer P w H s Q u s' :=
    fun {σ' H' v u s'} J rv q => ⟨v, H', J.os, J.bare, J.base, J.hok, rv, q⟩
  cases fl with
  | ret u =>
    obtain ⟨_, _, _, _, _, q⟩ := hs'
    exact q.elim
  | next =>
    obtain ⟨σ', H', J, x, dx, fs, hσ, hx, hta⟩ := hs'
    refine ks_wpAt_execs_cons (ks_wpAt_mono (super_stmt (X := ncx CX0 P w K mg base N ⟨name, qual, params, body, scope, [("__class__", cc)], cda⟩ f A outer s H E) (f := f) (cda := cda) (cc := cc) (D := D) (R := fun H3 => Q .non H3) U F2 (hroom.mono hk) hks (S.frk _ List.mem_cons_self) rfl lk rfl hp (by rw [hs]; exact S.par _ List.mem_cons_self) (by rw [hs]; exact hN) rfl (by show List.lookup ("__class__" : Str) [(("__class__" : Str), cc)] = some cc; unfold List.lookup; rw [beq_self_eq_true]) h2.nox J hσ hx hta (hst _) (hpl _) (ht _) (by show interactive (envF ⟨name, qual, params, body, scope, [("__class__", cc)], cda⟩ f s.heap.objs.size) = false; unfold interactive; rw [show (envF ⟨name, qual, params, body, scope, [("__class__", cc)], cda⟩ f s.heap.objs.size).scope.kind = .function from S.kind]; first | rfl | decide) (hsw _)) (fun fl2 s2 h4 => ?_) fun e s2 h4 => h4)
    obtain ⟨rfl, H3, J3, q3⟩ := h4
    exact _root_.PySem.wpAt_of_wpAny (wpAny_pure (fin (v := .non) (u := Value.none) J3 rfl q3))
  | brk =>
    obtain ⟨_, _, _, q⟩ := hs'
    exact q.elim
  | cont =>
    obtain ⟨_, _, _, q⟩ := hs'
    exact q.elim
end MS
open MS
/-- what the text must have for super().__init__, told by a Bool -/
def cellB (K : PySem.W.Frag) (c D : Addr) : Bool := match K.lookup c with
  | some ⟨_, _, .cell (some (.ref d)), _⟩ => d == D
  | _ => false
theorem cellB_ok {K : PySem.W.Frag} {c D : Addr} (h : cellB K c D = true) : ∃ cl cld csl, K.lookup c = some ⟨cl, cld, .cell (some (.ref D)), csl⟩ := by
  unfold cellB at h
  split at h
  · rename_i e
    rw [beq_iff_eq.mp h] at e
    exact ⟨_, _, _, e⟩
  · cases h
def codeB (mf : Str) (K : PySem.W.Frag) (c : Addr) : Bool := match K.lookup c with
  | some ⟨_, _, .fields vs, _⟩ => (match (vs[2]? : Option Value) with
    | some (Value.str f _) => mf == f
    | _ => false)
  | _ => false
theorem codeB_ok {mf : Str} {K : PySem.W.Frag} {c : Addr} (h : codeB mf K c = true) : ∃ ccl cdd vs ccs file tf, K.lookup c = some ⟨ccl, cdd, .fields vs, ccs⟩ ∧ vs[2]? = some (.str file tf) ∧ (mf == file) = true := by
  unfold codeB at h
  split at h
  · rename_i e
    split at h
    · rename_i e2
      exact ⟨_, _, _, _, _, _, e, e2, h⟩
    · cases h
  · cases h
def someNone (o : Option (Option Value)) : Bool := match o with
  | some none => true
  | _ => false
theorem someNone_ok {o : Option (Option Value)} (h : someNone o = true) : o = some none := by
  unfold someNone at h
  split at h
  · rfl
  · cases h
def supB0 (mf : Str) (K : PySem.W.Frag) (D f f2 : Addr) : Bool := cellB K (cellOf K f) D && ((PySem.W.clsIn K D).isSome && (decide (PySem.W.mroIn K D (.ref D) = some true) && (codeB mf K (codeOf K f) && (someNone (PySem.W.nsIn K cStatics "thirdparty.any") &&
  (He.eqO (PySem.W.ks_superIn K D D "__init__") (some (some (.ref f2))) && (decide (PySem.W.typeIn K (.ref f2) = some (.type "function")) && PySem.W.fnIn K f2))))))
theorem supB0_ok {P : Program} {K : PySem.W.Frag} {mg : Str → Option Value} {D f f2 : Addr} (mf : Str) (pf : ((P.main.file : Str) == mf) = true) (top : (P.main.scope.names.lookup ("super" : Str)).isSome = false) (gl : mg "super" = none) (h : supB0 mf K D f f2 = true) : SupOf P K mg D (cellOf K f) (codeOf K f) f2 := by
  unfold supB0 at h
  simp only [Bool.and_eq_true] at h
  obtain ⟨h1, h2, h3, h4, h5, h6, h7, h8⟩ := h
  refine ⟨cellB_ok h1, Option.isSome_iff_exists.mp h2, of_decide_eq_true h3, ?_, gl, someNone_ok h5, He.eqO_ok h6, of_decide_eq_true h7, h8, top⟩
  rw [beq_iff_eq.mp pf]
  exact codeB_ok h4
theorem FunS.bindsN {K : PySem.W.Frag} {x qual : Str} {params : Arguments} {body : List Stmt} {scope : Scope} {f cc cda : Addr} {fd : FuncData} {ps : List Str} (F : FunS K x qual params body scope f fd cc cda)
    (h : ∀ (kV doc pm : Value) (an : Option Addr) (cdv ct : Value) (us : List Value), us.length = ps.length → bindArgs (PySem.W.ksFn x qual params body scope .none kV doc pm an cdv ct cc) ⟨us, []⟩ = pure (ps.zip us)) : Binds K fd ps [] := by
  obtain ⟨oc, od, dV, kV, doc, pm, an, ct, osl, rfl, lk, hcd, hD⟩ := F.ex
  rcases hD with ⟨_, rfl⟩ | ⟨e, _⟩
  · exact .all (h kV doc pm an (.ref cda) ct)
  · exact absurd rfl e
end M

/-! ### part K: the greatest of three ints, the least of a list, truth of an instance -/
namespace M
open PySem PySem.Spec PyProof.Rows L2 Evl
section
variable {X : Cx} {H : Hp} {Q : VK}
def rMax3U : List V → Hp → VK → Prop := fun xs H Q => ∃ i j k, xs = [.int i, .int j, .int k] ∧ Q (.int (max (max i j) k)) H
theorem xMax3 (hc : X.calm = true) : CallR X (.builtin "max") rMax3U := by
  intro pins s σ H xs us Q I r h
  obtain ⟨i, j, k, rfl, q⟩ := h
  have m2 : ∀ a b : Int, nuMax2 (.int a) (.int b) = some (.int (max a b)) := fun a b => by
    show Option.map _ (some (decide (a < b))) = _
    by_cases c : a < b
    · rw [decide_eq_true c, Int.max_eq_right (by omega)]; rfl
    · rw [decide_eq_false c, Int.max_eq_left (by omega)]; rfl
  exact call_max3Nu hc pins s σ H _ us Q I r ⟨_, _, _, _, rfl, by unfold nuMax3; rw [m2]; exact m2 _ _, q⟩
theorem r_max3 {i j k : Int} (q : Q (.int (max (max i j) k)) H) : rMax3U [.int i, .int j, .int k] H Q := ⟨i, j, k, rfl, q⟩
theorem kMinL (K : PySem.W.Frag) (hc : X.calm = true) (h : X.K = K := by rfl) : CallR X (.builtin "min") (rMin K) := by subst h; exact cr_min hc
theorem kMaxL (K : PySem.W.Frag) (hc : X.calm = true) (h : X.K = K := by rfl) : CallR X (.builtin "max") (rMax K) := by subst h; exact cr_max hc
theorem r_minL {K : PySem.W.Frag} {a : Addr} {ns : List Int} (h : SqL K H a (vI ns)) (hn : 0 < ns.length) (q : ∀ m, m ∈ ns → (∀ y, y ∈ ns → m ≤ y) → Q (.int m) H) : rMin K [.ref a] H Q := ⟨a, ns, rfl, h, hn, q⟩
theorem r_maxL {K : PySem.W.Frag} {a : Addr} {ns : List Int} (h : SqL K H a (vI ns)) (hn : 0 < ns.length) (q : ∀ m, m ∈ ns → (∀ y, y ∈ ns → y ≤ m) → Q (.int m) H) : rMax K [.ref a] H Q := ⟨a, ns, rfl, h, hn, q⟩
end
end M

/-! ### part L: static methods of a class -/
namespace M
open PySem PySem.Spec PyProof.Rows L2 Evl
def smF (x m : Str) (K : PySem.W.Frag) : Addr := match PySem.W.recIn K (He.ma K (He.ga K x) m) "staticmethod" with
  | some (.ref f :: _) => f
  | _ => 0
structure SMet (K : PySem.W.Frag) (C : Addr) (m : Str) (p g : Addr) : Prop where
  rd : ClX.CRead K C (.type "type")
  at_ : PySem.W.findCls K (.ref C) (.type "type") m = some (.get (.builtin "staticmethod.__get__") (.ref p) .none (.ref C))
  rc : ∃ rest, PySem.W.recIn K p "staticmethod" = some (.ref g :: rest)
  kp : PySem.W.keepIn K (.ref g) = true
def smB (x m : Str) (K : PySem.W.Frag) : Bool := (match PySem.W.findCls K (.ref (He.ga K x)) (.type "type") m with
    | some (.get (.builtin g) (.ref p) .none (.ref D)) => decide (g = "staticmethod.__get__") && (decide (p = He.ma K (He.ga K x) m) && decide (D = He.ga K x))
    | _ => false) && ((match PySem.W.recIn K (He.ma K (He.ga K x) m) "staticmethod" with
    | some (.ref _ :: _) => true
    | _ => false) && (PySem.W.keepIn K (.ref (smF x m K)) && (PySem.W.readsIn K (He.ga K x) (.type "type") && He.eqO (PySem.W.specialIn K (.ref (He.ga K x)) "__getattribute__") (some (some (.builtin "type.__getattribute__"))))))
theorem smB_ok {x m : Str} {K : PySem.W.Frag} (h : smB x m K = true) : SMet K (He.ga K x) m (He.ma K (He.ga K x) m) (smF x m K) := by
  obtain ⟨h1, h⟩ := Bool.and_eq_true_iff.mp h
  obtain ⟨h2, h⟩ := Bool.and_eq_true_iff.mp h
  obtain ⟨h3, h⟩ := Bool.and_eq_true_iff.mp h
  obtain ⟨h4, h5⟩ := Bool.and_eq_true_iff.mp h
  refine ⟨⟨h4, He.eqO_ok h5⟩, ?_, ?_, h3⟩
  · clear h2 h3
    split at h1
    · rename_i g p D e
      obtain ⟨k1, k⟩ := Bool.and_eq_true_iff.mp h1
      obtain ⟨k2, k3⟩ := Bool.and_eq_true_iff.mp k
      rw [e, of_decide_eq_true k1, of_decide_eq_true k2, of_decide_eq_true k3]
    · cases h1
  · unfold smF
    split at h2
    · rename_i f r e
      exact ⟨r, by rw [e]⟩
    · cases h2
/-- C.m(..), m a staticmethod of the class at C -/
def tSMeth (C : Addr) (sp : Sp) (E : XK) (ta : TE) (t : TA) : TE := fun σ H Q => ta σ H fun x H1 => x = .ref C ∧ t σ H1 fun vs H2 => sp vs H2 Q E
theorem w_smeth {C : Addr} {sp : Sp} {E : XK} {t : TA} {σ : L2.St} {H : Hp} {Q : VK} (h : t σ H fun vs H2 => sp vs H2 Q E) : tSMeth C sp E (tC (.ref C)) t σ H Q := ⟨rfl, h⟩
structure Stm (P : Program) (w : World) (K : PySem.W.Frag) (mg : Str → Option Value) (base : Heap) (k : Nat) (C : Addr) (m : Str) (sp : Sp) : Prop where
  ex : ∃ (p g : Addr) (fd : FuncData) (ps : List Str), SMet K C m p g ∧ FnOk P w K mg base CX0 k g fd ps sp ∧ Binds K fd ps []
section
variable {X : Cx} {CX : CXT} {k j : Nat} {C p g : Addr} {sp : Sp} {E : XK} {o e : Expr} {es : List Expr} {m : Str} {pos apos : Pos} {ta : TE} {t : TA} {pl : Sem Bool}
theorem pe_smeth (he : PE X o ta) (c : SMet X.K C m p g) (F : FnR X.prog X.w X.K X.mg X.base CX k g sp) (hr : Room k X.A) (hx : Passes CX X E) (ha : PA X (e :: es) t)
    (hst : starEach (e :: es) X.env = (false, eval e X.env) :: starEach es X.env := by rfl) (hpl : (backTo pos (starEach es X.env)).any (·.1) = false := by rfl)
    (ht : eval (.Call (.Attribute o m apos) (e :: es) [] pos) X.env = (do
      let ov ← eval o X.env
      standAt apos.atName
      let (f, first) ← holding [ov] (getMethod ov m pl)
      callWith pos f first (backTo pos (starEach (e :: es) X.env)) (backToKw pos (keywordEach [] X.env))) := by rfl) :
    PE X (.Call (.Attribute o m apos) (e :: es) [] pos) (tSMeth C sp E ta t) := by
  refine ⟨fun pins s σ H Q I h => ?_⟩
  refine PySem.W.methodCall_KW (pl := pl) (thn (he.run pins s σ H _ I h) fun u s1 ⟨x, H1, I1, rx, ex, q⟩ => ?_) ht
  subst ex
  obtain rfl : u = Value.ref C := rx
  obtain ⟨rest, hp⟩ := c.rc
  refine PySem.W.method_cls I1.kIn c.rd.ga (PySem.W.cls_bind I1.kIn c.rd.rd c.at_ ?_)
  refine wpAny_call (PySem.W.sm_get (s := { s1 with toks := s1.toks + 1 }) I1.kIn hp (PySem.W.handed_on rfl ?_))
  have I2 := I1.tok (s1.toks + 1)
  refine PySem.W.callWith_K (h₀ := X.base) I.ok.mod.kin c.kp (thn (ha.run pos pins _ σ H1 _ I2 q) fun us s3 ⟨vs, H2, I3, rv, q2⟩ => ⟨I3.kIn, ?_⟩) hst hpl
  exact wpAny_call (run_fnR F hr hx I3 rv q2)
theorem psm (c : Stm X.prog X.w X.K X.mg X.base k C m sp) (hr : Room j X.A) (hk : k ≤ j) (he : PE X o ta) (ha : PA X (e :: es) t)
    (hst : starEach (e :: es) X.env = (false, eval e X.env) :: starEach es X.env := by rfl) (hpl : (backTo pos (starEach es X.env)).any (·.1) = false := by rfl)
    (ht : eval (.Call (.Attribute o m apos) (e :: es) [] pos) X.env = (do
      let ov ← eval o X.env
      standAt apos.atName
      let (f, first) ← holding [ov] (getMethod ov m pl)
      callWith pos f first (backTo pos (starEach (e :: es) X.env)) (backToKw pos (keywordEach [] X.env))) := by rfl) :
    PE X (.Call (.Attribute o m apos) (e :: es) [] pos) (tSMeth C sp E0 ta t) := by
  obtain ⟨p, g, fd, ps, sm, F, hb⟩ := c.ex
  exact pe_smeth (pl := pl) he sm ((F.raw hb .nil).imp fun vs H Q E h => by rw [List.append_nil]; exact h) (hr.mono hk) pass0 ha hst hpl ht
end
end M

namespace M
open PySem PySem.Spec PyProof.Rows L2 Evl MS
def top (i : Nat) : Stmt := PySem.Challenge.pw_rosterneed_k08_whole_over.main.body.getD i (.Pass ⟨0, 0, 0, 0⟩)
def mainFile : Str := PySem.Challenge.pw_rosterneed_k08_whole_over.main.file
abbrev s_under : Stmt := top 2
def d_under : DX := ⟨fun K => He.ga K "under", "under", "under", defArgs s_under, defBody s_under, defScope s_under, [], false⟩
abbrev s_over : Stmt := top 3
def d_over : DX := ⟨fun K => He.ga K "over", "over", "over", defArgs s_over, defBody s_over, defScope s_over, [], false⟩
abbrev s_is_integer : Stmt := top 11
def d_is_integer : DX := ⟨fun K => He.ga K "is_integer", "is_integer", "is_integer", defArgs s_is_integer, defBody s_is_integer, defScope s_is_integer, [], false⟩
abbrev s_is_count : Stmt := top 12
def d_is_count : DX := ⟨fun K => He.ga K "is_count", "is_count", "is_count", defArgs s_is_count, defBody s_is_count, defScope s_is_count, [], false⟩
abbrev s_is_listed : Stmt := top 13
def d_is_listed : DX := ⟨fun K => He.ga K "is_listed", "is_listed", "is_listed", defArgs s_is_listed, defBody s_is_listed, defScope s_is_listed, [], false⟩
abbrev s_is_counts : Stmt := top 14
def d_is_counts : DX := ⟨fun K => He.ga K "is_counts", "is_counts", "is_counts", defArgs s_is_counts, defBody s_is_counts, defScope s_is_counts, [], false⟩
abbrev s_deep : Stmt := top 15
def d_deep : DX := ⟨fun K => He.ga K "deep", "deep", "deep", defArgs s_deep, defBody s_deep, defScope s_deep, [], false⟩
abbrev s_at_most : Stmt := top 16
def d_at_most : DX := ⟨fun K => He.ga K "at_most", "at_most", "at_most", defArgs s_at_most, defBody s_at_most, defScope s_at_most, [], false⟩
abbrev s_greater_of : Stmt := top 17
def d_greater_of : DX := ⟨fun K => He.ga K "greater_of", "greater_of", "greater_of", defArgs s_greater_of, defBody s_greater_of, defScope s_greater_of, [], false⟩
abbrev s_lesser_of : Stmt := top 18
def d_lesser_of : DX := ⟨fun K => He.ga K "lesser_of", "lesser_of", "lesser_of", defArgs s_lesser_of, defBody s_lesser_of, defScope s_lesser_of, [], false⟩
abbrev s_common_divisor : Stmt := top 19
def d_common_divisor : DX := ⟨fun K => He.ga K "common_divisor", "common_divisor", "common_divisor", defArgs s_common_divisor, defBody s_common_divisor, defScope s_common_divisor, [], false⟩
abbrev s_common_multiple : Stmt := top 20
def d_common_multiple : DX := ⟨fun K => He.ga K "common_multiple", "common_multiple", "common_multiple", defArgs s_common_multiple, defBody s_common_multiple, defScope s_common_multiple, [], false⟩
abbrev s_end_of : Stmt := top 22
def d_end_of : DX := ⟨fun K => He.ga K "end_of", "end_of", "end_of", defArgs s_end_of, defBody s_end_of, defScope s_end_of, [], false⟩
abbrev s_value_at : Stmt := top 23
def d_value_at : DX := ⟨fun K => He.ga K "value_at", "value_at", "value_at", defArgs s_value_at, defBody s_value_at, defScope s_value_at, [], false⟩
abbrev s_short_loop : Stmt := top 24
def d_short_loop : DX := ⟨fun K => He.ga K "short_loop", "short_loop", "short_loop", defArgs s_short_loop, defBody s_short_loop, defScope s_short_loop, [], false⟩
abbrev s_plain_form : Stmt := top 25
def d_plain_form : DX := ⟨fun K => He.ga K "plain_form", "plain_form", "plain_form", defArgs s_plain_form, defBody s_plain_form, defScope s_plain_form, [], false⟩
abbrev s_formed : Stmt := top 26
def d_formed : DX := ⟨fun K => He.ga K "formed", "formed", "formed", defArgs s_formed, defBody s_formed, defScope s_formed, [], false⟩
abbrev s_until_never : Stmt := top 27
def d_until_never : DX := ⟨fun K => He.ga K "until_never", "until_never", "until_never", defArgs s_until_never, defBody s_until_never, defScope s_until_never, [], false⟩
abbrev s_first_beyond : Stmt := top 28
def d_first_beyond : DX := ⟨fun K => He.ga K "first_beyond", "first_beyond", "first_beyond", defArgs s_first_beyond, defBody s_first_beyond, defScope s_first_beyond, [], false⟩
abbrev s_behind_raw : Stmt := top 29
def d_behind_raw : DX := ⟨fun K => He.ga K "behind_raw", "behind_raw", "behind_raw", defArgs s_behind_raw, defBody s_behind_raw, defScope s_behind_raw, [], false⟩
abbrev s_later_start : Stmt := top 30
def d_later_start : DX := ⟨fun K => He.ga K "later_start", "later_start", "later_start", defArgs s_later_start, defBody s_later_start, defScope s_later_start, [], false⟩
abbrev s_joined_values : Stmt := top 31
def d_joined_values : DX := ⟨fun K => He.ga K "joined_values", "joined_values", "joined_values", defArgs s_joined_values, defBody s_joined_values, defScope s_joined_values, [], false⟩
abbrev s_joined_raw : Stmt := top 32
def d_joined_raw : DX := ⟨fun K => He.ga K "joined_raw", "joined_raw", "joined_raw", defArgs s_joined_raw, defBody s_joined_raw, defScope s_joined_raw, [], false⟩
abbrev s_counts_below : Stmt := top 33
def d_counts_below : DX := ⟨fun K => He.ga K "counts_below", "counts_below", "counts_below", defArgs s_counts_below, defBody s_counts_below, defScope s_counts_below, [], false⟩
abbrev s_turned_raw : Stmt := top 34
def d_turned_raw : DX := ⟨fun K => He.ga K "turned_raw", "turned_raw", "turned_raw", defArgs s_turned_raw, defBody s_turned_raw, defScope s_turned_raw, [], false⟩
abbrev s_least_above : Stmt := top 35
def d_least_above : DX := ⟨fun K => He.ga K "least_above", "least_above", "least_above", defArgs s_least_above, defBody s_least_above, defScope s_least_above, [], false⟩
abbrev s_below : Stmt := top 40
def d_below : DX := ⟨fun K => He.ga K "below", "below", "below", defArgs s_below, defBody s_below, defScope s_below, [], false⟩
abbrev s_is_rising : Stmt := top 42
def d_is_rising : DX := ⟨fun K => He.ga K "is_rising", "is_rising", "is_rising", defArgs s_is_rising, defBody s_is_rising, defScope s_is_rising, [], false⟩
abbrev s_checked_table : Stmt := top 43
def d_checked_table : DX := ⟨fun K => He.ga K "checked_table", "checked_table", "checked_table", defArgs s_checked_table, defBody s_checked_table, defScope s_checked_table, [], false⟩
abbrev s_table_from : Stmt := top 45
def d_table_from : DX := ⟨fun K => He.ga K "table_from", "table_from", "table_from", defArgs s_table_from, defBody s_table_from, defScope s_table_from, [], false⟩
abbrev s__law_source : Stmt := top 47
def d__law_source : DX := ⟨fun K => He.ga K "_law_source", "_law_source", "_law_source", defArgs s__law_source, defBody s__law_source, defScope s__law_source, [], false⟩
abbrev s__law_pick : Stmt := top 48
def d__law_pick : DX := ⟨fun K => He.ga K "_law_pick", "_law_pick", "_law_pick", defArgs s__law_pick, defBody s__law_pick, defScope s__law_pick, [], false⟩
abbrev s__law_is_integer : Stmt := top 49
def d__law_is_integer : DX := ⟨fun K => He.ga K "_law_is_integer", "_law_is_integer", "_law_is_integer", defArgs s__law_is_integer, defBody s__law_is_integer, defScope s__law_is_integer, [], false⟩
abbrev s__law_is_count : Stmt := top 50
def d__law_is_count : DX := ⟨fun K => He.ga K "_law_is_count", "_law_is_count", "_law_is_count", defArgs s__law_is_count, defBody s__law_is_count, defScope s__law_is_count, [], false⟩
abbrev s__law_truth : Stmt := top 51
def d__law_truth : DX := ⟨fun K => He.ga K "_law_truth", "_law_truth", "_law_truth", defArgs s__law_truth, defBody s__law_truth, defScope s__law_truth, [], false⟩
abbrev s__law_is_value : Stmt := top 52
def d__law_is_value : DX := ⟨fun K => He.ga K "_law_is_value", "_law_is_value", "_law_is_value", defArgs s__law_is_value, defBody s__law_is_value, defScope s__law_is_value, [], false⟩
abbrev s__law_le : Stmt := top 53
def d__law_le : DX := ⟨fun K => He.ga K "_law_le", "_law_le", "_law_le", defArgs s__law_le, defBody s__law_le, defScope s__law_le, [], false⟩
abbrev s__law_rising : Stmt := top 54
def d__law_rising : DX := ⟨fun K => He.ga K "_law_rising", "_law_rising", "_law_rising", defArgs s__law_rising, defBody s__law_rising, defScope s__law_rising, [], false⟩
abbrev s__law_mild : Stmt := top 55
def d__law_mild : DX := ⟨fun K => He.ga K "_law_mild", "_law_mild", "_law_mild", defArgs s__law_mild, defBody s__law_mild, defScope s__law_mild, [], false⟩
abbrev s__law_end : Stmt := top 56
def d__law_end : DX := ⟨fun K => He.ga K "_law_end", "_law_end", "_law_end", defArgs s__law_end, defBody s__law_end, defScope s__law_end, [], false⟩
abbrev s__law_at : Stmt := top 57
def d__law_at : DX := ⟨fun K => He.ga K "_law_at", "_law_at", "_law_at", defArgs s__law_at, defBody s__law_at, defScope s__law_at, [], false⟩
abbrev s__law_gcd : Stmt := top 58
def d__law_gcd : DX := ⟨fun K => He.ga K "_law_gcd", "_law_gcd", "_law_gcd", defArgs s__law_gcd, defBody s__law_gcd, defScope s__law_gcd, [], false⟩
abbrev s__law_plain : Stmt := top 59
def d__law_plain : DX := ⟨fun K => He.ga K "_law_plain", "_law_plain", "_law_plain", defArgs s__law_plain, defBody s__law_plain, defScope s__law_plain, [], false⟩
abbrev s__law_fit : Stmt := top 60
def d__law_fit : DX := ⟨fun K => He.ga K "_law_fit", "_law_fit", "_law_fit", defArgs s__law_fit, defBody s__law_fit, defScope s__law_fit, [], false⟩
abbrev s__law_counts : Stmt := top 61
def d__law_counts : DX := ⟨fun K => He.ga K "_law_counts", "_law_counts", "_law_counts", defArgs s__law_counts, defBody s__law_counts, defScope s__law_counts, [], false⟩
abbrev s__law_behind : Stmt := top 62
def d__law_behind : DX := ⟨fun K => He.ga K "_law_behind", "_law_behind", "_law_behind", defArgs s__law_behind, defBody s__law_behind, defScope s__law_behind, [], false⟩
abbrev s__law_turn : Stmt := top 63
def d__law_turn : DX := ⟨fun K => He.ga K "_law_turn", "_law_turn", "_law_turn", defArgs s__law_turn, defBody s__law_turn, defScope s__law_turn, [], false⟩
abbrev s__law_over : Stmt := top 64
def d__law_over : DX := ⟨fun K => He.ga K "_law_over", "_law_over", "_law_over", defArgs s__law_over, defBody s__law_over, defScope s__law_over, [], false⟩
abbrev s__law_above : Stmt := top 65
def d__law_above : DX := ⟨fun K => He.ga K "_law_above", "_law_above", "_law_above", defArgs s__law_above, defBody s__law_above, defScope s__law_above, [], false⟩
abbrev s__law_reach : Stmt := top 66
def d__law_reach : DX := ⟨fun K => He.ga K "_law_reach", "_law_reach", "_law_reach", defArgs s__law_reach, defBody s__law_reach, defScope s__law_reach, [], false⟩
abbrev s__law_same : Stmt := top 67
def d__law_same : DX := ⟨fun K => He.ga K "_law_same", "_law_same", "_law_same", defArgs s__law_same, defBody s__law_same, defScope s__law_same, [], false⟩
abbrev s__law_table : Stmt := top 68
def d__law_table : DX := ⟨fun K => He.ga K "_law_table", "_law_table", "_law_table", defArgs s__law_table, defBody s__law_table, defScope s__law_table, [], false⟩
abbrev s__law_values : Stmt := top 69
def d__law_values : DX := ⟨fun K => He.ga K "_law_values", "_law_values", "_law_values", defArgs s__law_values, defBody s__law_values, defScope s__law_values, [], false⟩
abbrev s__law_third : Stmt := top 70
def d__law_third : DX := ⟨fun K => He.ga K "_law_third", "_law_third", "_law_third", defArgs s__law_third, defBody s__law_third, defScope s__law_third, [], false⟩
abbrev s_law : Stmt := top 71
def d_law : DX := ⟨fun K => He.ga K "law", "law", "law", defArgs s_law, defBody s_law, defScope s_law, [], false⟩
abbrev s_Table_init : Stmt := inClass (top 44) 0
def d_Table_init : DX := ⟨fun K => He.ma K (He.ga K "Table") "__init__", "__init__", "Table.__init__", defArgs s_Table_init, defBody s_Table_init, defScope s_Table_init, [.adr (He.dflAt ("Table", some "__init__") 0), .int 0], false⟩
abbrev s_Table_call : Stmt := inClass (top 44) 3
def d_Table_call : DX := ⟨fun K => He.ma K (He.ga K "Table") "__call__", "__call__", "Table.__call__", defArgs s_Table_call, defBody s_Table_call, defScope s_Table_call, [], false⟩
abbrev s_Table_raw : Stmt := inClass (top 44) 2
def d_Table_raw : DX := ⟨fun K => He.ma K (He.ga K "Table") "raw", "raw", "Table.raw", defArgs s_Table_raw, defBody s_Table_raw, defScope s_Table_raw, [], false⟩
abbrev s_Table_eq : Stmt := inClass (top 44) 7
def d_Table_eq : DX := ⟨fun K => He.ma K (He.ga K "Table") "__eq__", "__eq__", "Table.__eq__", defArgs s_Table_eq, defBody s_Table_eq, defScope s_Table_eq, [], false⟩
abbrev s_Table_and : Stmt := inClass (top 44) 9
def d_Table_and : DX := ⟨fun K => He.ma K (He.ga K "Table") "__and__", "__and__", "Table.__and__", defArgs s_Table_and, defBody s_Table_and, defScope s_Table_and, [], false⟩
abbrev s_Table_or : Stmt := inClass (top 44) 10
def d_Table_or : DX := ⟨fun K => He.ma K (He.ga K "Table") "__or__", "__or__", "Table.__or__", defArgs s_Table_or, defBody s_Table_or, defScope s_Table_or, [], false⟩
abbrev s_Table_mul : Stmt := inClass (top 44) 8
def d_Table_mul : DX := ⟨fun K => He.ma K (He.ga K "Table") "__mul__", "__mul__", "Table.__mul__", defArgs s_Table_mul, defBody s_Table_mul, defScope s_Table_mul, [], false⟩
abbrev s_Table_invert : Stmt := inClass (top 44) 11
def d_Table_invert : DX := ⟨fun K => He.ma K (He.ga K "Table") "__invert__", "__invert__", "Table.__invert__", defArgs s_Table_invert, defBody s_Table_invert, defScope s_Table_invert, [], false⟩
abbrev s_Verdict_init : Stmt := inClass (top 37) 0
def d_Verdict_init : DX := ⟨fun K => He.ma K (He.ga K "Verdict") "__init__", "__init__", "Verdict.__init__", defArgs s_Verdict_init, defBody s_Verdict_init, defScope s_Verdict_init, [], false⟩
abbrev s_Below_init : Stmt := inClass (top 39) 0
def d_Below_init : DX := ⟨fun K => He.ma K (He.ga K "Below") "__init__", "__init__", "Below.__init__", defArgs s_Below_init, defBody s_Below_init, defScope s_Below_init, [], true⟩
def fn0 : List DX := [d_under, d_over, d_is_integer, d_is_count, d_is_listed, d_is_counts, d_deep, d_at_most, d_greater_of, d_lesser_of, d_common_divisor, d_common_multiple]
def fn1 : List DX := [d_end_of, d_value_at, d_short_loop, d_plain_form, d_formed, d_until_never, d_first_beyond, d_behind_raw, d_later_start, d_joined_values, d_joined_raw, d_counts_below]
def fn2 : List DX := [d_turned_raw, d_least_above, d_below, d_is_rising, d_checked_table, d_table_from, d__law_source, d__law_pick, d__law_is_integer, d__law_is_count, d__law_truth, d__law_is_value]
def fn3 : List DX := [d__law_le, d__law_rising, d__law_mild, d__law_end, d__law_at, d__law_gcd, d__law_plain, d__law_fit, d__law_counts, d__law_behind, d__law_turn, d__law_over]
def fn4 : List DX := [d__law_above, d__law_reach, d__law_same, d__law_table, d__law_values, d__law_third, d_law, d_Table_init, d_Table_call, d_Table_raw, d_Table_eq, d_Table_and]
def fn5 : List DX := [d_Table_or, d_Table_mul, d_Table_invert, d_Verdict_init, d_Below_init]
def fn : List DX := fn0 ++ fn1 ++ fn2 ++ fn3 ++ fn4 ++ fn5
def fa0 : List He.Fa := [.free "abs", .free "all", .free "any", .free "bool", .free "int", .free "isinstance", .free "len", .free "list", .free "max", .free "min", .free "range", .free "tuple"]
def fa1 : List He.Fa := [.glo "under", .glo "over", .glo "is_integer", .glo "is_count", .glo "is_listed", .glo "is_counts", .glo "deep", .glo "at_most", .glo "greater_of", .glo "lesser_of", .glo "common_divisor", .glo "common_multiple"]
def fa2 : List He.Fa := [.glo "end_of", .glo "value_at", .glo "short_loop", .glo "plain_form", .glo "formed", .glo "until_never", .glo "first_beyond", .glo "behind_raw", .glo "later_start", .glo "joined_values", .glo "joined_raw", .glo "counts_below"]
def fa3 : List He.Fa := [.glo "turned_raw", .glo "least_above", .glo "below", .glo "is_rising", .glo "checked_table", .glo "table_from", .glo "_law_source", .glo "_law_pick", .glo "_law_is_integer", .glo "_law_is_count", .glo "_law_truth", .glo "_law_is_value"]
def fa4 : List He.Fa := [.glo "_law_le", .glo "_law_rising", .glo "_law_mild", .glo "_law_end", .glo "_law_at", .glo "_law_gcd", .glo "_law_plain", .glo "_law_fit", .glo "_law_counts", .glo "_law_behind", .glo "_law_turn", .glo "_law_over"]
def fa5 : List He.Fa := [.glo "_law_above", .glo "_law_reach", .glo "_law_same", .glo "_law_table", .glo "_law_values", .glo "_law_third", .glo "law", .meth "Table" "__init__", .meth "Table" "__call__", .meth "Table" "raw", .meth "Table" "__eq__", .meth "Table" "__and__"]
def fa6 : List He.Fa := [.meth "Table" "__or__", .meth "Table" "__mul__", .meth "Table" "__invert__", .meth "Verdict" "__init__", .meth "Below" "__init__", .glo "Table", .cls "Table", .mkr "Table", .noat "Table" "head", .noat "Table" "loop", .noat "Table" "rise", .glo "Below"]
def fa7 : List He.Fa := [.cls "Below", .mkr "Below", .noat "Below" "first", .noat "Below" "second", .noat "Below" "place", .noat "Below" "sides", .noat "Below" "holds", .glo "Verdict", .free "super"]
def fa : List He.Fa := fa0 ++ fa1 ++ fa2 ++ fa3 ++ fa4 ++ fa5 ++ fa6 ++ fa7
def exL0 : List (PySem.W.Frag → Bool) := [(insB "Table"), (kitSB "Table"), (fun K => PySem.W.notFirst K (He.ga K "Table") (.ref (He.ga K "Table"))), (fun K => He.eqO (PySem.W.findIn K (.ref (He.ga K "Table")) "__ne__") (some (some (.builtin "object.__ne__")))), (fun K => decide (PySem.W.mroIn K (He.ga K "Table") (.type "object") = some true)), (kitB "Table" "tuple" false), (nfB "Table" "tuple"), (kitB "Table" "list" false), (nfB "Table" "list"), (kitB "Table" "int" false), (nfB "Table" "int"), (kitB "Table" "NoneType" false)]
def exL1 : List (PySem.W.Frag → Bool) := [(nfB "Table" "NoneType"), (kitB "Table" "str" false), (nfB "Table" "str"), (kitB "Table" "bool" false), (nfB "Table" "bool"), (insB "Below"), (kitSB "Below"), (fun K => PySem.W.notFirst K (He.ga K "Below") (.ref (He.ga K "Below"))), (fun K => He.eqO (PySem.W.findIn K (.ref (He.ga K "Below")) "__ne__") (some (some (.builtin "object.__ne__")))), (fun K => decide (PySem.W.mroIn K (He.ga K "Below") (.type "object") = some true)), (kitB "Below" "tuple" false), (nfB "Below" "tuple")]
def exL2 : List (PySem.W.Frag → Bool) := [(kitB "Below" "list" false), (nfB "Below" "list"), (kitB "Below" "int" false), (nfB "Below" "int"), (kitB "Below" "NoneType" false), (nfB "Below" "NoneType"), (kitB "Below" "str" false), (nfB "Below" "str"), (kitB "Below" "bool" false), (nfB "Below" "bool"), (callB "Table"), (fun K => tup0B K (He.dflAt ("Table", some "__init__") 0 K))]
def exL3 : List (PySem.W.Frag → Bool) := [(fun K => PySem.W.selfFirst K (He.ga K "Table")), (fun K => supB0 mainFile K (He.ga K "Below") (d_Below_init.adr K) (He.ma K (He.ga K "Verdict") "__init__")), (fun K => decide (PySem.W.kitOne K (.ref (He.ga K "Below")) (.ref (He.ga K "Verdict")) = some true))]
def exL : List (PySem.W.Frag → Bool) := exL0 ++ exL1 ++ exL2 ++ exL3
def exB (K : PySem.W.Frag) : Bool := exL.all fun f => f K
/-- what the top has left -/
structure Env (P : Program) (K : PySem.W.Frag) (mg : Str → Option Value) : Prop where
  ex : ∃ h : Heap, K.In h ∧ h.Ns mainGlobals mg
  c : SaysM fa fn exB K
  pf : ((P.main.file : Str) == mainFile) = true ∧ (P.main.scope.names.lookup ("super" : Str)).isSome = false
theorem Env.x {P : Program} {K : PySem.W.Frag} {mg : Str → Option Value} (E : Env P K mg) (i : Nat) {f : PySem.W.Frag → Bool} (h : exL[i]? = some f) : f K = true := List.all_eq_true.mp (show (exL.all fun f => f K) = true from E.c.more) f (List.mem_of_getElem? h)
theorem Env.f_abs {P : Program} {K : PySem.W.Frag} {mg : Str → Option Value} (E : Env P K mg) : mg "abs" = none := by obtain ⟨h, X, G⟩ := E.ex; exact He.free_ok X G (E.c.fact 0 (f := .free "abs") rfl)
theorem Env.f_all {P : Program} {K : PySem.W.Frag} {mg : Str → Option Value} (E : Env P K mg) : mg "all" = none := by obtain ⟨h, X, G⟩ := E.ex; exact He.free_ok X G (E.c.fact 1 (f := .free "all") rfl)
theorem Env.f_any {P : Program} {K : PySem.W.Frag} {mg : Str → Option Value} (E : Env P K mg) : mg "any" = none := by obtain ⟨h, X, G⟩ := E.ex; exact He.free_ok X G (E.c.fact 2 (f := .free "any") rfl)
theorem Env.f_bool {P : Program} {K : PySem.W.Frag} {mg : Str → Option Value} (E : Env P K mg) : mg "bool" = none := by obtain ⟨h, X, G⟩ := E.ex; exact He.free_ok X G (E.c.fact 3 (f := .free "bool") rfl)
theorem Env.f_int {P : Program} {K : PySem.W.Frag} {mg : Str → Option Value} (E : Env P K mg) : mg "int" = none := by obtain ⟨h, X, G⟩ := E.ex; exact He.free_ok X G (E.c.fact 4 (f := .free "int") rfl)
theorem Env.f_isinstance {P : Program} {K : PySem.W.Frag} {mg : Str → Option Value} (E : Env P K mg) : mg "isinstance" = none := by obtain ⟨h, X, G⟩ := E.ex; exact He.free_ok X G (E.c.fact 5 (f := .free "isinstance") rfl)
theorem Env.f_len {P : Program} {K : PySem.W.Frag} {mg : Str → Option Value} (E : Env P K mg) : mg "len" = none := by obtain ⟨h, X, G⟩ := E.ex; exact He.free_ok X G (E.c.fact 6 (f := .free "len") rfl)
theorem Env.f_list {P : Program} {K : PySem.W.Frag} {mg : Str → Option Value} (E : Env P K mg) : mg "list" = none := by obtain ⟨h, X, G⟩ := E.ex; exact He.free_ok X G (E.c.fact 7 (f := .free "list") rfl)
theorem Env.f_max {P : Program} {K : PySem.W.Frag} {mg : Str → Option Value} (E : Env P K mg) : mg "max" = none := by obtain ⟨h, X, G⟩ := E.ex; exact He.free_ok X G (E.c.fact 8 (f := .free "max") rfl)
theorem Env.f_min {P : Program} {K : PySem.W.Frag} {mg : Str → Option Value} (E : Env P K mg) : mg "min" = none := by obtain ⟨h, X, G⟩ := E.ex; exact He.free_ok X G (E.c.fact 9 (f := .free "min") rfl)
theorem Env.f_range {P : Program} {K : PySem.W.Frag} {mg : Str → Option Value} (E : Env P K mg) : mg "range" = none := by obtain ⟨h, X, G⟩ := E.ex; exact He.free_ok X G (E.c.fact 10 (f := .free "range") rfl)
theorem Env.f_tuple {P : Program} {K : PySem.W.Frag} {mg : Str → Option Value} (E : Env P K mg) : mg "tuple" = none := by obtain ⟨h, X, G⟩ := E.ex; exact He.free_ok X G (E.c.fact 11 (f := .free "tuple") rfl)
theorem Env.g_under {P : Program} {K : PySem.W.Frag} {mg : Str → Option Value} (E : Env P K mg) : mg "under" = some (.ref (He.ga K "under")) := by obtain ⟨h, X, G⟩ := E.ex; exact He.glo_ok X G (E.c.fact 12 (f := .glo "under") rfl)
theorem Env.g_over {P : Program} {K : PySem.W.Frag} {mg : Str → Option Value} (E : Env P K mg) : mg "over" = some (.ref (He.ga K "over")) := by obtain ⟨h, X, G⟩ := E.ex; exact He.glo_ok X G (E.c.fact 13 (f := .glo "over") rfl)
theorem Env.g_is_integer {P : Program} {K : PySem.W.Frag} {mg : Str → Option Value} (E : Env P K mg) : mg "is_integer" = some (.ref (He.ga K "is_integer")) := by obtain ⟨h, X, G⟩ := E.ex; exact He.glo_ok X G (E.c.fact 14 (f := .glo "is_integer") rfl)
theorem Env.g_is_count {P : Program} {K : PySem.W.Frag} {mg : Str → Option Value} (E : Env P K mg) : mg "is_count" = some (.ref (He.ga K "is_count")) := by obtain ⟨h, X, G⟩ := E.ex; exact He.glo_ok X G (E.c.fact 15 (f := .glo "is_count") rfl)
theorem Env.g_is_listed {P : Program} {K : PySem.W.Frag} {mg : Str → Option Value} (E : Env P K mg) : mg "is_listed" = some (.ref (He.ga K "is_listed")) := by obtain ⟨h, X, G⟩ := E.ex; exact He.glo_ok X G (E.c.fact 16 (f := .glo "is_listed") rfl)
theorem Env.g_is_counts {P : Program} {K : PySem.W.Frag} {mg : Str → Option Value} (E : Env P K mg) : mg "is_counts" = some (.ref (He.ga K "is_counts")) := by obtain ⟨h, X, G⟩ := E.ex; exact He.glo_ok X G (E.c.fact 17 (f := .glo "is_counts") rfl)
theorem Env.g_deep {P : Program} {K : PySem.W.Frag} {mg : Str → Option Value} (E : Env P K mg) : mg "deep" = some (.ref (He.ga K "deep")) := by obtain ⟨h, X, G⟩ := E.ex; exact He.glo_ok X G (E.c.fact 18 (f := .glo "deep") rfl)
theorem Env.g_at_most {P : Program} {K : PySem.W.Frag} {mg : Str → Option Value} (E : Env P K mg) : mg "at_most" = some (.ref (He.ga K "at_most")) := by obtain ⟨h, X, G⟩ := E.ex; exact He.glo_ok X G (E.c.fact 19 (f := .glo "at_most") rfl)
theorem Env.g_greater_of {P : Program} {K : PySem.W.Frag} {mg : Str → Option Value} (E : Env P K mg) : mg "greater_of" = some (.ref (He.ga K "greater_of")) := by obtain ⟨h, X, G⟩ := E.ex; exact He.glo_ok X G (E.c.fact 20 (f := .glo "greater_of") rfl)
theorem Env.g_lesser_of {P : Program} {K : PySem.W.Frag} {mg : Str → Option Value} (E : Env P K mg) : mg "lesser_of" = some (.ref (He.ga K "lesser_of")) := by obtain ⟨h, X, G⟩ := E.ex; exact He.glo_ok X G (E.c.fact 21 (f := .glo "lesser_of") rfl)
theorem Env.g_common_divisor {P : Program} {K : PySem.W.Frag} {mg : Str → Option Value} (E : Env P K mg) : mg "common_divisor" = some (.ref (He.ga K "common_divisor")) := by obtain ⟨h, X, G⟩ := E.ex; exact He.glo_ok X G (E.c.fact 22 (f := .glo "common_divisor") rfl)
theorem Env.g_common_multiple {P : Program} {K : PySem.W.Frag} {mg : Str → Option Value} (E : Env P K mg) : mg "common_multiple" = some (.ref (He.ga K "common_multiple")) := by obtain ⟨h, X, G⟩ := E.ex; exact He.glo_ok X G (E.c.fact 23 (f := .glo "common_multiple") rfl)
theorem Env.g_end_of {P : Program} {K : PySem.W.Frag} {mg : Str → Option Value} (E : Env P K mg) : mg "end_of" = some (.ref (He.ga K "end_of")) := by obtain ⟨h, X, G⟩ := E.ex; exact He.glo_ok X G (E.c.fact 24 (f := .glo "end_of") rfl)
theorem Env.g_value_at {P : Program} {K : PySem.W.Frag} {mg : Str → Option Value} (E : Env P K mg) : mg "value_at" = some (.ref (He.ga K "value_at")) := by obtain ⟨h, X, G⟩ := E.ex; exact He.glo_ok X G (E.c.fact 25 (f := .glo "value_at") rfl)
theorem Env.g_short_loop {P : Program} {K : PySem.W.Frag} {mg : Str → Option Value} (E : Env P K mg) : mg "short_loop" = some (.ref (He.ga K "short_loop")) := by obtain ⟨h, X, G⟩ := E.ex; exact He.glo_ok X G (E.c.fact 26 (f := .glo "short_loop") rfl)
theorem Env.g_plain_form {P : Program} {K : PySem.W.Frag} {mg : Str → Option Value} (E : Env P K mg) : mg "plain_form" = some (.ref (He.ga K "plain_form")) := by obtain ⟨h, X, G⟩ := E.ex; exact He.glo_ok X G (E.c.fact 27 (f := .glo "plain_form") rfl)
theorem Env.g_formed {P : Program} {K : PySem.W.Frag} {mg : Str → Option Value} (E : Env P K mg) : mg "formed" = some (.ref (He.ga K "formed")) := by obtain ⟨h, X, G⟩ := E.ex; exact He.glo_ok X G (E.c.fact 28 (f := .glo "formed") rfl)
theorem Env.g_until_never {P : Program} {K : PySem.W.Frag} {mg : Str → Option Value} (E : Env P K mg) : mg "until_never" = some (.ref (He.ga K "until_never")) := by obtain ⟨h, X, G⟩ := E.ex; exact He.glo_ok X G (E.c.fact 29 (f := .glo "until_never") rfl)
theorem Env.g_first_beyond {P : Program} {K : PySem.W.Frag} {mg : Str → Option Value} (E : Env P K mg) : mg "first_beyond" = some (.ref (He.ga K "first_beyond")) := by obtain ⟨h, X, G⟩ := E.ex; exact He.glo_ok X G (E.c.fact 30 (f := .glo "first_beyond") rfl)
theorem Env.g_behind_raw {P : Program} {K : PySem.W.Frag} {mg : Str → Option Value} (E : Env P K mg) : mg "behind_raw" = some (.ref (He.ga K "behind_raw")) := by obtain ⟨h, X, G⟩ := E.ex; exact He.glo_ok X G (E.c.fact 31 (f := .glo "behind_raw") rfl)
theorem Env.g_later_start {P : Program} {K : PySem.W.Frag} {mg : Str → Option Value} (E : Env P K mg) : mg "later_start" = some (.ref (He.ga K "later_start")) := by obtain ⟨h, X, G⟩ := E.ex; exact He.glo_ok X G (E.c.fact 32 (f := .glo "later_start") rfl)
theorem Env.g_joined_values {P : Program} {K : PySem.W.Frag} {mg : Str → Option Value} (E : Env P K mg) : mg "joined_values" = some (.ref (He.ga K "joined_values")) := by obtain ⟨h, X, G⟩ := E.ex; exact He.glo_ok X G (E.c.fact 33 (f := .glo "joined_values") rfl)
theorem Env.g_joined_raw {P : Program} {K : PySem.W.Frag} {mg : Str → Option Value} (E : Env P K mg) : mg "joined_raw" = some (.ref (He.ga K "joined_raw")) := by obtain ⟨h, X, G⟩ := E.ex; exact He.glo_ok X G (E.c.fact 34 (f := .glo "joined_raw") rfl)
theorem Env.g_counts_below {P : Program} {K : PySem.W.Frag} {mg : Str → Option Value} (E : Env P K mg) : mg "counts_below" = some (.ref (He.ga K "counts_below")) := by obtain ⟨h, X, G⟩ := E.ex; exact He.glo_ok X G (E.c.fact 35 (f := .glo "counts_below") rfl)
theorem Env.g_turned_raw {P : Program} {K : PySem.W.Frag} {mg : Str → Option Value} (E : Env P K mg) : mg "turned_raw" = some (.ref (He.ga K "turned_raw")) := by obtain ⟨h, X, G⟩ := E.ex; exact He.glo_ok X G (E.c.fact 36 (f := .glo "turned_raw") rfl)
theorem Env.g_least_above {P : Program} {K : PySem.W.Frag} {mg : Str → Option Value} (E : Env P K mg) : mg "least_above" = some (.ref (He.ga K "least_above")) := by obtain ⟨h, X, G⟩ := E.ex; exact He.glo_ok X G (E.c.fact 37 (f := .glo "least_above") rfl)
theorem Env.g_below {P : Program} {K : PySem.W.Frag} {mg : Str → Option Value} (E : Env P K mg) : mg "below" = some (.ref (He.ga K "below")) := by obtain ⟨h, X, G⟩ := E.ex; exact He.glo_ok X G (E.c.fact 38 (f := .glo "below") rfl)
theorem Env.g_is_rising {P : Program} {K : PySem.W.Frag} {mg : Str → Option Value} (E : Env P K mg) : mg "is_rising" = some (.ref (He.ga K "is_rising")) := by obtain ⟨h, X, G⟩ := E.ex; exact He.glo_ok X G (E.c.fact 39 (f := .glo "is_rising") rfl)
theorem Env.g_checked_table {P : Program} {K : PySem.W.Frag} {mg : Str → Option Value} (E : Env P K mg) : mg "checked_table" = some (.ref (He.ga K "checked_table")) := by obtain ⟨h, X, G⟩ := E.ex; exact He.glo_ok X G (E.c.fact 40 (f := .glo "checked_table") rfl)
theorem Env.g_table_from {P : Program} {K : PySem.W.Frag} {mg : Str → Option Value} (E : Env P K mg) : mg "table_from" = some (.ref (He.ga K "table_from")) := by obtain ⟨h, X, G⟩ := E.ex; exact He.glo_ok X G (E.c.fact 41 (f := .glo "table_from") rfl)
theorem Env.g__law_source {P : Program} {K : PySem.W.Frag} {mg : Str → Option Value} (E : Env P K mg) : mg "_law_source" = some (.ref (He.ga K "_law_source")) := by obtain ⟨h, X, G⟩ := E.ex; exact He.glo_ok X G (E.c.fact 42 (f := .glo "_law_source") rfl)
theorem Env.g__law_pick {P : Program} {K : PySem.W.Frag} {mg : Str → Option Value} (E : Env P K mg) : mg "_law_pick" = some (.ref (He.ga K "_law_pick")) := by obtain ⟨h, X, G⟩ := E.ex; exact He.glo_ok X G (E.c.fact 43 (f := .glo "_law_pick") rfl)
theorem Env.g__law_is_integer {P : Program} {K : PySem.W.Frag} {mg : Str → Option Value} (E : Env P K mg) : mg "_law_is_integer" = some (.ref (He.ga K "_law_is_integer")) := by obtain ⟨h, X, G⟩ := E.ex; exact He.glo_ok X G (E.c.fact 44 (f := .glo "_law_is_integer") rfl)
theorem Env.g__law_is_count {P : Program} {K : PySem.W.Frag} {mg : Str → Option Value} (E : Env P K mg) : mg "_law_is_count" = some (.ref (He.ga K "_law_is_count")) := by obtain ⟨h, X, G⟩ := E.ex; exact He.glo_ok X G (E.c.fact 45 (f := .glo "_law_is_count") rfl)
theorem Env.g__law_truth {P : Program} {K : PySem.W.Frag} {mg : Str → Option Value} (E : Env P K mg) : mg "_law_truth" = some (.ref (He.ga K "_law_truth")) := by obtain ⟨h, X, G⟩ := E.ex; exact He.glo_ok X G (E.c.fact 46 (f := .glo "_law_truth") rfl)
theorem Env.g__law_is_value {P : Program} {K : PySem.W.Frag} {mg : Str → Option Value} (E : Env P K mg) : mg "_law_is_value" = some (.ref (He.ga K "_law_is_value")) := by obtain ⟨h, X, G⟩ := E.ex; exact He.glo_ok X G (E.c.fact 47 (f := .glo "_law_is_value") rfl)
theorem Env.g__law_le {P : Program} {K : PySem.W.Frag} {mg : Str → Option Value} (E : Env P K mg) : mg "_law_le" = some (.ref (He.ga K "_law_le")) := by obtain ⟨h, X, G⟩ := E.ex; exact He.glo_ok X G (E.c.fact 48 (f := .glo "_law_le") rfl)
theorem Env.g__law_rising {P : Program} {K : PySem.W.Frag} {mg : Str → Option Value} (E : Env P K mg) : mg "_law_rising" = some (.ref (He.ga K "_law_rising")) := by obtain ⟨h, X, G⟩ := E.ex; exact He.glo_ok X G (E.c.fact 49 (f := .glo "_law_rising") rfl)
theorem Env.g__law_mild {P : Program} {K : PySem.W.Frag} {mg : Str → Option Value} (E : Env P K mg) : mg "_law_mild" = some (.ref (He.ga K "_law_mild")) := by obtain ⟨h, X, G⟩ := E.ex; exact He.glo_ok X G (E.c.fact 50 (f := .glo "_law_mild") rfl)
theorem Env.g__law_end {P : Program} {K : PySem.W.Frag} {mg : Str → Option Value} (E : Env P K mg) : mg "_law_end" = some (.ref (He.ga K "_law_end")) := by obtain ⟨h, X, G⟩ := E.ex; exact He.glo_ok X G (E.c.fact 51 (f := .glo "_law_end") rfl)
theorem Env.g__law_at {P : Program} {K : PySem.W.Frag} {mg : Str → Option Value} (E : Env P K mg) : mg "_law_at" = some (.ref (He.ga K "_law_at")) := by obtain ⟨h, X, G⟩ := E.ex; exact He.glo_ok X G (E.c.fact 52 (f := .glo "_law_at") rfl)
theorem Env.g__law_gcd {P : Program} {K : PySem.W.Frag} {mg : Str → Option Value} (E : Env P K mg) : mg "_law_gcd" = some (.ref (He.ga K "_law_gcd")) := by obtain ⟨h, X, G⟩ := E.ex; exact He.glo_ok X G (E.c.fact 53 (f := .glo "_law_gcd") rfl)
theorem Env.g__law_plain {P : Program} {K : PySem.W.Frag} {mg : Str → Option Value} (E : Env P K mg) : mg "_law_plain" = some (.ref (He.ga K "_law_plain")) := by obtain ⟨h, X, G⟩ := E.ex; exact He.glo_ok X G (E.c.fact 54 (f := .glo "_law_plain") rfl)
theorem Env.g__law_fit {P : Program} {K : PySem.W.Frag} {mg : Str → Option Value} (E : Env P K mg) : mg "_law_fit" = some (.ref (He.ga K "_law_fit")) := by obtain ⟨h, X, G⟩ := E.ex; exact He.glo_ok X G (E.c.fact 55 (f := .glo "_law_fit") rfl)
theorem Env.g__law_counts {P : Program} {K : PySem.W.Frag} {mg : Str → Option Value} (E : Env P K mg) : mg "_law_counts" = some (.ref (He.ga K "_law_counts")) := by obtain ⟨h, X, G⟩ := E.ex; exact He.glo_ok X G (E.c.fact 56 (f := .glo "_law_counts") rfl)
theorem Env.g__law_behind {P : Program} {K : PySem.W.Frag} {mg : Str → Option Value} (E : Env P K mg) : mg "_law_behind" = some (.ref (He.ga K "_law_behind")) := by obtain ⟨h, X, G⟩ := E.ex; exact He.glo_ok X G (E.c.fact 57 (f := .glo "_law_behind") rfl)
theorem Env.g__law_turn {P : Program} {K : PySem.W.Frag} {mg : Str → Option Value} (E : Env P K mg) : mg "_law_turn" = some (.ref (He.ga K "_law_turn")) := by obtain ⟨h, X, G⟩ := E.ex; exact He.glo_ok X G (E.c.fact 58 (f := .glo "_law_turn") rfl)
theorem Env.g__law_over {P : Program} {K : PySem.W.Frag} {mg : Str → Option Value} (E : Env P K mg) : mg "_law_over" = some (.ref (He.ga K "_law_over")) := by obtain ⟨h, X, G⟩ := E.ex; exact He.glo_ok X G (E.c.fact 59 (f := .glo "_law_over") rfl)
theorem Env.g__law_above {P : Program} {K : PySem.W.Frag} {mg : Str → Option Value} (E : Env P K mg) : mg "_law_above" = some (.ref (He.ga K "_law_above")) := by obtain ⟨h, X, G⟩ := E.ex; exact He.glo_ok X G (E.c.fact 60 (f := .glo "_law_above") rfl)
theorem Env.g__law_reach {P : Program} {K : PySem.W.Frag} {mg : Str → Option Value} (E : Env P K mg) : mg "_law_reach" = some (.ref (He.ga K "_law_reach")) := by obtain ⟨h, X, G⟩ := E.ex; exact He.glo_ok X G (E.c.fact 61 (f := .glo "_law_reach") rfl)
theorem Env.g__law_same {P : Program} {K : PySem.W.Frag} {mg : Str → Option Value} (E : Env P K mg) : mg "_law_same" = some (.ref (He.ga K "_law_same")) := by obtain ⟨h, X, G⟩ := E.ex; exact He.glo_ok X G (E.c.fact 62 (f := .glo "_law_same") rfl)
theorem Env.g__law_table {P : Program} {K : PySem.W.Frag} {mg : Str → Option Value} (E : Env P K mg) : mg "_law_table" = some (.ref (He.ga K "_law_table")) := by obtain ⟨h, X, G⟩ := E.ex; exact He.glo_ok X G (E.c.fact 63 (f := .glo "_law_table") rfl)
theorem Env.g__law_values {P : Program} {K : PySem.W.Frag} {mg : Str → Option Value} (E : Env P K mg) : mg "_law_values" = some (.ref (He.ga K "_law_values")) := by obtain ⟨h, X, G⟩ := E.ex; exact He.glo_ok X G (E.c.fact 64 (f := .glo "_law_values") rfl)
theorem Env.g__law_third {P : Program} {K : PySem.W.Frag} {mg : Str → Option Value} (E : Env P K mg) : mg "_law_third" = some (.ref (He.ga K "_law_third")) := by obtain ⟨h, X, G⟩ := E.ex; exact He.glo_ok X G (E.c.fact 65 (f := .glo "_law_third") rfl)
theorem Env.g_law {P : Program} {K : PySem.W.Frag} {mg : Str → Option Value} (E : Env P K mg) : mg "law" = some (.ref (He.ga K "law")) := by obtain ⟨h, X, G⟩ := E.ex; exact He.glo_ok X G (E.c.fact 66 (f := .glo "law") rfl)
theorem Env.m_Table_init {P : Program} {K : PySem.W.Frag} {mg : Str → Option Value} (E : Env P K mg) : Meth K (He.ga K "Table") "__init__" (He.ma K (He.ga K "Table") "__init__") := He.meth_ok (E.c.fact 67 (f := .meth "Table" "__init__") rfl)
theorem Env.m_Table_call {P : Program} {K : PySem.W.Frag} {mg : Str → Option Value} (E : Env P K mg) : Meth K (He.ga K "Table") "__call__" (He.ma K (He.ga K "Table") "__call__") := He.meth_ok (E.c.fact 68 (f := .meth "Table" "__call__") rfl)
theorem Env.m_Table_raw {P : Program} {K : PySem.W.Frag} {mg : Str → Option Value} (E : Env P K mg) : Meth K (He.ga K "Table") "raw" (He.ma K (He.ga K "Table") "raw") := He.meth_ok (E.c.fact 69 (f := .meth "Table" "raw") rfl)
theorem Env.m_Table_eq {P : Program} {K : PySem.W.Frag} {mg : Str → Option Value} (E : Env P K mg) : Meth K (He.ga K "Table") "__eq__" (He.ma K (He.ga K "Table") "__eq__") := He.meth_ok (E.c.fact 70 (f := .meth "Table" "__eq__") rfl)
theorem Env.m_Table_and {P : Program} {K : PySem.W.Frag} {mg : Str → Option Value} (E : Env P K mg) : Meth K (He.ga K "Table") "__and__" (He.ma K (He.ga K "Table") "__and__") := He.meth_ok (E.c.fact 71 (f := .meth "Table" "__and__") rfl)
theorem Env.m_Table_or {P : Program} {K : PySem.W.Frag} {mg : Str → Option Value} (E : Env P K mg) : Meth K (He.ga K "Table") "__or__" (He.ma K (He.ga K "Table") "__or__") := He.meth_ok (E.c.fact 72 (f := .meth "Table" "__or__") rfl)
theorem Env.m_Table_mul {P : Program} {K : PySem.W.Frag} {mg : Str → Option Value} (E : Env P K mg) : Meth K (He.ga K "Table") "__mul__" (He.ma K (He.ga K "Table") "__mul__") := He.meth_ok (E.c.fact 73 (f := .meth "Table" "__mul__") rfl)
theorem Env.m_Table_invert {P : Program} {K : PySem.W.Frag} {mg : Str → Option Value} (E : Env P K mg) : Meth K (He.ga K "Table") "__invert__" (He.ma K (He.ga K "Table") "__invert__") := He.meth_ok (E.c.fact 74 (f := .meth "Table" "__invert__") rfl)
theorem Env.m_Verdict_init {P : Program} {K : PySem.W.Frag} {mg : Str → Option Value} (E : Env P K mg) : Meth K (He.ga K "Verdict") "__init__" (He.ma K (He.ga K "Verdict") "__init__") := He.meth_ok (E.c.fact 75 (f := .meth "Verdict" "__init__") rfl)
theorem Env.m_Below_init {P : Program} {K : PySem.W.Frag} {mg : Str → Option Value} (E : Env P K mg) : Meth K (He.ga K "Below") "__init__" (He.ma K (He.ga K "Below") "__init__") := He.meth_ok (E.c.fact 76 (f := .meth "Below" "__init__") rfl)
theorem Env.g_Table {P : Program} {K : PySem.W.Frag} {mg : Str → Option Value} (E : Env P K mg) : mg "Table" = some (.ref (He.ga K "Table")) := by obtain ⟨h, X, G⟩ := E.ex; exact He.glo_ok X G (E.c.fact 77 (f := .glo "Table") rfl)
theorem Env.c_Table {P : Program} {K : PySem.W.Frag} {mg : Str → Option Value} (E : Env P K mg) : Cls K (He.ga K "Table") := He.cls_ok (E.c.fact 78 (f := .cls "Table") rfl)
theorem Env.mk_Table {P : Program} {K : PySem.W.Frag} {mg : Str → Option Value} (E : Env P K mg) : Mk K (He.ga K "Table") (He.ma K (He.ga K "Table") "__init__") := He.mkr_ok (E.c.fact 79 (f := .mkr "Table") rfl)
theorem Env.na_Table_head {P : Program} {K : PySem.W.Frag} {mg : Str → Option Value} (E : Env P K mg) : NoAttr K (He.ga K "Table") "head" := He.noat_ok (E.c.fact 80 (f := .noat "Table" "head") rfl)
theorem Env.na_Table_loop {P : Program} {K : PySem.W.Frag} {mg : Str → Option Value} (E : Env P K mg) : NoAttr K (He.ga K "Table") "loop" := He.noat_ok (E.c.fact 81 (f := .noat "Table" "loop") rfl)
theorem Env.na_Table_rise {P : Program} {K : PySem.W.Frag} {mg : Str → Option Value} (E : Env P K mg) : NoAttr K (He.ga K "Table") "rise" := He.noat_ok (E.c.fact 82 (f := .noat "Table" "rise") rfl)
theorem Env.ins_Table {P : Program} {K : PySem.W.Frag} {mg : Str → Option Value} (E : Env P K mg) : insB "Table" K = true := (E.x 0 (f := insB "Table") rfl)
theorem Env.kit_Table_self {P : Program} {K : PySem.W.Frag} {mg : Str → Option Value} (E : Env P K mg) : PySem.W.kitOne K (.ref (He.ga K "Table")) (.ref (He.ga K "Table")) = some true := of_decide_eq_true (E.x 1 (f := kitSB "Table") rfl)
theorem Env.nf_Table_self {P : Program} {K : PySem.W.Frag} {mg : Str → Option Value} (E : Env P K mg) : PySem.W.notFirst K (He.ga K "Table") (.ref (He.ga K "Table")) = true := (E.x 2 (f := fun K => PySem.W.notFirst K (He.ga K "Table") (.ref (He.ga K "Table"))) rfl)
theorem Env.ne_Table {P : Program} {K : PySem.W.Frag} {mg : Str → Option Value} (E : Env P K mg) : PySem.W.findIn K (.ref (He.ga K "Table")) "__ne__" = some (some (.builtin "object.__ne__")) := He.eqO_ok (E.x 3 (f := fun K => He.eqO (PySem.W.findIn K (.ref (He.ga K "Table")) "__ne__") (some (some (.builtin "object.__ne__")))) rfl)
theorem Env.mo_Table {P : Program} {K : PySem.W.Frag} {mg : Str → Option Value} (E : Env P K mg) : PySem.W.mroIn K (He.ga K "Table") (.type "object") = some true := of_decide_eq_true (E.x 4 (f := fun K => decide (PySem.W.mroIn K (He.ga K "Table") (.type "object") = some true)) rfl)
theorem Env.kit_Table_tuple {P : Program} {K : PySem.W.Frag} {mg : Str → Option Value} (E : Env P K mg) : PySem.W.kitOne K (.type "tuple") (.ref (He.ga K "Table")) = some false := of_decide_eq_true (E.x 5 (f := kitB "Table" "tuple" false) rfl)
theorem Env.nf_Table_tuple {P : Program} {K : PySem.W.Frag} {mg : Str → Option Value} (E : Env P K mg) : PySem.W.notFirst K (He.ga K "Table") (.type "tuple") = true := (E.x 6 (f := nfB "Table" "tuple") rfl)
theorem Env.kit_Table_list {P : Program} {K : PySem.W.Frag} {mg : Str → Option Value} (E : Env P K mg) : PySem.W.kitOne K (.type "list") (.ref (He.ga K "Table")) = some false := of_decide_eq_true (E.x 7 (f := kitB "Table" "list" false) rfl)
theorem Env.nf_Table_list {P : Program} {K : PySem.W.Frag} {mg : Str → Option Value} (E : Env P K mg) : PySem.W.notFirst K (He.ga K "Table") (.type "list") = true := (E.x 8 (f := nfB "Table" "list") rfl)
theorem Env.kit_Table_int {P : Program} {K : PySem.W.Frag} {mg : Str → Option Value} (E : Env P K mg) : PySem.W.kitOne K (.type "int") (.ref (He.ga K "Table")) = some false := of_decide_eq_true (E.x 9 (f := kitB "Table" "int" false) rfl)
theorem Env.nf_Table_int {P : Program} {K : PySem.W.Frag} {mg : Str → Option Value} (E : Env P K mg) : PySem.W.notFirst K (He.ga K "Table") (.type "int") = true := (E.x 10 (f := nfB "Table" "int") rfl)
theorem Env.kit_Table_NoneType {P : Program} {K : PySem.W.Frag} {mg : Str → Option Value} (E : Env P K mg) : PySem.W.kitOne K (.type "NoneType") (.ref (He.ga K "Table")) = some false := of_decide_eq_true (E.x 11 (f := kitB "Table" "NoneType" false) rfl)
theorem Env.nf_Table_NoneType {P : Program} {K : PySem.W.Frag} {mg : Str → Option Value} (E : Env P K mg) : PySem.W.notFirst K (He.ga K "Table") (.type "NoneType") = true := (E.x 12 (f := nfB "Table" "NoneType") rfl)
theorem Env.kit_Table_str {P : Program} {K : PySem.W.Frag} {mg : Str → Option Value} (E : Env P K mg) : PySem.W.kitOne K (.type "str") (.ref (He.ga K "Table")) = some false := of_decide_eq_true (E.x 13 (f := kitB "Table" "str" false) rfl)
theorem Env.nf_Table_str {P : Program} {K : PySem.W.Frag} {mg : Str → Option Value} (E : Env P K mg) : PySem.W.notFirst K (He.ga K "Table") (.type "str") = true := (E.x 14 (f := nfB "Table" "str") rfl)
theorem Env.kit_Table_bool {P : Program} {K : PySem.W.Frag} {mg : Str → Option Value} (E : Env P K mg) : PySem.W.kitOne K (.type "bool") (.ref (He.ga K "Table")) = some false := of_decide_eq_true (E.x 15 (f := kitB "Table" "bool" false) rfl)
theorem Env.nf_Table_bool {P : Program} {K : PySem.W.Frag} {mg : Str → Option Value} (E : Env P K mg) : PySem.W.notFirst K (He.ga K "Table") (.type "bool") = true := (E.x 16 (f := nfB "Table" "bool") rfl)
theorem Env.g_Below {P : Program} {K : PySem.W.Frag} {mg : Str → Option Value} (E : Env P K mg) : mg "Below" = some (.ref (He.ga K "Below")) := by obtain ⟨h, X, G⟩ := E.ex; exact He.glo_ok X G (E.c.fact 83 (f := .glo "Below") rfl)
theorem Env.c_Below {P : Program} {K : PySem.W.Frag} {mg : Str → Option Value} (E : Env P K mg) : Cls K (He.ga K "Below") := He.cls_ok (E.c.fact 84 (f := .cls "Below") rfl)
theorem Env.mk_Below {P : Program} {K : PySem.W.Frag} {mg : Str → Option Value} (E : Env P K mg) : Mk K (He.ga K "Below") (He.ma K (He.ga K "Below") "__init__") := He.mkr_ok (E.c.fact 85 (f := .mkr "Below") rfl)
theorem Env.na_Below_first {P : Program} {K : PySem.W.Frag} {mg : Str → Option Value} (E : Env P K mg) : NoAttr K (He.ga K "Below") "first" := He.noat_ok (E.c.fact 86 (f := .noat "Below" "first") rfl)
theorem Env.na_Below_second {P : Program} {K : PySem.W.Frag} {mg : Str → Option Value} (E : Env P K mg) : NoAttr K (He.ga K "Below") "second" := He.noat_ok (E.c.fact 87 (f := .noat "Below" "second") rfl)
theorem Env.na_Below_place {P : Program} {K : PySem.W.Frag} {mg : Str → Option Value} (E : Env P K mg) : NoAttr K (He.ga K "Below") "place" := He.noat_ok (E.c.fact 88 (f := .noat "Below" "place") rfl)
theorem Env.na_Below_sides {P : Program} {K : PySem.W.Frag} {mg : Str → Option Value} (E : Env P K mg) : NoAttr K (He.ga K "Below") "sides" := He.noat_ok (E.c.fact 89 (f := .noat "Below" "sides") rfl)
theorem Env.na_Below_holds {P : Program} {K : PySem.W.Frag} {mg : Str → Option Value} (E : Env P K mg) : NoAttr K (He.ga K "Below") "holds" := He.noat_ok (E.c.fact 90 (f := .noat "Below" "holds") rfl)
theorem Env.ins_Below {P : Program} {K : PySem.W.Frag} {mg : Str → Option Value} (E : Env P K mg) : insB "Below" K = true := (E.x 17 (f := insB "Below") rfl)
theorem Env.kit_Below_self {P : Program} {K : PySem.W.Frag} {mg : Str → Option Value} (E : Env P K mg) : PySem.W.kitOne K (.ref (He.ga K "Below")) (.ref (He.ga K "Below")) = some true := of_decide_eq_true (E.x 18 (f := kitSB "Below") rfl)
theorem Env.nf_Below_self {P : Program} {K : PySem.W.Frag} {mg : Str → Option Value} (E : Env P K mg) : PySem.W.notFirst K (He.ga K "Below") (.ref (He.ga K "Below")) = true := (E.x 19 (f := fun K => PySem.W.notFirst K (He.ga K "Below") (.ref (He.ga K "Below"))) rfl)
theorem Env.ne_Below {P : Program} {K : PySem.W.Frag} {mg : Str → Option Value} (E : Env P K mg) : PySem.W.findIn K (.ref (He.ga K "Below")) "__ne__" = some (some (.builtin "object.__ne__")) := He.eqO_ok (E.x 20 (f := fun K => He.eqO (PySem.W.findIn K (.ref (He.ga K "Below")) "__ne__") (some (some (.builtin "object.__ne__")))) rfl)
theorem Env.mo_Below {P : Program} {K : PySem.W.Frag} {mg : Str → Option Value} (E : Env P K mg) : PySem.W.mroIn K (He.ga K "Below") (.type "object") = some true := of_decide_eq_true (E.x 21 (f := fun K => decide (PySem.W.mroIn K (He.ga K "Below") (.type "object") = some true)) rfl)
theorem Env.kit_Below_tuple {P : Program} {K : PySem.W.Frag} {mg : Str → Option Value} (E : Env P K mg) : PySem.W.kitOne K (.type "tuple") (.ref (He.ga K "Below")) = some false := of_decide_eq_true (E.x 22 (f := kitB "Below" "tuple" false) rfl)
theorem Env.nf_Below_tuple {P : Program} {K : PySem.W.Frag} {mg : Str → Option Value} (E : Env P K mg) : PySem.W.notFirst K (He.ga K "Below") (.type "tuple") = true := (E.x 23 (f := nfB "Below" "tuple") rfl)
theorem Env.kit_Below_list {P : Program} {K : PySem.W.Frag} {mg : Str → Option Value} (E : Env P K mg) : PySem.W.kitOne K (.type "list") (.ref (He.ga K "Below")) = some false := of_decide_eq_true (E.x 24 (f := kitB "Below" "list" false) rfl)
theorem Env.nf_Below_list {P : Program} {K : PySem.W.Frag} {mg : Str → Option Value} (E : Env P K mg) : PySem.W.notFirst K (He.ga K "Below") (.type "list") = true := (E.x 25 (f := nfB "Below" "list") rfl)
theorem Env.kit_Below_int {P : Program} {K : PySem.W.Frag} {mg : Str → Option Value} (E : Env P K mg) : PySem.W.kitOne K (.type "int") (.ref (He.ga K "Below")) = some false := of_decide_eq_true (E.x 26 (f := kitB "Below" "int" false) rfl)
theorem Env.nf_Below_int {P : Program} {K : PySem.W.Frag} {mg : Str → Option Value} (E : Env P K mg) : PySem.W.notFirst K (He.ga K "Below") (.type "int") = true := (E.x 27 (f := nfB "Below" "int") rfl)
theorem Env.kit_Below_NoneType {P : Program} {K : PySem.W.Frag} {mg : Str → Option Value} (E : Env P K mg) : PySem.W.kitOne K (.type "NoneType") (.ref (He.ga K "Below")) = some false := of_decide_eq_true (E.x 28 (f := kitB "Below" "NoneType" false) rfl)
theorem Env.nf_Below_NoneType {P : Program} {K : PySem.W.Frag} {mg : Str → Option Value} (E : Env P K mg) : PySem.W.notFirst K (He.ga K "Below") (.type "NoneType") = true := (E.x 29 (f := nfB "Below" "NoneType") rfl)
theorem Env.kit_Below_str {P : Program} {K : PySem.W.Frag} {mg : Str → Option Value} (E : Env P K mg) : PySem.W.kitOne K (.type "str") (.ref (He.ga K "Below")) = some false := of_decide_eq_true (E.x 30 (f := kitB "Below" "str" false) rfl)
theorem Env.nf_Below_str {P : Program} {K : PySem.W.Frag} {mg : Str → Option Value} (E : Env P K mg) : PySem.W.notFirst K (He.ga K "Below") (.type "str") = true := (E.x 31 (f := nfB "Below" "str") rfl)
theorem Env.kit_Below_bool {P : Program} {K : PySem.W.Frag} {mg : Str → Option Value} (E : Env P K mg) : PySem.W.kitOne K (.type "bool") (.ref (He.ga K "Below")) = some false := of_decide_eq_true (E.x 32 (f := kitB "Below" "bool" false) rfl)
theorem Env.nf_Below_bool {P : Program} {K : PySem.W.Frag} {mg : Str → Option Value} (E : Env P K mg) : PySem.W.notFirst K (He.ga K "Below") (.type "bool") = true := (E.x 33 (f := nfB "Below" "bool") rfl)
theorem Env.g_Verdict {P : Program} {K : PySem.W.Frag} {mg : Str → Option Value} (E : Env P K mg) : mg "Verdict" = some (.ref (He.ga K "Verdict")) := by obtain ⟨h, X, G⟩ := E.ex; exact He.glo_ok X G (E.c.fact 91 (f := .glo "Verdict") rfl)
theorem Env.call_Table {P : Program} {K : PySem.W.Frag} {mg : Str → Option Value} (E : Env P K mg) : StX.CallO K (He.ga K "Table") (He.ma K (He.ga K "Table") "__call__") := callB_ok (E.x 34 (f := callB "Table") rfl)
theorem Env.t0_Table {P : Program} {K : PySem.W.Frag} {mg : Str → Option Value} (E : Env P K mg) : ∀ H, SqT K H (He.dflAt ("Table", some "__init__") 0 K) [] := tup0B_ok (E.x 35 (f := fun K => tup0B K (He.dflAt ("Table", some "__init__") 0 K)) rfl)
theorem Env.sf_Table {P : Program} {K : PySem.W.Frag} {mg : Str → Option Value} (E : Env P K mg) : PySem.W.selfFirst K (He.ga K "Table") = true := (E.x 36 (f := fun K => PySem.W.selfFirst K (He.ga K "Table")) rfl)
theorem Env.f_super {P : Program} {K : PySem.W.Frag} {mg : Str → Option Value} (E : Env P K mg) : mg "super" = none := by obtain ⟨h, X, G⟩ := E.ex; exact He.free_ok X G (E.c.fact 92 (f := .free "super") rfl)
theorem Env.sup_Below {P : Program} {K : PySem.W.Frag} {mg : Str → Option Value} (E : Env P K mg) : SupOf P K mg (He.ga K "Below") (cellOf K (d_Below_init.adr K)) (codeOf K (d_Below_init.adr K)) (He.ma K (He.ga K "Verdict") "__init__") := supB0_ok mainFile E.pf.1 E.pf.2 E.f_super (E.x 37 (f := fun K => supB0 mainFile K (He.ga K "Below") (d_Below_init.adr K) (He.ma K (He.ga K "Verdict") "__init__")) rfl)
theorem Env.kit_Verdict_Below {P : Program} {K : PySem.W.Frag} {mg : Str → Option Value} (E : Env P K mg) : PySem.W.kitOne K (.ref (He.ga K "Below")) (.ref (He.ga K "Verdict")) = some true := of_decide_eq_true (E.x 38 (f := fun K => decide (PySem.W.kitOne K (.ref (He.ga K "Below")) (.ref (He.ga K "Verdict")) = some true)) rfl)
theorem Env.dd_under {P : Program} {K : PySem.W.Frag} {mg : Str → Option Value} (E : Env P K mg) : ∃ fd, FunD K "under" "under" (defArgs s_under) (defBody s_under) (defScope s_under) (d_under.dvs K) [] (d_under.adr K) fd := E.c.def_ 0 (d := d_under) rfl
theorem Env.dd_over {P : Program} {K : PySem.W.Frag} {mg : Str → Option Value} (E : Env P K mg) : ∃ fd, FunD K "over" "over" (defArgs s_over) (defBody s_over) (defScope s_over) (d_over.dvs K) [] (d_over.adr K) fd := E.c.def_ 1 (d := d_over) rfl
theorem Env.dd_is_integer {P : Program} {K : PySem.W.Frag} {mg : Str → Option Value} (E : Env P K mg) : ∃ fd, FunD K "is_integer" "is_integer" (defArgs s_is_integer) (defBody s_is_integer) (defScope s_is_integer) (d_is_integer.dvs K) [] (d_is_integer.adr K) fd := E.c.def_ 2 (d := d_is_integer) rfl
theorem Env.dd_is_count {P : Program} {K : PySem.W.Frag} {mg : Str → Option Value} (E : Env P K mg) : ∃ fd, FunD K "is_count" "is_count" (defArgs s_is_count) (defBody s_is_count) (defScope s_is_count) (d_is_count.dvs K) [] (d_is_count.adr K) fd := E.c.def_ 3 (d := d_is_count) rfl
theorem Env.dd_is_listed {P : Program} {K : PySem.W.Frag} {mg : Str → Option Value} (E : Env P K mg) : ∃ fd, FunD K "is_listed" "is_listed" (defArgs s_is_listed) (defBody s_is_listed) (defScope s_is_listed) (d_is_listed.dvs K) [] (d_is_listed.adr K) fd := E.c.def_ 4 (d := d_is_listed) rfl
theorem Env.dd_is_counts {P : Program} {K : PySem.W.Frag} {mg : Str → Option Value} (E : Env P K mg) : ∃ fd, FunD K "is_counts" "is_counts" (defArgs s_is_counts) (defBody s_is_counts) (defScope s_is_counts) (d_is_counts.dvs K) [] (d_is_counts.adr K) fd := E.c.def_ 5 (d := d_is_counts) rfl
theorem Env.dd_deep {P : Program} {K : PySem.W.Frag} {mg : Str → Option Value} (E : Env P K mg) : ∃ fd, FunD K "deep" "deep" (defArgs s_deep) (defBody s_deep) (defScope s_deep) (d_deep.dvs K) [] (d_deep.adr K) fd := E.c.def_ 6 (d := d_deep) rfl
theorem Env.dd_at_most {P : Program} {K : PySem.W.Frag} {mg : Str → Option Value} (E : Env P K mg) : ∃ fd, FunD K "at_most" "at_most" (defArgs s_at_most) (defBody s_at_most) (defScope s_at_most) (d_at_most.dvs K) [] (d_at_most.adr K) fd := E.c.def_ 7 (d := d_at_most) rfl
theorem Env.dd_greater_of {P : Program} {K : PySem.W.Frag} {mg : Str → Option Value} (E : Env P K mg) : ∃ fd, FunD K "greater_of" "greater_of" (defArgs s_greater_of) (defBody s_greater_of) (defScope s_greater_of) (d_greater_of.dvs K) [] (d_greater_of.adr K) fd := E.c.def_ 8 (d := d_greater_of) rfl
theorem Env.dd_lesser_of {P : Program} {K : PySem.W.Frag} {mg : Str → Option Value} (E : Env P K mg) : ∃ fd, FunD K "lesser_of" "lesser_of" (defArgs s_lesser_of) (defBody s_lesser_of) (defScope s_lesser_of) (d_lesser_of.dvs K) [] (d_lesser_of.adr K) fd := E.c.def_ 9 (d := d_lesser_of) rfl
theorem Env.dd_common_divisor {P : Program} {K : PySem.W.Frag} {mg : Str → Option Value} (E : Env P K mg) : ∃ fd, FunD K "common_divisor" "common_divisor" (defArgs s_common_divisor) (defBody s_common_divisor) (defScope s_common_divisor) (d_common_divisor.dvs K) [] (d_common_divisor.adr K) fd := E.c.def_ 10 (d := d_common_divisor) rfl
theorem Env.dd_common_multiple {P : Program} {K : PySem.W.Frag} {mg : Str → Option Value} (E : Env P K mg) : ∃ fd, FunD K "common_multiple" "common_multiple" (defArgs s_common_multiple) (defBody s_common_multiple) (defScope s_common_multiple) (d_common_multiple.dvs K) [] (d_common_multiple.adr K) fd := E.c.def_ 11 (d := d_common_multiple) rfl
theorem Env.dd_end_of {P : Program} {K : PySem.W.Frag} {mg : Str → Option Value} (E : Env P K mg) : ∃ fd, FunD K "end_of" "end_of" (defArgs s_end_of) (defBody s_end_of) (defScope s_end_of) (d_end_of.dvs K) [] (d_end_of.adr K) fd := E.c.def_ 12 (d := d_end_of) rfl
theorem Env.dd_value_at {P : Program} {K : PySem.W.Frag} {mg : Str → Option Value} (E : Env P K mg) : ∃ fd, FunD K "value_at" "value_at" (defArgs s_value_at) (defBody s_value_at) (defScope s_value_at) (d_value_at.dvs K) [] (d_value_at.adr K) fd := E.c.def_ 13 (d := d_value_at) rfl
theorem Env.dd_short_loop {P : Program} {K : PySem.W.Frag} {mg : Str → Option Value} (E : Env P K mg) : ∃ fd, FunD K "short_loop" "short_loop" (defArgs s_short_loop) (defBody s_short_loop) (defScope s_short_loop) (d_short_loop.dvs K) [] (d_short_loop.adr K) fd := E.c.def_ 14 (d := d_short_loop) rfl
theorem Env.dd_plain_form {P : Program} {K : PySem.W.Frag} {mg : Str → Option Value} (E : Env P K mg) : ∃ fd, FunD K "plain_form" "plain_form" (defArgs s_plain_form) (defBody s_plain_form) (defScope s_plain_form) (d_plain_form.dvs K) [] (d_plain_form.adr K) fd := E.c.def_ 15 (d := d_plain_form) rfl
theorem Env.dd_formed {P : Program} {K : PySem.W.Frag} {mg : Str → Option Value} (E : Env P K mg) : ∃ fd, FunD K "formed" "formed" (defArgs s_formed) (defBody s_formed) (defScope s_formed) (d_formed.dvs K) [] (d_formed.adr K) fd := E.c.def_ 16 (d := d_formed) rfl
theorem Env.dd_until_never {P : Program} {K : PySem.W.Frag} {mg : Str → Option Value} (E : Env P K mg) : ∃ fd, FunD K "until_never" "until_never" (defArgs s_until_never) (defBody s_until_never) (defScope s_until_never) (d_until_never.dvs K) [] (d_until_never.adr K) fd := E.c.def_ 17 (d := d_until_never) rfl
theorem Env.dd_first_beyond {P : Program} {K : PySem.W.Frag} {mg : Str → Option Value} (E : Env P K mg) : ∃ fd, FunD K "first_beyond" "first_beyond" (defArgs s_first_beyond) (defBody s_first_beyond) (defScope s_first_beyond) (d_first_beyond.dvs K) [] (d_first_beyond.adr K) fd := E.c.def_ 18 (d := d_first_beyond) rfl
theorem Env.dd_behind_raw {P : Program} {K : PySem.W.Frag} {mg : Str → Option Value} (E : Env P K mg) : ∃ fd, FunD K "behind_raw" "behind_raw" (defArgs s_behind_raw) (defBody s_behind_raw) (defScope s_behind_raw) (d_behind_raw.dvs K) [] (d_behind_raw.adr K) fd := E.c.def_ 19 (d := d_behind_raw) rfl
theorem Env.dd_later_start {P : Program} {K : PySem.W.Frag} {mg : Str → Option Value} (E : Env P K mg) : ∃ fd, FunD K "later_start" "later_start" (defArgs s_later_start) (defBody s_later_start) (defScope s_later_start) (d_later_start.dvs K) [] (d_later_start.adr K) fd := E.c.def_ 20 (d := d_later_start) rfl
theorem Env.dd_joined_values {P : Program} {K : PySem.W.Frag} {mg : Str → Option Value} (E : Env P K mg) : ∃ fd, FunD K "joined_values" "joined_values" (defArgs s_joined_values) (defBody s_joined_values) (defScope s_joined_values) (d_joined_values.dvs K) [] (d_joined_values.adr K) fd := E.c.def_ 21 (d := d_joined_values) rfl
theorem Env.dd_joined_raw {P : Program} {K : PySem.W.Frag} {mg : Str → Option Value} (E : Env P K mg) : ∃ fd, FunD K "joined_raw" "joined_raw" (defArgs s_joined_raw) (defBody s_joined_raw) (defScope s_joined_raw) (d_joined_raw.dvs K) [] (d_joined_raw.adr K) fd := E.c.def_ 22 (d := d_joined_raw) rfl
theorem Env.dd_counts_below {P : Program} {K : PySem.W.Frag} {mg : Str → Option Value} (E : Env P K mg) : ∃ fd, FunD K "counts_below" "counts_below" (defArgs s_counts_below) (defBody s_counts_below) (defScope s_counts_below) (d_counts_below.dvs K) [] (d_counts_below.adr K) fd := E.c.def_ 23 (d := d_counts_below) rfl
theorem Env.dd_turned_raw {P : Program} {K : PySem.W.Frag} {mg : Str → Option Value} (E : Env P K mg) : ∃ fd, FunD K "turned_raw" "turned_raw" (defArgs s_turned_raw) (defBody s_turned_raw) (defScope s_turned_raw) (d_turned_raw.dvs K) [] (d_turned_raw.adr K) fd := E.c.def_ 24 (d := d_turned_raw) rfl
theorem Env.dd_least_above {P : Program} {K : PySem.W.Frag} {mg : Str → Option Value} (E : Env P K mg) : ∃ fd, FunD K "least_above" "least_above" (defArgs s_least_above) (defBody s_least_above) (defScope s_least_above) (d_least_above.dvs K) [] (d_least_above.adr K) fd := E.c.def_ 25 (d := d_least_above) rfl
theorem Env.dd_below {P : Program} {K : PySem.W.Frag} {mg : Str → Option Value} (E : Env P K mg) : ∃ fd, FunD K "below" "below" (defArgs s_below) (defBody s_below) (defScope s_below) (d_below.dvs K) [] (d_below.adr K) fd := E.c.def_ 26 (d := d_below) rfl
theorem Env.dd_is_rising {P : Program} {K : PySem.W.Frag} {mg : Str → Option Value} (E : Env P K mg) : ∃ fd, FunD K "is_rising" "is_rising" (defArgs s_is_rising) (defBody s_is_rising) (defScope s_is_rising) (d_is_rising.dvs K) [] (d_is_rising.adr K) fd := E.c.def_ 27 (d := d_is_rising) rfl
theorem Env.dd_checked_table {P : Program} {K : PySem.W.Frag} {mg : Str → Option Value} (E : Env P K mg) : ∃ fd, FunD K "checked_table" "checked_table" (defArgs s_checked_table) (defBody s_checked_table) (defScope s_checked_table) (d_checked_table.dvs K) [] (d_checked_table.adr K) fd := E.c.def_ 28 (d := d_checked_table) rfl
theorem Env.dd_table_from {P : Program} {K : PySem.W.Frag} {mg : Str → Option Value} (E : Env P K mg) : ∃ fd, FunD K "table_from" "table_from" (defArgs s_table_from) (defBody s_table_from) (defScope s_table_from) (d_table_from.dvs K) [] (d_table_from.adr K) fd := E.c.def_ 29 (d := d_table_from) rfl
theorem Env.dd__law_source {P : Program} {K : PySem.W.Frag} {mg : Str → Option Value} (E : Env P K mg) : ∃ fd, FunD K "_law_source" "_law_source" (defArgs s__law_source) (defBody s__law_source) (defScope s__law_source) (d__law_source.dvs K) [] (d__law_source.adr K) fd := E.c.def_ 30 (d := d__law_source) rfl
theorem Env.dd__law_pick {P : Program} {K : PySem.W.Frag} {mg : Str → Option Value} (E : Env P K mg) : ∃ fd, FunD K "_law_pick" "_law_pick" (defArgs s__law_pick) (defBody s__law_pick) (defScope s__law_pick) (d__law_pick.dvs K) [] (d__law_pick.adr K) fd := E.c.def_ 31 (d := d__law_pick) rfl
theorem Env.dd__law_is_integer {P : Program} {K : PySem.W.Frag} {mg : Str → Option Value} (E : Env P K mg) : ∃ fd, FunD K "_law_is_integer" "_law_is_integer" (defArgs s__law_is_integer) (defBody s__law_is_integer) (defScope s__law_is_integer) (d__law_is_integer.dvs K) [] (d__law_is_integer.adr K) fd := E.c.def_ 32 (d := d__law_is_integer) rfl
theorem Env.dd__law_is_count {P : Program} {K : PySem.W.Frag} {mg : Str → Option Value} (E : Env P K mg) : ∃ fd, FunD K "_law_is_count" "_law_is_count" (defArgs s__law_is_count) (defBody s__law_is_count) (defScope s__law_is_count) (d__law_is_count.dvs K) [] (d__law_is_count.adr K) fd := E.c.def_ 33 (d := d__law_is_count) rfl
theorem Env.dd__law_truth {P : Program} {K : PySem.W.Frag} {mg : Str → Option Value} (E : Env P K mg) : ∃ fd, FunD K "_law_truth" "_law_truth" (defArgs s__law_truth) (defBody s__law_truth) (defScope s__law_truth) (d__law_truth.dvs K) [] (d__law_truth.adr K) fd := E.c.def_ 34 (d := d__law_truth) rfl
theorem Env.dd__law_is_value {P : Program} {K : PySem.W.Frag} {mg : Str → Option Value} (E : Env P K mg) : ∃ fd, FunD K "_law_is_value" "_law_is_value" (defArgs s__law_is_value) (defBody s__law_is_value) (defScope s__law_is_value) (d__law_is_value.dvs K) [] (d__law_is_value.adr K) fd := E.c.def_ 35 (d := d__law_is_value) rfl
theorem Env.dd__law_le {P : Program} {K : PySem.W.Frag} {mg : Str → Option Value} (E : Env P K mg) : ∃ fd, FunD K "_law_le" "_law_le" (defArgs s__law_le) (defBody s__law_le) (defScope s__law_le) (d__law_le.dvs K) [] (d__law_le.adr K) fd := E.c.def_ 36 (d := d__law_le) rfl
theorem Env.dd__law_rising {P : Program} {K : PySem.W.Frag} {mg : Str → Option Value} (E : Env P K mg) : ∃ fd, FunD K "_law_rising" "_law_rising" (defArgs s__law_rising) (defBody s__law_rising) (defScope s__law_rising) (d__law_rising.dvs K) [] (d__law_rising.adr K) fd := E.c.def_ 37 (d := d__law_rising) rfl
theorem Env.dd__law_mild {P : Program} {K : PySem.W.Frag} {mg : Str → Option Value} (E : Env P K mg) : ∃ fd, FunD K "_law_mild" "_law_mild" (defArgs s__law_mild) (defBody s__law_mild) (defScope s__law_mild) (d__law_mild.dvs K) [] (d__law_mild.adr K) fd := E.c.def_ 38 (d := d__law_mild) rfl
theorem Env.dd__law_end {P : Program} {K : PySem.W.Frag} {mg : Str → Option Value} (E : Env P K mg) : ∃ fd, FunD K "_law_end" "_law_end" (defArgs s__law_end) (defBody s__law_end) (defScope s__law_end) (d__law_end.dvs K) [] (d__law_end.adr K) fd := E.c.def_ 39 (d := d__law_end) rfl
theorem Env.dd__law_at {P : Program} {K : PySem.W.Frag} {mg : Str → Option Value} (E : Env P K mg) : ∃ fd, FunD K "_law_at" "_law_at" (defArgs s__law_at) (defBody s__law_at) (defScope s__law_at) (d__law_at.dvs K) [] (d__law_at.adr K) fd := E.c.def_ 40 (d := d__law_at) rfl
theorem Env.dd__law_gcd {P : Program} {K : PySem.W.Frag} {mg : Str → Option Value} (E : Env P K mg) : ∃ fd, FunD K "_law_gcd" "_law_gcd" (defArgs s__law_gcd) (defBody s__law_gcd) (defScope s__law_gcd) (d__law_gcd.dvs K) [] (d__law_gcd.adr K) fd := E.c.def_ 41 (d := d__law_gcd) rfl
theorem Env.dd__law_plain {P : Program} {K : PySem.W.Frag} {mg : Str → Option Value} (E : Env P K mg) : ∃ fd, FunD K "_law_plain" "_law_plain" (defArgs s__law_plain) (defBody s__law_plain) (defScope s__law_plain) (d__law_plain.dvs K) [] (d__law_plain.adr K) fd := E.c.def_ 42 (d := d__law_plain) rfl
theorem Env.dd__law_fit {P : Program} {K : PySem.W.Frag} {mg : Str → Option Value} (E : Env P K mg) : ∃ fd, FunD K "_law_fit" "_law_fit" (defArgs s__law_fit) (defBody s__law_fit) (defScope s__law_fit) (d__law_fit.dvs K) [] (d__law_fit.adr K) fd := E.c.def_ 43 (d := d__law_fit) rfl
theorem Env.dd__law_counts {P : Program} {K : PySem.W.Frag} {mg : Str → Option Value} (E : Env P K mg) : ∃ fd, FunD K "_law_counts" "_law_counts" (defArgs s__law_counts) (defBody s__law_counts) (defScope s__law_counts) (d__law_counts.dvs K) [] (d__law_counts.adr K) fd := E.c.def_ 44 (d := d__law_counts) rfl
theorem Env.dd__law_behind {P : Program} {K : PySem.W.Frag} {mg : Str → Option Value} (E : Env P K mg) : ∃ fd, FunD K "_law_behind" "_law_behind" (defArgs s__law_behind) (defBody s__law_behind) (defScope s__law_behind) (d__law_behind.dvs K) [] (d__law_behind.adr K) fd := E.c.def_ 45 (d := d__law_behind) rfl
theorem Env.dd__law_turn {P : Program} {K : PySem.W.Frag} {mg : Str → Option Value} (E : Env P K mg) : ∃ fd, FunD K "_law_turn" "_law_turn" (defArgs s__law_turn) (defBody s__law_turn) (defScope s__law_turn) (d__law_turn.dvs K) [] (d__law_turn.adr K) fd := E.c.def_ 46 (d := d__law_turn) rfl
theorem Env.dd__law_over {P : Program} {K : PySem.W.Frag} {mg : Str → Option Value} (E : Env P K mg) : ∃ fd, FunD K "_law_over" "_law_over" (defArgs s__law_over) (defBody s__law_over) (defScope s__law_over) (d__law_over.dvs K) [] (d__law_over.adr K) fd := E.c.def_ 47 (d := d__law_over) rfl
theorem Env.dd__law_above {P : Program} {K : PySem.W.Frag} {mg : Str → Option Value} (E : Env P K mg) : ∃ fd, FunD K "_law_above" "_law_above" (defArgs s__law_above) (defBody s__law_above) (defScope s__law_above) (d__law_above.dvs K) [] (d__law_above.adr K) fd := E.c.def_ 48 (d := d__law_above) rfl
theorem Env.dd__law_reach {P : Program} {K : PySem.W.Frag} {mg : Str → Option Value} (E : Env P K mg) : ∃ fd, FunD K "_law_reach" "_law_reach" (defArgs s__law_reach) (defBody s__law_reach) (defScope s__law_reach) (d__law_reach.dvs K) [] (d__law_reach.adr K) fd := E.c.def_ 49 (d := d__law_reach) rfl
theorem Env.dd__law_same {P : Program} {K : PySem.W.Frag} {mg : Str → Option Value} (E : Env P K mg) : ∃ fd, FunD K "_law_same" "_law_same" (defArgs s__law_same) (defBody s__law_same) (defScope s__law_same) (d__law_same.dvs K) [] (d__law_same.adr K) fd := E.c.def_ 50 (d := d__law_same) rfl
theorem Env.dd__law_table {P : Program} {K : PySem.W.Frag} {mg : Str → Option Value} (E : Env P K mg) : ∃ fd, FunD K "_law_table" "_law_table" (defArgs s__law_table) (defBody s__law_table) (defScope s__law_table) (d__law_table.dvs K) [] (d__law_table.adr K) fd := E.c.def_ 51 (d := d__law_table) rfl
theorem Env.dd__law_values {P : Program} {K : PySem.W.Frag} {mg : Str → Option Value} (E : Env P K mg) : ∃ fd, FunD K "_law_values" "_law_values" (defArgs s__law_values) (defBody s__law_values) (defScope s__law_values) (d__law_values.dvs K) [] (d__law_values.adr K) fd := E.c.def_ 52 (d := d__law_values) rfl
theorem Env.dd__law_third {P : Program} {K : PySem.W.Frag} {mg : Str → Option Value} (E : Env P K mg) : ∃ fd, FunD K "_law_third" "_law_third" (defArgs s__law_third) (defBody s__law_third) (defScope s__law_third) (d__law_third.dvs K) [] (d__law_third.adr K) fd := E.c.def_ 53 (d := d__law_third) rfl
theorem Env.dd_law {P : Program} {K : PySem.W.Frag} {mg : Str → Option Value} (E : Env P K mg) : ∃ fd, FunD K "law" "law" (defArgs s_law) (defBody s_law) (defScope s_law) (d_law.dvs K) [] (d_law.adr K) fd := E.c.def_ 54 (d := d_law) rfl
theorem Env.dd_Table_init {P : Program} {K : PySem.W.Frag} {mg : Str → Option Value} (E : Env P K mg) : ∃ fd, FunD K "__init__" "Table.__init__" (defArgs s_Table_init) (defBody s_Table_init) (defScope s_Table_init) (d_Table_init.dvs K) [] (d_Table_init.adr K) fd := E.c.def_ 55 (d := d_Table_init) rfl
theorem Env.dd_Table_call {P : Program} {K : PySem.W.Frag} {mg : Str → Option Value} (E : Env P K mg) : ∃ fd, FunD K "__call__" "Table.__call__" (defArgs s_Table_call) (defBody s_Table_call) (defScope s_Table_call) (d_Table_call.dvs K) [] (d_Table_call.adr K) fd := E.c.def_ 56 (d := d_Table_call) rfl
theorem Env.dd_Table_raw {P : Program} {K : PySem.W.Frag} {mg : Str → Option Value} (E : Env P K mg) : ∃ fd, FunD K "raw" "Table.raw" (defArgs s_Table_raw) (defBody s_Table_raw) (defScope s_Table_raw) (d_Table_raw.dvs K) [] (d_Table_raw.adr K) fd := E.c.def_ 57 (d := d_Table_raw) rfl
theorem Env.dd_Table_eq {P : Program} {K : PySem.W.Frag} {mg : Str → Option Value} (E : Env P K mg) : ∃ fd, FunD K "__eq__" "Table.__eq__" (defArgs s_Table_eq) (defBody s_Table_eq) (defScope s_Table_eq) (d_Table_eq.dvs K) [] (d_Table_eq.adr K) fd := E.c.def_ 58 (d := d_Table_eq) rfl
theorem Env.dd_Table_and {P : Program} {K : PySem.W.Frag} {mg : Str → Option Value} (E : Env P K mg) : ∃ fd, FunD K "__and__" "Table.__and__" (defArgs s_Table_and) (defBody s_Table_and) (defScope s_Table_and) (d_Table_and.dvs K) [] (d_Table_and.adr K) fd := E.c.def_ 59 (d := d_Table_and) rfl
theorem Env.dd_Table_or {P : Program} {K : PySem.W.Frag} {mg : Str → Option Value} (E : Env P K mg) : ∃ fd, FunD K "__or__" "Table.__or__" (defArgs s_Table_or) (defBody s_Table_or) (defScope s_Table_or) (d_Table_or.dvs K) [] (d_Table_or.adr K) fd := E.c.def_ 60 (d := d_Table_or) rfl
theorem Env.dd_Table_mul {P : Program} {K : PySem.W.Frag} {mg : Str → Option Value} (E : Env P K mg) : ∃ fd, FunD K "__mul__" "Table.__mul__" (defArgs s_Table_mul) (defBody s_Table_mul) (defScope s_Table_mul) (d_Table_mul.dvs K) [] (d_Table_mul.adr K) fd := E.c.def_ 61 (d := d_Table_mul) rfl
theorem Env.dd_Table_invert {P : Program} {K : PySem.W.Frag} {mg : Str → Option Value} (E : Env P K mg) : ∃ fd, FunD K "__invert__" "Table.__invert__" (defArgs s_Table_invert) (defBody s_Table_invert) (defScope s_Table_invert) (d_Table_invert.dvs K) [] (d_Table_invert.adr K) fd := E.c.def_ 62 (d := d_Table_invert) rfl
theorem Env.dd_Verdict_init {P : Program} {K : PySem.W.Frag} {mg : Str → Option Value} (E : Env P K mg) : ∃ fd, FunD K "__init__" "Verdict.__init__" (defArgs s_Verdict_init) (defBody s_Verdict_init) (defScope s_Verdict_init) (d_Verdict_init.dvs K) [] (d_Verdict_init.adr K) fd := E.c.def_ 63 (d := d_Verdict_init) rfl
theorem Env.dd_Below_init {P : Program} {K : PySem.W.Frag} {mg : Str → Option Value} (E : Env P K mg) : ∃ fd, FunS K "__init__" "Below.__init__" (defArgs s_Below_init) (defBody s_Below_init) (defScope s_Below_init) (d_Below_init.adr K) fd (cellOf K (d_Below_init.adr K)) (codeOf K (d_Below_init.adr K)) := E.c.defS 64 (d := d_Below_init) rfl

end M
namespace M
open PySem PySem.Spec PyProof.Rows L2 Evl MS
def nmL0 : List Str := ["_wall", "under", "over", "RosterneedError", "WrongThing", "WrongWord", "BadCount", "BadTable", "is_integer", "is_count", "is_listed", "is_counts", "deep", "at_most", "greater_of", "lesser_of", "common_divisor", "common_multiple", "end_of", "value_at", "short_loop", "plain_form", "formed", "until_never", "first_beyond"]
def nmL1 : List Str := ["behind_raw", "later_start", "joined_values", "joined_raw", "counts_below", "turned_raw", "least_above", "Verdict", "Below", "below", "is_rising", "checked_table", "Table", "table_from", "_law_source", "_law_pick", "_law_is_integer", "_law_is_count", "_law_truth", "_law_is_value", "_law_le", "_law_rising", "_law_mild", "_law_end", "_law_at"]
def nmL2 : List Str := ["_law_gcd", "_law_plain", "_law_fit", "_law_counts", "_law_behind", "_law_turn", "_law_over", "_law_above", "_law_reach", "_law_same", "_law_table", "_law_values", "_law_third"]
def nmL : List Str := nmL0 ++ nmL1 ++ nmL2
abbrev R : PySem.W.OpenRow := PySem.W.OpenLaw.row PySem.Challenge.rw_rosterneed_k08_whole_over
abbrev hk : PySem.W.Hook := hookM 6 fa fn exB
def ob (s : PySem.W.SharedT) : AlM := obsMG 6 fa fn exB (HandSHeadRun.getT s)
theorem ob_eq (s : PySem.W.SharedT) : ob s = hk.obs s.abs := obsMG_eq (HandSHeadRun.getT_eq s)
theorem run (w : World) : HandSHeadRun.RunEq R (PySem.W.view R.prog [71]) hk ob 6000 nmL w := by
  intro os
  kernel_rfl
end M

namespace M
open PySem PySem.Spec PyProof.Rows L2 Evl MS
local macro_rules | `(tactic| walk_at "ex") => `(tactic| first
  | exact Ex.refl _ | with_reducible assumption | (refine' Ex.trans ?a ?b; (case b => with_reducible assumption); (case a => walk_at "ex")))
local macro_rules | `(tactic| walk_at "hp") => `(tactic| first
  | with_reducible assumption
  | (with_reducible refine' st_of ?a; (case a => with_reducible assumption))
  | (with_reducible refine' sq_of ?a; (case a => with_reducible assumption))
  | (with_reducible refine' ex_t ?a ?b; (case a => with_reducible assumption); (case b => walk_at "hp"))
  | (with_reducible refine' ex_l ?a ?b; (case a => with_reducible assumption); (case b => walk_at "hp"))
  | (with_reducible refine' ex_e ?a ?b; (case a => with_reducible assumption); (case b => walk_at "hp")))
local macro_rules | `(tactic| walk_at "om") => `(tactic| first
  | with_reducible assumption | omega | (simp only [List.length_map, List.length_nil, List.length_cons, List.length_append, List.length_range] <;> omega))
local macro_rules | `(tactic| walk_at "sz") => `(tactic| first
  | (refine sz_of ?_; omega) | exact sz_of (by simp only [List.length_map, List.length_nil, List.length_cons, List.length_append, List.length_range] <;> omega))
local macro_rules | `(tactic| walk_at "ty") => `(tactic| first
  | exact .base (.int _) | exact .base .non | exact .base (.bl _) | exact .base (.str _) | (with_reducible refine' SqT.ty ?a; (case a => walk_at "hp")) | (with_reducible refine' SqL.ty ?a; (case a => walk_at "hp")) | (with_reducible refine' dp_ty ?a; (case a => with_reducible assumption)))
local macro_rules | `(tactic| walk_at "vv") => `(tactic| first | refine w_v0 ?_ | refine w_v1 ?_ | refine w_v2 ?_ | refine w_v3 ?_ | refine w_v4 ?_ | refine w_v5 ?_ | refine w_v6 ?_ | refine w_v7 ?_ | refine w_v8 ?_ | refine w_v9 ?_ | refine w_v10 ?_ | refine w_v11 ?_ | refine w_v12 ?_ | refine w_v13 ?_ | refine w_v14 ?_ | refine w_v15 ?_)
local macro_rules | `(tactic| walk_at "nn") => `(tactic| first | refine w_n0 ?_ | refine w_n1 ?_ | refine w_n2 ?_ | refine w_n3 ?_ | refine w_n4 ?_ | refine w_n5 ?_ | refine w_n6 ?_ | refine w_n7 ?_ | refine w_n8 ?_ | refine w_n9 ?_ | refine w_n10 ?_ | refine w_n11 ?_ | refine w_n12 ?_ | refine w_n13 ?_ | refine w_n14 ?_ | refine w_n15 ?_)
local macro_rules | `(tactic| walk_at "w1") => `(tactic| with_reducible first
  | refine w_cons ?_ | (refine w_vv ?_; walk_at "vv") | refine w_nil ?_ | refine w_op ?_ | refine w_c ?_ | refine w_cb ?_ | refine w_seq ?_ | refine w_asg ?_ | (refine w_nn ?_; walk_at "nn")
  | refine w_test ?_ | refine w_exbl2 ?_ | refine w_ifS ?_ | refine w_ret ?_
  | refine w_call ?_ | refine w_call1 ?_ | refine w_call2 ?_ | refine w_call3 ?_
  | refine w_and ?_ | refine w_or ?_ | refine w_not ?_ | refine w_andV ?_ | refine w_orV ?_ | refine w_notV ?_ | refine w_ifE ?_ | refine w_un ?_ | refine w_tB ?_ | refine w_tru ?_ | refine r_truB ?_ | refine r_truI ?_
  | refine w_tup ?_ | refine w_lst ?_ | refine w_sl ?_ | refine w_part ?_ | refine w_noPart ?_ | refine w_exint ?_ | refine w_drop ?_ | refine w_next ?_ | refine w_yes ?_
  | refine w_gcons ?_ | refine w_gnil ?_ | refine iteT ?_ | refine iteF ?_
  | refine w_lcJ ?_ | refine w_forJ ?_ | refine i_r1 ?_ | refine i_r2 ?_ | refine w_fld ?_ | refine w_fldS ?_ | refine w_prop ?_ | refine w_meth ?_ | refine w_make ?_ | refine w_callO ?_ | refine w_callOI ?_ | refine w_bm ?_ | refine w_retN ?_ | refine w_chain ?_ | refine w_break ?_ | refine w_gsub ?_ | refine w_par ?_ | refine w_call4 ?_ | refine w_call5 ?_)
local macro_rules | `(tactic| walk_at "w2") => `(tactic| first
  | with_reducible (first | refine r_addI ?_ | refine r_subI ?_ | refine r_eqI ?_ | refine r_neI ?_ | refine r_lt ?_ | refine r_le ?_ | refine r_gt ?_ | refine r_ge ?_ | refine r_neg ?_)
  | with_reducible (first | refine r_eqO ?_ | refine r_neO ?_ | refine r_eqB ?_ | refine r_isO ?_ | refine r_isNotO ?_ | refine r_isI ?_ | refine r_isN ?_ | refine r_isR ?_ | refine r_isNotI ?_ | refine r_isNotN ?_ | refine r_isNotR ?_)
  | with_reducible (first | refine r_int ?_ | refine r_abs ?_ | refine r_max2 ?_ | refine r_min2 ?_ | refine r_boolB ?_)
  | ((with_reducible refine' r_lenTI ?a ?q); (case a => walk_at "hp"))
  | ((with_reducible refine' r_lenLI ?a ?q); (case a => walk_at "hp"))
  | ((with_reducible refine' r_lenT ?a ?q); (case a => walk_at "hp"))
  | ((with_reducible refine' r_lenL ?a ?q); (case a => walk_at "hp"))
  | ((with_reducible refine' w_gtup ?a ?b ?q); (case a => walk_at "hp"); (case b => rfl))
  | ((with_reducible refine' r_modI ?a ?q); (case a => walk_at "om"))
  | ((with_reducible refine' r_divI ?a ?b ?q); (case a => walk_at "om"); (case b => walk_at "om"))
  | ((with_reducible refine' r_ixTI ?a ?b ?c ?q); (case a => walk_at "hp"); (case b => walk_at "om"); (case c => walk_at "om"))
  | ((with_reducible refine' r_ixTN ?a ?b ?c ?q); (case a => walk_at "hp"); (case b => walk_at "om"); (case c => walk_at "om"))
  | ((with_reducible refine' r_ixLI ?a ?b ?c ?q); (case a => walk_at "hp"); (case b => walk_at "om"); (case c => walk_at "om"))
  | ((with_reducible refine' r_ixLN ?a ?b ?c ?q); (case a => walk_at "hp"); (case b => walk_at "om"); (case c => walk_at "om"))
  | ((with_reducible refine' r_lenEI ?a ?q); (case a => walk_at "hp"))
  | ((with_reducible refine' r_ixEI ?a ?b ?c ?q); (case a => walk_at "hp"); (case b => walk_at "om"); (case c => walk_at "om"))
  | ((with_reducible refine' r_ixEN ?a ?b ?c ?q); (case a => walk_at "hp"); (case b => walk_at "om"); (case c => walk_at "om"))
  | ((with_reducible refine' r_ixT ?a ?b ?q); (case a => walk_at "hp"); (case b => exact rfl))
  | ((with_reducible refine' r_ixL ?a ?b ?q); (case a => walk_at "hp"); (case b => exact rfl))
  | ((with_reducible refine' r_shr ?a ?q); (case a => walk_at "om"))
  | ((with_reducible refine' r_pow ?a ?q); (case a => (exact ⟨by decide, by decide, by decide⟩)))
  | ((with_reducible refine' r_bmL ?a ?q); (case a => walk_at "hp"))
  | ((with_reducible refine' r_mulI ?a ?q); (case a => first | (left; walk_at "om") | (right; walk_at "om")))
  | ((with_reducible refine' r_eqT ?a ?b ?q); (case a => walk_at "hp"); (case b => walk_at "hp"))
  | ((with_reducible refine' r_neT ?a ?b ?q); (case a => walk_at "hp"); (case b => walk_at "hp"))
  | ((with_reducible refine' i_x1 ?a ?q); (case a => omega))
  | ((with_reducible refine' i_x2 ?a ?q); (case a => omega))
  | ((with_reducible refine' i_xT ?a ?q); (case a => walk_at "hp"))
  | ((with_reducible refine' i_xL ?a ?q); (case a => walk_at "hp"))
  | ((with_reducible refine' r_slTto ?a ?b ?q); (case a => walk_at "hp"); (case b => walk_at "om"))
  | ((with_reducible refine' r_slTfrom ?a ?b ?q); (case a => walk_at "hp"); (case b => walk_at "om"))
  | ((with_reducible refine' r_slLto ?a ?b ?q); (case a => walk_at "hp"); (case b => walk_at "om"))
  | ((with_reducible refine' r_slLfrom ?a ?b ?q); (case a => walk_at "hp"); (case b => walk_at "om"))
  | ((with_reducible refine' r_slLmid ?a ?b ?c ?d ?q); (case a => walk_at "hp"); (case b => walk_at "om"); (case c => walk_at "om"); (case d => walk_at "om"))
  | ((with_reducible refine' r_tupT ?a ?q); (case a => walk_at "hp"))
  | ((with_reducible refine' r_tupL ?a ?q); (case a => walk_at "hp"))
  | ((with_reducible refine' r_lstT ?a ?q); (case a => walk_at "hp"))
  | ((with_reducible refine' r_lstL ?a ?q); (case a => walk_at "hp"))
  | ((with_reducible refine' w_newT ?a ?q); (case a => walk_at "sz"))
  | ((with_reducible refine' w_newL ?a ?q); (case a => walk_at "sz"))
  | ((with_reducible refine' r_isi (b := true) ?a ?b ?q); (case a => walk_at "ty"); (case b => exact rfl))
  | ((with_reducible refine' r_isi (b := false) ?a ?b ?q); (case a => walk_at "ty"); (case b => exact rfl))
  | ((with_reducible refine' r_isiT (b := true) ?a ?b ?c ?q); (case a => walk_at "hp"); (case b => walk_at "ty"); (case c => exact rfl))
  | ((with_reducible refine' r_isiT (b := false) ?a ?b ?c ?q); (case a => walk_at "hp"); (case b => walk_at "ty"); (case c => exact rfl))
  | ((with_reducible refine' w_dT ?a ?q); (case a => walk_at "om"))
  | ((with_reducible refine' w_dF ?a ?q); (case a => walk_at "om"))
  | ((with_reducible refine' w_nT ?a ?q); (case a => walk_at "om"))
  | ((with_reducible refine' w_nF ?a ?q); (case a => walk_at "om"))
  | ((with_reducible refine' w_bT ?a ?q); (case a => exact rfl))
  | ((with_reducible refine' w_bF ?a ?q); (case a => exact rfl)))
local macro_rules | `(tactic| walk_at "w") => `(tactic| repeat (first | walk_at "w1" | walk_at "w2"))

def dIsInt : PyData → Bool
  | .int _ => true
  | _ => false
def dIsCount : PyData → Bool
  | .int i => decide (0 ≤ i)
  | _ => false
def dIsSeq : PyData → Bool
  | .list _ => true
  | .tuple _ => true
  | _ => false
theorem dp_nodict {K : PySem.W.Frag} {H : Hp} {v : V} {x : List (PyData × PyData)} (h : Dp K H v (.dict x)) : False := nomatch h
abbrev N_is_integer : List Str := ["thing"]
theorem sc_is_integer : FnScope N_is_integer ["thing"] (defScope s_is_integer) := ⟨rfl, rfl, rfl, by decide +kernel, rfl, by decide +kernel, by decide +kernel⟩
theorem ok_is_integer {P : Program} {w : World} {K : PySem.W.Frag} {mg : Str → Option Value} {base : Heap} (E : Env P K mg) : Fn P w K mg base CX0 1 "is_integer" (sp1 fun v H Q _ => ∃ d, Dp K H v d ∧ RetD K (.bool (dIsInt d)) H Q) := by
  obtain ⟨fd, F⟩ := E.dd_is_integer
  refine Fn.mk0 F E.g_is_integer sc_is_integer sp1_len (fun _ _ _ _ _ _ us hl => match us, hl with | [_], _ => rfl) (fun cdv A outer s H vs Q X hr h => ?_)
  have nd := sc_is_integer.nd
  obtain ⟨v0, rfl, h⟩ := h
  refine ⟨_, (pss_one (ps_ret (pe_and (pe_callB (kIsi K) (by rfl) E.f_isinstance (by decide +kernel) (pa_cons (pv 0) (pa_cons (pe_bltn (v := .ty "int") (by rfl) E.f_int (by decide +kernel) rfl) pa_nil))) (pe_one (pe_not (pe_callB (kIsi K) (by rfl) E.f_isinstance (by decide +kernel) (pa_cons (pv 0) (pa_cons (pe_bltn (v := .ty "bool") (by rfl) E.f_bool (by decide +kernel) rfl) pa_nil)))))))), ?_⟩
  change (_ : TS) _ [some v0] H
  try dsimp only [cxOf, Cx.nox, Cx.blk]
  obtain ⟨d, hd, k⟩ := h
  cases d with
  | dict x => exact (dp_nodict hd).elim
  | int i => cases hd; walk_at "w"; exact k.bl (by walk_at "ex")
  | _ => cases hd <;> (walk_at "w"; exact k.bl (by walk_at "ex"))
abbrev N_is_count : List Str := ["thing"]
theorem sc_is_count : FnScope N_is_count ["thing"] (defScope s_is_count) := ⟨rfl, rfl, rfl, by decide +kernel, rfl, by decide +kernel, by decide +kernel⟩
theorem ok_is_count {P : Program} {w : World} {K : PySem.W.Frag} {mg : Str → Option Value} {base : Heap} (E : Env P K mg) : Fn P w K mg base CX0 2 "is_count" (sp1 fun v H Q _ => ∃ d, Dp K H v d ∧ RetD K (.bool (dIsCount d)) H Q) := by
  obtain ⟨fd, F⟩ := E.dd_is_count
  refine Fn.mk0 F E.g_is_count sc_is_count sp1_len (fun _ _ _ _ _ _ us hl => match us, hl with | [_], _ => rfl) (fun cdv A outer s H vs Q X hr h => ?_)
  have nd := sc_is_count.nd
  obtain ⟨v0, rfl, h⟩ := h
  refine ⟨_, (pss_one (ps_ret (pe_and (pc (ok_is_integer E) hr (by decide) pass0 rfl (pa_cons (pv 0) pa_nil)) (pe_one (pe_cmpR op_ge (pv 0) (pe_int) (nomark _)))))), ?_⟩
  change (_ : TS) _ [some v0] H
  try dsimp only [cxOf, Cx.nox, Cx.blk]
  obtain ⟨d, hd, k⟩ := h
  walk_at "w"
  refine ⟨d, hd, fun v H1 e1 d1 => ?_⟩
  obtain rfl := dp_toBl d1
  cases d with
  | int i =>
    cases hd
    walk_at "w"
    exact k.bl (by walk_at "ex")
  | _ => walk_at "w"; exact k.bl (by walk_at "ex")
abbrev N_is_listed : List Str := ["thing"]
theorem sc_is_listed : FnScope N_is_listed ["thing"] (defScope s_is_listed) := ⟨rfl, rfl, rfl, by decide +kernel, rfl, by decide +kernel, by decide +kernel⟩
theorem ok_is_listed {P : Program} {w : World} {K : PySem.W.Frag} {mg : Str → Option Value} {base : Heap} (E : Env P K mg) : Fn P w K mg base CX0 1 "is_listed" (sp1 fun v H Q _ => ∃ d, Dp K H v d ∧ RetD K (.bool (dIsSeq d)) H Q) := by
  obtain ⟨fd, F⟩ := E.dd_is_listed
  refine Fn.mk0 F E.g_is_listed sc_is_listed sp1_len (fun _ _ _ _ _ _ us hl => match us, hl with | [_], _ => rfl) (fun cdv A outer s H vs Q X hr h => ?_)
  have nd := sc_is_listed.nd
  obtain ⟨v0, rfl, h⟩ := h
  refine ⟨_, (pss_one (ps_ret (pe_callB (kIsiT K) (by rfl) E.f_isinstance (by decide +kernel) (pa_cons (pv 0) (pa_cons (pe_tup (pa_cons (pe_bltn (v := .ty "tuple") (by rfl) E.f_tuple (by decide +kernel) rfl) (pa_cons (pe_bltn (v := .ty "list") (by rfl) E.f_list (by decide +kernel) rfl) pa_nil))) pa_nil))))), ?_⟩
  change (_ : TS) _ [some v0] H
  try dsimp only [cxOf, Cx.nox, Cx.blk]
  obtain ⟨d, hd, k⟩ := h
  cases d with
  | dict x => exact (dp_nodict hd).elim
  | _ => cases hd <;> (walk_at "w"; intro p H1 n1 e1 h1; walk_at "w"; exact k.bl (by walk_at "ex"))

def endOf (l : List Int) (r : Int) : Option Int := if l = [] ∨ r > 0 then none else some (gI l (l.length - 1))
def vat (h l : List Int) (r p : Int) : Option Int :=
  if p = 0 then some 0 else if p ≤ h.length then some (gI h (p - 1)) else if l = [] then none
  else some (gI l ((p - h.length - 1) % l.length) + r * ((p - h.length - 1) / l.length))
def valueAt (h l : List Int) (r : Int) : Option Int → Option Int
  | none => endOf l r
  | some p => vat h l r p
/-- rises that fit a product -/
def RSm (h l : List Int) (r : Int) : Prop := -1152921504606846976 < r ∧ r < 1152921504606846976 ∧ h.length ≤ 50000 ∧ l.length ≤ 50000
abbrev N_end_of : List Str := ["raw", "head", "loop", "rise"]
theorem sc_end_of : FnScope N_end_of ["raw"] (defScope s_end_of) := ⟨rfl, rfl, rfl, by decide +kernel, rfl, by decide +kernel, by decide +kernel⟩
theorem ok_end_of {P : Program} {w : World} {K : PySem.W.Frag} {mg : Str → Option Value} {base : Heap} (E : Env P K mg) : Fn P w K mg base CX0 1 "end_of" (sp1 fun v H Q _ => ∃ h l r, Dp K H v (dRaw h l r) ∧ RetD K (dOpt (endOf l r)) H Q) := by
  obtain ⟨fd, F⟩ := E.dd_end_of
  refine Fn.mk0 F E.g_end_of sc_end_of sp1_len (fun _ _ _ _ _ _ us hl => match us, hl with | [_], _ => rfl) (fun cdv A outer s H vs Q X hr h => ?_)
  have nd := sc_end_of.nd
  obtain ⟨v0, rfl, h⟩ := h
  refine ⟨_, (pss_cons (ps_asg (pv 0) (kGtup K rfl (pgs_cons (pg_name (i := 1) nd rfl (.inl rfl)) (pgs_cons (pg_name (i := 2) nd rfl (.inl rfl)) (pgs_cons (pg_name (i := 3) nd rfl (.inl rfl)) (pgs_nil))))))
  (pss_cons (ps_if (PW.pt (pw_or (pt_cmpR (kEq K hr) (pe_callB (kLen K) (by rfl) E.f_len (by decide +kernel) (pa_cons (pv 2) pa_nil)) (pe_int) (nomark _)) (pw_or1 (pt_cmpR op_gt (pv 3) (pe_int) (nomark _)))))
   (pss_one (ps_ret (pe_non)))
   pss_nil)
  (pss_one (ps_ret (pe_ix (kIx K) (pv 2) (pe_un un_neg (pe_int)) (fun _ _ => rfl)))))), ?_⟩
  change (_ : TS) _ [some v0, none, none, none] H
  try dsimp only [cxOf, Cx.nox, Cx.blk]
  obtain ⟨hd, l, r, hD, k⟩ := h
  obtain ⟨a, th, tl, rfl, s1, s2, s3⟩ := dp_raw hD
  walk_at "w"
  by_cases h1 : l = []
  · subst h1
    walk_at "w"
    exact k.non (by walk_at "ex")
  · have h2 : 0 < l.length := List.length_pos_iff.mpr h1
    walk_at "w"
    unfold endOf at k
    by_cases h3 : 0 < r
    · walk_at "w"
      rw [if_pos (.inr h3)] at k
      exact k.non (by walk_at "ex")
    · walk_at "w"
      rw [if_neg (by rintro (h | h) <;> contradiction)] at k
      exact k.int (by walk_at "ex")
abbrev spValueAt (K : PySem.W.Frag) : Sp := sp2 fun a b H Q _ => ∃ h l r p, Dp K H a (dRaw h l r) ∧ Dp K H b (dOpt p) ∧ (∀ n, p = some n → 0 ≤ n) ∧ RSm h l r ∧ RetD K (dOpt (valueAt h l r p)) H Q
abbrev N_value_at : List Str := ["raw", "place", "head", "loop", "rise", "rest"]
theorem sc_value_at : FnScope N_value_at ["raw", "place"] (defScope s_value_at) := ⟨rfl, rfl, rfl, by decide +kernel, rfl, by decide +kernel, by decide +kernel⟩
theorem ok_value_at {P : Program} {w : World} {K : PySem.W.Frag} {mg : Str → Option Value} {base : Heap} (E : Env P K mg) : Fn P w K mg base CX0 2 "value_at" (spValueAt K) := by
  obtain ⟨fd, F⟩ := E.dd_value_at
  refine Fn.mk0 F E.g_value_at sc_value_at sp2_len (fun _ _ _ _ _ _ us hl => match us, hl with | [_, _], _ => rfl) (fun cdv A outer s H vs Q X hr h => ?_)
  have nd := sc_value_at.nd
  obtain ⟨v0, v1, rfl, h⟩ := h
  refine ⟨_, (pss_cons (ps_asg (pv 0) (kGtup K rfl (pgs_cons (pg_name (i := 2) nd rfl (.inl rfl)) (pgs_cons (pg_name (i := 3) nd rfl (.inl rfl)) (pgs_cons (pg_name (i := 4) nd rfl (.inl rfl)) (pgs_nil))))))
  (pss_cons (ps_if (pt_cmpR xIs (pv 1) (pe_non) (nomark _))
   (pss_one (ps_ret (pc (ok_end_of E) hr (by decide) pass0 rfl (pa_cons (pv 0) pa_nil))))
   pss_nil)
  (pss_cons (ps_if (pt_cmpR (kEq K hr) (pv 1) (pe_int) (nomark _))
   (pss_one (ps_ret (pe_int)))
   pss_nil)
  (pss_cons (ps_if (pt_cmpR op_le (pv 1) (pe_callB (kLen K) (by rfl) E.f_len (by decide +kernel) (pa_cons (pv 2) pa_nil)) (nomark _))
   (pss_one (ps_ret (pe_ix (kIx K) (pv 2) (pe_op xSub (pv 1) (pe_int)) (fun _ _ => rfl))))
   pss_nil)
  (pss_cons (ps_if (pt_cmpR (kEq K hr) (pe_callB (kLen K) (by rfl) E.f_len (by decide +kernel) (pa_cons (pv 3) pa_nil)) (pe_int) (nomark _))
   (pss_one (ps_ret (pe_non)))
   pss_nil)
  (pss_cons (ps_set (i := 5) nd rfl (.inl rfl) (pe_op xSub (pe_op xSub (pv 1) (pe_callB (kLen K) (by rfl) E.f_len (by decide +kernel) (pa_cons (pv 2) pa_nil))) (pe_int)))
  (pss_one (ps_ret (pe_op (kAdd K) (pe_ix (kIx K) (pv 3) (pe_op xMod (pv 5) (pe_callB (kLen K) (by rfl) E.f_len (by decide +kernel) (pa_cons (pv 3) pa_nil))) (fun _ _ => rfl)) (pe_op (kMul K) (pv 4) (pe_op xDiv (pv 5) (pe_callB (kLen K) (by rfl) E.f_len (by decide +kernel) (pa_cons (pv 3) pa_nil))))))))))))), ?_⟩
  change (_ : TS) _ [some v0, some v1, none, none, none, none] H
  try dsimp only [cxOf, Cx.nox, Cx.blk]
  obtain ⟨hd, l, r, p, hD, hp, hn, hr1, k⟩ := h
  obtain ⟨a, th, tl, rfl, s1, s2, s3⟩ := dp_raw hD
  obtain ⟨r1, r2, r3, r4⟩ := hr1
  cases p with
  | none =>
    obtain rfl := dp_toNon hp
    walk_at "w"
    exact ⟨hd, l, r, hD, k⟩
  | some p =>
    obtain rfl := dp_toInt hp
    have hn0 := hn p rfl
    walk_at "w"
    have k' : RetD K (dOpt (vat hd l r p)) H Q := k
    unfold vat at k'
    by_cases h0 : p = 0
    · walk_at "w"
      rw [if_pos h0] at k'
      exact k'.int (by walk_at "ex")
    · rw [if_neg h0] at k'
      walk_at "w"
      by_cases h1 : p ≤ hd.length
      · rw [if_pos h1] at k'
        walk_at "w"
        exact k'.int (by walk_at "ex")
      · rw [if_neg h1] at k'
        walk_at "w"
        by_cases h2 : l = []
        · rw [if_pos h2] at k'
          subst h2
          walk_at "w"
          exact k'.non (by walk_at "ex")
        · rw [if_neg h2] at k'
          have h3 : 0 < l.length := List.length_pos_iff.mpr h2
          have h4 : (p - hd.length - 1) % l.length < l.length := Int.emod_lt_of_pos _ (by omega)
          have h5 : 0 ≤ (p - hd.length - 1) % l.length := Int.emod_nonneg _ (by omega)
          walk_at "w"
          exact k'.int (by walk_at "ex")

/-- whether a loop goes on in the same way behind its first m entries -/
def slOk (l : List Int) (r : Int) (m : Nat) : Prop :=
  (l.length : Int) % m = 0 ∧ r % ((l.length : Int) / m) = 0 ∧ ∀ i : Nat, i + m < l.length → gI l (i + m) = gI l i + r / ((l.length : Int) / m)
open Classical in
noncomputable def shortLoop (l : List Int) (r : Int) : List Int × Int :=
  match (List.range' 1 (l.length - 1)).find? (fun m => decide (slOk l r m)) with
  | some m => (l.take m, r / ((l.length : Int) / m))
  | none => (l, r)
theorem shortLoop_some {l : List Int} {r : Int} {m : Nat} (h1 : 1 ≤ m) (h2 : m < l.length) (ho : slOk l r m) (hn : ∀ j, 1 ≤ j → j < m → ¬ slOk l r j) : shortLoop l r = (l.take m, r / ((l.length : Int) / m)) := by
  unfold shortLoop
  have e : (List.range' 1 (l.length - 1)).find? (fun m => @decide (slOk l r m) (Classical.propDecidable _)) = some m := by
    rw [List.find?_eq_some_iff_getElem]
    refine ⟨by simpa using ho, m - 1, by simp; omega, by simp; omega, fun j hj => ?_⟩
    simp
    exact hn (1 + j) (by omega) (by omega)
  rw [e]
theorem shortLoop_none {l : List Int} {r : Int} (hn : ∀ j, 1 ≤ j → j < l.length → ¬ slOk l r j) : shortLoop l r = (l, r) := by
  unfold shortLoop
  have e : (List.range' 1 (l.length - 1)).find? (fun m => @decide (slOk l r m) (Classical.propDecidable _)) = none := by
    rw [List.find?_eq_none]
    intro m hm
    simp at hm ⊢
    exact hn m (by omega) (by omega)
  rw [e]
abbrev N_short_loop : List Str := ["loop", "rise", "many", "step", "place"]
theorem sc_short_loop : FnScope N_short_loop ["loop", "rise"] (defScope s_short_loop) := ⟨rfl, rfl, rfl, by decide +kernel, rfl, by decide +kernel, by decide +kernel⟩
theorem ok_short_loop {P : Program} {w : World} {K : PySem.W.Frag} {mg : Str → Option Value} {base : Heap} (E : Env P K mg) : Fn P w K mg base CX0 1 "short_loop" (sp2 fun a b H Q _ => ∃ l r, Dp K H a (dInts l) ∧ Dp K H b (.int r) ∧ RSm [] l r ∧ RetD K (.tuple [dInts (shortLoop l r).1, .int (shortLoop l r).2]) H Q) := by
  obtain ⟨fd, F⟩ := E.dd_short_loop
  refine Fn.mk0 F E.g_short_loop sc_short_loop sp2_len (fun _ _ _ _ _ _ us hl => match us, hl with | [_, _], _ => rfl) (fun cdv A outer s H vs Q X hr h => ?_)
  have nd := sc_short_loop.nd
  obtain ⟨v0, v1, rfl, h⟩ := h
  refine ⟨_, (pss_cons (ps_for PassesOwn.never rfl (pi_range2 (by rfl) E.f_range (pa_cons (pe_int) (pa_cons (pe_callB (kLen K) (by rfl) E.f_len (by decide +kernel) (pa_cons (pv 0) pa_nil)) pa_nil))) (pg_name (i := 2) nd rfl (.inr rfl))
   (pss_one (ps_if (PW.pt (pw_and (pt_cmpR (kEq K hr) (pe_op xMod (pe_callB (kLen K) (by rfl) E.f_len (by decide +kernel) (pa_cons (pv 0) pa_nil)) (pv 2)) (pe_int) (nomark _)) (pw_and1 (pt_cmpR (kEq K hr) (pe_op xMod (pv 1) (pe_op xDiv (pe_callB (kLen K) (by rfl) E.f_len (by decide +kernel) (pa_cons (pv 0) pa_nil)) (pv 2))) (pe_int) (nomark _)))))
   (pss_cons (ps_set (i := 3) nd rfl (.inr rfl) (pe_op xDiv (pv 1) (pe_op xDiv (pe_callB (kLen K) (by rfl) E.f_len (by decide +kernel) (pa_cons (pv 0) pa_nil)) (pv 2))))
  (pss_one (ps_if (kTru K (pe_callB (kAll K rfl) (by rfl) E.f_all (by decide +kernel) (pa_cons (pe_lc (own := [("place", 4)]) (g := gName 4) (tt := tYes) rfl nd (pi_range1 (by rfl) E.f_range (pa_cons (pe_op xSub (pe_callB (kLen K) (by rfl) E.f_len (by decide +kernel) (pa_cons (pv 0) pa_nil)) (pv 2)) pa_nil)) (blkOk_by (N := N_short_loop) (sc := defScope s_short_loop) (by decide +kernel)) (fun _ _ _ _ _ => pg_name (i := 4) nd rfl (Or.inl rfl)) (fun _ _ _ _ _ => pts_nil) (fun _ _ _ _ _ => pe_cmpR (kEq K hr) (pe_ix (kIx K) (pv 0) (pe_op (kAdd K) (pv 4) (pv 2)) (fun _ _ => rfl)) (pe_op (kAdd K) (pe_ix (kIx K) (pv 0) (pv 4) (fun _ _ => rfl)) (pv 3)) (nomark _))) pa_nil)) (by intro _; rfl))
   (pss_one (ps_ret (pe_tup (pa_cons (pe_slice (kSl K) (pv 0) po_none (po_some (pv 2))) (pa_cons (pv 3) pa_nil)))))
   pss_nil)))
   pss_nil)))
  (pss_one (ps_ret (pe_tup (pa_cons (pv 0) (pa_cons (pv 1) pa_nil)))))), ?_⟩
  change (_ : TS) _ [some v0, some v1, none, none, none] H
  try dsimp only [cxOf, Cx.nox, Cx.blk]
  obtain ⟨l, r, hl, hri, ⟨r1, r2, r3, r4⟩, k⟩ := h
  obtain ⟨t, rfl, s1⟩ := dp_ints hl
  obtain rfl := dp_toInt hri
  walk_at "w"
  refine for_range (lo := 1) (Pv := fun i σ' H' => ∃ a b c, σ' = [some (.ref t), some (.int r), a, b, c] ∧ Ex H H' ∧ ∀ j : Nat, 1 ≤ j → j < 1 + i → ¬ slOk l r j) ⟨_, _, _, rfl, Ex.refl H, fun j h1 h2 => by omega⟩ ?_ ?_
  · rintro i σ' H' hi ⟨a, b, c, rfl, e, hnot⟩
    have hi' : 1 + i < l.length := by omega
    obtain ⟨m, hm⟩ : ∃ m : Nat, m = 1 + i := ⟨_, rfl⟩
    have hm0 : 0 < m := by omega
    rw [show (1 + (i : Int)) = (m : Int) by omega]
    have hq : 0 < (l.length : Int) / m := Int.le_ediv_of_mul_le (by omega) (by omega)
    have hq2 : (l.length : Int) / m ≤ l.length := Int.ediv_le_self _ (by omega)
    have hno : ¬ slOk l r m → ∀ j : Nat, 1 ≤ j → j < 1 + (i + 1) → ¬ slOk l r j := fun hn j h1 h2 => by
      by_cases hj : j = m
      · rw [hj]; exact hn
      · exact hnot j h1 (by omega)
    walk_at "w"
    by_cases c1 : (l.length : Int) % m = 0
    · walk_at "w"
      by_cases c2 : r % ((l.length : Int) / m) = 0
      · walk_at "w"
        refine lcJ_r0 (v := fun i => .bl (decide (gI l (i + m) = gI l i + r / ((l.length : Int) / m)))) (by omega) (fun x => [_, _, _, _, some x]) (fun x => rfl) (fun x => rfl) (fun j H1 Q' e1 hj hq => ?_) (fun p H2 np e2 hp => ?_)
        · walk_at "w"
          exact hq H1 (Ex.refl _)
        · rw [map_bl_range] at hp
          walk_at "w"
          refine r_all (sq_of hp) rfl ?_
          rw [all_range]
          walk_at "w"
          by_cases c3 : ∀ j : Nat, j < ((l.length : Int) - m).toNat → gI l (j + m) = gI l j + r / ((l.length : Int) / m)
          · walk_at "w"
            intro p3 H3 e3 s3
            walk_at "w"
            intro p4 H4 n4 e4 h4
            rw [shortLoop_some hm0 (by omega) ⟨c1, c2, fun j hj => c3 j (by omega)⟩ (fun j h1 h2 => hnot j h1 (by omega))] at k
            refine k _ _ (((e.trans e2).trans e3).trans e4) (.tup (st_of h4) (.cons (dp_of_ints (ex_t e4 ?_)) (.cons (.int _) .nil)))
            exact s3
          · walk_at "w"
            refine ⟨_, _, _, rfl, e.trans e2, hno fun h => c3 fun j hj => ?_⟩
            exact h.2.2 j (by omega)
      · walk_at "w"
        exact ⟨_, _, _, rfl, e, hno fun h => c2 h.2.1⟩
    · walk_at "w"
      exact ⟨_, _, _, rfl, e, hno fun h => c1 h.1⟩
  · rintro σ' H' ⟨a, b, c, rfl, e, hnot⟩
    walk_at "w"
    intro p H1 n1 e1 h1
    rw [shortLoop_none (fun j h1 h2 => hnot j h1 (by omega))] at k
    exact k _ _ (e.trans e1) (.tup (st_of h1) (.cons (dp_of_ints (ex_t e1 (ex_t e s1))) (.cons (.int r) .nil)))

theorem shortLoop_cases (l : List Int) (r : Int) : (shortLoop l r = (l, r)) ∨ ∃ m : Nat, 1 ≤ m ∧ m < l.length ∧ slOk l r m ∧ shortLoop l r = (l.take m, r / ((l.length : Int) / m)) := by
  by_cases h : ∃ m : Nat, 1 ≤ m ∧ m < l.length ∧ slOk l r m
  · have key : ∀ n : Nat, (∃ m : Nat, m ≤ n ∧ 1 ≤ m ∧ m < l.length ∧ slOk l r m) → ∃ m : Nat, 1 ≤ m ∧ m < l.length ∧ slOk l r m ∧ ∀ j, 1 ≤ j → j < m → ¬ slOk l r j := by
      intro n
      induction n with
      | zero => rintro ⟨m, h0, h1, _⟩; omega
      | succ n ih =>
        rintro ⟨m, h0, h1, h2, h3⟩
        by_cases q : ∃ m : Nat, m ≤ n ∧ 1 ≤ m ∧ m < l.length ∧ slOk l r m
        · exact ih q
        · exact ⟨m, h1, h2, h3, fun j j1 j2 j3 => q ⟨j, by omega, j1, by omega, j3⟩⟩
    obtain ⟨m, h1, h2, h3⟩ := h
    obtain ⟨m, h1, h2, h3, h4⟩ := key m ⟨m, Nat.le_refl _, h1, h2, h3⟩
    exact .inr ⟨m, h1, h2, h3, shortLoop_some h1 h2 h3 h4⟩
  · exact .inl (shortLoop_none fun j h1 h2 h3 => h ⟨j, h1, h2, h3⟩)
theorem shortLoop_len (l : List Int) (r : Int) : (shortLoop l r).1.length ≤ l.length ∧ (l ≠ [] → (shortLoop l r).1 ≠ []) := by
  rcases shortLoop_cases l r with e | ⟨m, h1, h2, _, e⟩
  · rw [e]; exact ⟨Nat.le_refl _, id⟩
  · rw [e]
    refine ⟨by show (l.take m).length ≤ _; rw [List.length_take]; omega, fun _ q => ?_⟩
    have : (l.take m).length = 0 := by rw [show l.take m = [] from q]; rfl
    rw [List.length_take] at this
    omega
theorem shortLoop_rise {l : List Int} {r : Int} (h : 0 ≤ r) : 0 ≤ (shortLoop l r).2 ∧ (shortLoop l r).2 ≤ r := by
  rcases shortLoop_cases l r with e | ⟨m, h1, h2, _, e⟩
  · rw [e]; exact ⟨h, Int.le_refl _⟩
  · rw [e]
    have hq : 0 < (l.length : Int) / m := Int.le_ediv_of_mul_le (by omega) (by omega)
    exact ⟨Int.ediv_nonneg h (by omega), Int.ediv_le_self _ h⟩
/-- what a loop going on backwards has back places ahead of itself -/
def bkV (l : List Int) (r back : Int) : Int := gI l (-1 - back % l.length + l.length) - r * (back / l.length + 1)
def cutH (h l : List Int) (r : Int) : Nat → Nat
  | 0 => 0
  | k + 1 => if gI h k = bkV l r (h.length - (k + 1)) then cutH h l r k else k + 1
noncomputable def plainF (h l : List Int) (r : Int) : List Int × List Int × Int :=
  if l = [] then (h, [], 0) else
    (h.take (cutH h (shortLoop l r).1 (shortLoop l r).2 h.length),
     (List.range (shortLoop l r).1.length).map fun i : Nat => (vat h (shortLoop l r).1 (shortLoop l r).2 (cutH h (shortLoop l r).1 (shortLoop l r).2 h.length + 1 + i)).getD 0,
     (shortLoop l r).2)
theorem cutH_le (h l : List Int) (r : Int) : ∀ k, cutH h l r k ≤ k
  | 0 => Nat.le_refl _
  | k + 1 => by
    unfold cutH
    split
    · exact Nat.le_succ_of_le (cutH_le h l r k)
    · exact Nat.le_refl _
theorem vat_some {h l : List Int} {r p : Int} (hl : l ≠ []) : vat h l r p = some ((vat h l r p).getD 0) := by
  unfold vat
  rw [if_neg hl]
  split
  · rfl
  · split <;> rfl
abbrev N_plain_form : List Str := ["head", "loop", "rise", "keep", "back", "told", "place"]
theorem sc_plain_form : FnScope N_plain_form ["head", "loop", "rise"] (defScope s_plain_form) := ⟨rfl, rfl, rfl, by decide +kernel, rfl, by decide +kernel, by decide +kernel⟩
theorem ok_plain_form {P : Program} {w : World} {K : PySem.W.Frag} {mg : Str → Option Value} {base : Heap} (E : Env P K mg) : Fn P w K mg base CX0 3 "plain_form" (sp3 fun a b c H Q _ => ∃ h l r, Dp K H a (dInts h) ∧ Dp K H b (dInts l) ∧ Dp K H c (.int r) ∧ 0 ≤ r ∧ RSm h l r ∧ RetD K (dRaw (plainF h l r).1 (plainF h l r).2.1 (plainF h l r).2.2) H Q) := by
  obtain ⟨fd, F⟩ := E.dd_plain_form
  refine Fn.mk0 F E.g_plain_form sc_plain_form sp3_len (fun _ _ _ _ _ _ us hl => match us, hl with | [_, _, _], _ => rfl) (fun cdv A outer s H vs Q X hr h => ?_)
  have nd := sc_plain_form.nd
  obtain ⟨v0, v1, v2, rfl, h⟩ := h
  refine ⟨_, (pss_cons (ps_if (pt_cmpR (kEq K hr) (pe_callB (kLen K) (by rfl) E.f_len (by decide +kernel) (pa_cons (pv 1) pa_nil)) (pe_int) (nomark _))
   (pss_one (ps_ret (pe_tup (pa_cons (pv 0) (pa_cons (pe_tup pa_nil) (pa_cons (pe_int) pa_nil))))))
   pss_nil)
  (pss_cons (ps_asg (pc (ok_short_loop E) hr (by decide) pass0 rfl (pa_cons (pv 1) (pa_cons (pv 2) pa_nil))) (kGtup K rfl (pgs_cons (pg_name (i := 1) nd rfl (.inl rfl)) (pgs_cons (pg_name (i := 2) nd rfl (.inl rfl)) (pgs_nil)))))
  (pss_cons (ps_set (i := 3) nd rfl (.inr rfl) (pe_callB (kLen K) (by rfl) E.f_len (by decide +kernel) (pa_cons (pv 0) pa_nil)))
  (pss_cut (ps_while PassesOwn.never (pt_cmpR op_gt (pv 3) (pe_int) (nomark _))
   (pss_cons (ps_set (i := 4) nd rfl (.inl rfl) (pe_op xSub (pe_callB (kLen K) (by rfl) E.f_len (by decide +kernel) (pa_cons (pv 0) pa_nil)) (pv 3)))
  (pss_cons (ps_if (pt_cmpR (kNe K hr) (pe_ix (kIx K) (pv 0) (pe_op xSub (pv 3) (pe_int)) (fun _ _ => rfl)) (pe_op xSub (pe_ix (kIx K) (pv 1) (pe_op xSub (pe_un un_neg (pe_int)) (pe_op xMod (pv 4) (pe_callB (kLen K) (by rfl) E.f_len (by decide +kernel) (pa_cons (pv 1) pa_nil)))) (fun _ _ => rfl)) (pe_op (kMul K) (pv 2) (pe_op (kAdd K) (pe_op xDiv (pv 4) (pe_callB (kLen K) (by rfl) E.f_len (by decide +kernel) (pa_cons (pv 1) pa_nil))) (pe_int)))) (nomark _))
   (pss_one (ps_break))
   pss_nil)
  (pss_one (ps_set (i := 3) nd rfl (.inr rfl) (pe_op xSub (pv 3) (pe_int)))))))
  (pss_cons (ps_set (i := 5) nd rfl (.inr rfl) (pe_tup (pa_cons (pv 0) (pa_cons (pv 1) (pa_cons (pv 2) pa_nil)))))
  (pss_one (ps_ret (pe_tup (pa_cons (pe_slice (kSl K) (pv 0) po_none (po_some (pv 3))) (pa_cons (pe_callTy (kTup K) (by rfl) E.f_tuple (by decide +kernel) (pa_cons (pe_lc (own := [("place", 6)]) (g := gName 6) (tt := tYes) rfl nd (pi_range1 (by rfl) E.f_range (pa_cons (pe_callB (kLen K) (by rfl) E.f_len (by decide +kernel) (pa_cons (pv 1) pa_nil)) pa_nil)) (blkOk_by (N := N_plain_form) (sc := defScope s_plain_form) (by decide +kernel)) (fun _ _ _ _ _ => pg_name (i := 6) nd rfl (Or.inl rfl)) (fun _ _ _ _ _ => pts_nil) (fun _ _ _ _ _ => pc (ok_value_at E) hr (by decide) pass0 rfl (pa_cons (pv 5) (pa_cons (pe_op (kAdd K) (pe_op (kAdd K) (pv 3) (pe_int)) (pv 6)) pa_nil)))) pa_nil)) (pa_cons (pv 2) pa_nil))))))))))), ?_⟩
  change (_ : TS) _ [some v0, some v1, some v2, none, none, none, none] H
  try dsimp only [cxOf, Cx.nox, Cx.blk]
  obtain ⟨h, l, r, hh, hl, hri, hr0, ⟨r1, r2, r3, r4⟩, k⟩ := h
  obtain ⟨th, rfl, s1⟩ := dp_ints hh
  obtain ⟨tl, rfl, s2⟩ := dp_ints hl
  obtain rfl := dp_toInt hri
  unfold plainF at k
  walk_at "w"
  by_cases hn : l = []
  · subst hn
    rw [if_pos rfl] at k
    walk_at "w"
    intro p1 H1 n1 e1 h1
    walk_at "w"
    intro p2 H2 n2 e2 h2
    exact k _ _ (e1.trans e2) (dp_of_raw (st_of h2) (ex_t e2 (ex_t e1 s1)) (ex_t e2 (st_of h1)))
  · rw [if_neg hn] at k
    have hl0 : 0 < l.length := List.length_pos_iff.mpr hn
    walk_at "w"
    refine ⟨l, r, dp_of_ints s2, .int r, ⟨r1, r2, by simp, r4⟩, fun v H1 e1 d1 => ?_⟩
    obtain ⟨pa, x, y, rfl, sp, dx, dy⟩ := dp_t2 d1
    obtain ⟨ta, rfl, sa⟩ := dp_ints dx
    obtain rfl := dp_toInt dy
    obtain ⟨q1, q2⟩ := shortLoop_len l r
    obtain ⟨q3, q4⟩ := shortLoop_rise (l := l) hr0
    have q5 := q2 hn
    have q5' := q5
    generalize shortLoop l r = sl at *
    obtain ⟨l', r'⟩ := sl
    dsimp only at *
    have hl1 : 0 < l'.length := List.length_pos_iff.mpr q5
    walk_at "w"
    refine w_cut (M := fun σ' H' => ∃ (m : Nat) (bk : Option V), σ' = [some (.ref th), some (.ref ta), some (.int r'), some (.int (m : Int)), bk, none, none] ∧ Ex H1 H' ∧ m ≤ h.length ∧ cutH h l' r' h.length = m) ?_ ?_
    · refine ⟨fun m σ' H' => ∃ bk, σ' = [some (.ref th), some (.ref ta), some (.int r'), some (.int (m : Int)), bk, none, none] ∧ Ex H1 H' ∧ m ≤ h.length ∧ cutH h l' r' h.length = cutH h l' r' m, ⟨h.length, none, rfl, Ex.refl _, Nat.le_refl _, rfl⟩, ?_⟩
      rintro m σ' H' ⟨bk, rfl, e2, hm, hc⟩
      walk_at "w"
      cases m with
      | zero =>
        walk_at "w"
        exact ⟨0, _, rfl, e2, hm, hc⟩
      | succ m =>
        walk_at "w"
        refine ⟨_, fun σ2 H2 h2 => ⟨m, Nat.lt_succ_self m, h2⟩, ?_⟩
        have hb0 : 0 ≤ ((h.length : Int) - (m + 1 : Nat)) % l'.length := Int.emod_nonneg _ (by omega)
        have hb1 : ((h.length : Int) - (m + 1 : Nat)) % l'.length < l'.length := Int.emod_lt_of_pos _ (by omega)
        walk_at "w"
        have hb : bkV l' r' ((h.length : Int) - (m + 1 : Nat)) = gI l' (-1 - (↑h.length - ↑(m + 1)) % ↑l'.length + ↑l'.length) - r' * ((↑h.length - ↑(m + 1)) / ↑l'.length + 1) := rfl
        rw [← hb, show ((m + 1 : Nat) : Int) - 1 = (m : Int) by omega]
        by_cases c : gI h m = bkV l' r' ((h.length : Int) - (m + 1 : Nat))
        · walk_at "w"
          rw [show ((m + 1 : Nat) : Int) - 1 = (m : Int) by omega]
          refine ⟨_, rfl, e2, by omega, ?_⟩
          rw [hc]
          exact if_pos c
        · walk_at "w"
          refine ⟨m + 1, _, rfl, e2, hm, ?_⟩
          rw [hc]
          exact if_neg c
    · rintro σ' H' ⟨m, bk, rfl, e2, hm, hc⟩
      walk_at "w"
      intro p1 H2 n2 e3 h3
      walk_at "w"
      intro p2 H3 e4 s4
      rw [Int.toNat_natCast] at s4
      walk_at "w"
      have hs : Dp K H3 (.ref p1) (dRaw h l' r') := dp_of_raw (ex_t e4 (st_of h3)) (by walk_at "hp") (by walk_at "hp")
      refine lcJ_r0 (v := fun i : Nat => .int ((vat h l' r' (m + 1 + i)).getD 0)) (by omega) (fun x => [_, _, _, _, _, _, some x]) (fun x => rfl) (fun x => rfl) (fun j H4 Q' e5 hj hq => ?_) (fun p4 H4 n4 e5 h5 => ?_)
      · walk_at "w"
        refine ⟨h, l', r', some (m + 1 + j), dp_ex e5 hs, .int _, fun n hn => by cases hn; omega, ⟨by omega, by omega, r3, by omega⟩, fun v H5 e6 d6 => ?_⟩
        obtain rfl := dp_toInt (by rw [show valueAt h l' r' (some (m + 1 + j)) = some _ from vat_some q5'] at d6; exact d6)
        exact hq _ e6
      · walk_at "w"
        intro p5 H5 e6 s6
        walk_at "w"
        intro p6 H6 n6 e7 h6
        rw [Int.toNat_natCast] at s6
        rw [hc] at k
        refine k _ _ (by walk_at "ex") (dp_of_raw (st_of h6) (by walk_at "hp") (ex_t e7 ?_))
        unfold vI
        rw [List.map_map]
        exact s6

def rising (ns : List Int) : Prop := ∀ i : Nat, i + 1 < ns.length → gI ns i ≤ gI ns (i + 1)
def allPos (ns : List Int) : Prop := ∀ n ∈ ns, 0 ≤ n
/-- a tuple or a list of ints -/
def dSeqI (b : Bool) (ns : List Int) : PyData := if b then dInts ns else dIntL ns
theorem dp_seqI {K : PySem.W.Frag} {H : Hp} {v : V} {b : Bool} {ns : List Int} (h : Dp K H v (dSeqI b ns)) : ∃ a, v = .ref a ∧ ((b = true ∧ SqT K H a (vI ns)) ∨ (b = false ∧ SqL K H a (vI ns))) := by
  cases b with
  | true => obtain ⟨a, e, s⟩ := dp_ints h; exact ⟨a, e, .inl ⟨rfl, s⟩⟩
  | false => obtain ⟨a, e, s⟩ := dp_intL h; exact ⟨a, e, .inr ⟨rfl, s⟩⟩
abbrev N_is_counts : List Str := ["thing", "one"]
theorem sc_is_counts : FnScope N_is_counts ["thing"] (defScope s_is_counts) := ⟨rfl, rfl, rfl, by decide +kernel, rfl, by decide +kernel, by decide +kernel⟩
theorem ok_is_counts {P : Program} {w : World} {K : PySem.W.Frag} {mg : Str → Option Value} {base : Heap} (E : Env P K mg) : Fn P w K mg base CX0 3 "is_counts" (sp1 fun v H Q _ => ∃ b ns, Dp K H v (dSeqI b ns) ∧ allPos ns ∧ ns.length ≤ 50000 ∧ RetD K (.bool true) H Q) := by
  obtain ⟨fd, F⟩ := E.dd_is_counts
  refine Fn.mk0 F E.g_is_counts sc_is_counts sp1_len (fun _ _ _ _ _ _ us hl => match us, hl with | [_], _ => rfl) (fun cdv A outer s H vs Q X hr h => ?_)
  have nd := sc_is_counts.nd
  obtain ⟨v0, rfl, h⟩ := h
  refine ⟨_, (pss_one (ps_ret (pe_and (pc (ok_is_listed E) hr (by decide) pass0 rfl (pa_cons (pv 0) pa_nil)) (pe_one (pe_callB (kAll K rfl) (by rfl) E.f_all (by decide +kernel) (pa_cons (pe_lc (own := [("one", 1)]) (g := gName 1) (tt := tYes) rfl nd (kSeq K (pv 0)) (blkOk_by (N := N_is_counts) (sc := defScope s_is_counts) (by decide +kernel)) (fun _ _ _ _ _ => pg_name (i := 1) nd rfl (Or.inl rfl)) (fun _ _ _ _ _ => pts_nil) (fun _ _ _ _ _ => pc (ok_is_count E) hr (by decide) pass0 rfl (pa_cons (pv 1) pa_nil))) pa_nil)))))), ?_⟩
  change (_ : TS) _ [some v0, none] H
  try dsimp only [cxOf, Cx.nox, Cx.blk]
  obtain ⟨b, ns, hd, hp, hz, k⟩ := h
  obtain ⟨a, rfl, hs⟩ := dp_seqI hd
  walk_at "w"
  refine ⟨_, hd, fun v H1 e1 d1 => ?_⟩
  have e : dIsSeq (dSeqI b ns) = true := by cases b <;> rfl
  rw [e] at d1
  obtain rfl := dp_toBl d1
  walk_at "w"
  have key : ∀ (x : V) (H2 : Hp) (Q' : VK), x ∈ vI ns → (∀ H3, Ex H2 H3 → Q' (.bl true) H3) → ∃ d, Dp K H2 x d ∧ RetD K (.bool (dIsCount d)) H2 Q' := fun x H2 Q' hx hq => by
    obtain ⟨n, hn, rfl⟩ := List.mem_map.mp hx
    refine ⟨.int n, .int n, fun v H3 e3 d3 => ?_⟩
    rw [show dIsCount (.int n) = true from decide_eq_true (hp n hn)] at d3
    obtain rfl := dp_toBl d3
    exact hq H3 e3
  have fin : ∀ (p : Addr) (H2 : Hp), Ex H1 H2 → H2 p = some (.lst ((vI ns).map fun _ => V.bl true)) → rAll K [.ref p] H2 (fun v H => Q v H) := fun p H2 e2 hp => by
    refine r_all (bs := (vI ns).map fun _ => true) (sq_of hp) (by simp [Function.comp]) ?_
    have : ((vI ns).map fun _ => true).all id = true := by simp
    rw [this]
    exact k.bl (e1.trans e2)
  rcases hs with ⟨rfl, s⟩ | ⟨rfl, s⟩
  · refine i_seqT ?_
    walk_at "w"
    refine lcJ_tup (v := fun _ => .bl true) (ex_t e1 s) (by rw [List.length_map]; omega) (fun x => [_, some x]) (fun x => rfl) (fun x => rfl) (fun x H2 Q' e2 hx hq => ?_) (fun p H2 n2 e2 hp => ?_)
    · walk_at "w"
      exact key x H2 Q' hx hq
    · walk_at "w"
      exact fin p H2 e2 hp
  · refine i_seqL ?_
    walk_at "w"
    refine lcJ_list (v := fun _ => .bl true) (ex_l e1 s) (by rw [List.length_map]; omega) (fun x => [_, some x]) (fun x => rfl) (fun x => rfl) (fun x H2 Q' e2 hx hq => ?_) (fun p H2 n2 e2 hp => ?_)
    · walk_at "w"
      exact key x H2 Q' hx hq
    · walk_at "w"
      exact fin p H2 e2 hp
abbrev N_is_rising : List Str := ["counts", "place"]
theorem sc_is_rising : FnScope N_is_rising ["counts"] (defScope s_is_rising) := ⟨rfl, rfl, rfl, by decide +kernel, rfl, by decide +kernel, by decide +kernel⟩
theorem ok_is_rising {P : Program} {w : World} {K : PySem.W.Frag} {mg : Str → Option Value} {base : Heap} (E : Env P K mg) : Fn P w K mg base CX0 1 "is_rising" (sp1 fun v H Q _ => ∃ b ns, Dp K H v (dSeqI b ns) ∧ rising ns ∧ ns.length ≤ 50000 ∧ RetD K (.bool true) H Q) := by
  obtain ⟨fd, F⟩ := E.dd_is_rising
  refine Fn.mk0 F E.g_is_rising sc_is_rising sp1_len (fun _ _ _ _ _ _ us hl => match us, hl with | [_], _ => rfl) (fun cdv A outer s H vs Q X hr h => ?_)
  have nd := sc_is_rising.nd
  obtain ⟨v0, rfl, h⟩ := h
  refine ⟨_, (pss_one (ps_ret (pe_callB (kAll K rfl) (by rfl) E.f_all (by decide +kernel) (pa_cons (pe_lc (own := [("place", 1)]) (g := gName 1) (tt := tYes) rfl nd (pi_range1 (by rfl) E.f_range (pa_cons (pe_op xSub (pe_callB (kLen K) (by rfl) E.f_len (by decide +kernel) (pa_cons (pv 0) pa_nil)) (pe_int)) pa_nil)) (blkOk_by (N := N_is_rising) (sc := defScope s_is_rising) (by decide +kernel)) (fun _ _ _ _ _ => pg_name (i := 1) nd rfl (Or.inl rfl)) (fun _ _ _ _ _ => pts_nil) (fun _ _ _ _ _ => pe_cmpR op_le (pe_ix (kIx K) (pv 0) (pv 1) (fun _ _ => rfl)) (pe_ix (kIx K) (pv 0) (pe_op (kAdd K) (pv 1) (pe_int)) (fun _ _ => rfl)) (nomark _))) pa_nil)))), ?_⟩
  change (_ : TS) _ [some v0, none] H
  try dsimp only [cxOf, Cx.nox, Cx.blk]
  obtain ⟨b, ns, hd, hri, hz, k⟩ := h
  obtain ⟨a, rfl, hs⟩ := dp_seqI hd
  have fin : ∀ (p : Addr) (H2 : Hp), Ex H H2 → H2 p = some (.lst ((List.range ((ns.length : Int) - 1).toNat).map fun _ => V.bl true)) → rAll K [.ref p] H2 (fun v H => Q v H) := fun p H2 e2 hp => by
    refine r_all (bs := (List.range ((ns.length : Int) - 1).toNat).map fun _ => true) (sq_of hp) (by simp [Function.comp]) ?_
    have : ((List.range ((ns.length : Int) - 1).toNat).map fun _ => true).all id = true := by simp
    rw [this]
    exact k.bl e2
  have cmp : ∀ j : Nat, j < ((ns.length : Int) - 1).toNat → decide (gI ns j ≤ gI ns (j + 1)) = true := fun j hj => decide_eq_true (hri j (by omega))
  rcases hs with ⟨rfl, s⟩ | ⟨rfl, s⟩
  all_goals
    walk_at "w"
    refine lcJ_r0 (v := fun _ => .bl true) (by omega) (fun x => [_, some x]) (fun x => rfl) (fun x => rfl) (fun j H2 Q' e2 hj hq => ?_) (fun p H2 n2 e2 hp => ?_)
    · walk_at "w"
      rw [cmp j hj]
      exact hq _ (Ex.refl _)
    · walk_at "w"
      exact fin p H2 e2 hp

abbrev spDeep (K : PySem.W.Frag) (n : Nat) : Sp := sp1 fun v H Q _ => ∃ d, Dp K H v d ∧ shp n d = true ∧ RetD K (dDeep d) H Q
abbrev N_deep : List Str := ["thing", "one"]
theorem sc_deep : FnScope N_deep ["thing"] (defScope s_deep) := ⟨rfl, rfl, rfl, by decide +kernel, rfl, by decide +kernel, by decide +kernel⟩
--derivation of deep:
theorem deep_step {P : Program} {w : World} {K : PySem.W.Frag} {mg : Str → Option Value} {base : Heap} (E : Env P K mg) {k n : Nat} {sp : Sp} (hk1 : 1 ≤ k) (IH : Fn P w K mg base CX0 k "deep" sp)
    (hsp : ∀ (m : Nat), n = m + 1 → sp = spDeep K m) : Fn P w K mg base CX0 (k + 1) "deep" (spDeep K n) := by
  obtain ⟨fd, F⟩ := E.dd_deep
  refine Fn.mk0 F E.g_deep sc_deep sp1_len (fun _ _ _ _ _ _ us hl => match us, hl with | [_], _ => rfl) (fun cdv A outer s H vs Q X hr h => ?_)
  have nd := sc_deep.nd
  obtain ⟨v0, rfl, h⟩ := h
  refine ⟨_, (pss_cons (ps_if (kTru K (pc (ok_is_listed E) hr (by omega) pass0 rfl (pa_cons (pv 0) pa_nil)) (by intro _; rfl))
   (pss_one (ps_ret (pe_callTy (kTup K) (by rfl) E.f_tuple (by decide +kernel) (pa_cons (pe_lc (own := [("one", 1)]) (g := gName 1) (tt := tYes) rfl nd (kSeq K (pv 0)) (blkOk_by (N := N_deep) (sc := defScope s_deep) (by decide +kernel)) (fun _ _ _ _ _ => pg_name (i := 1) nd rfl (Or.inl rfl)) (fun _ _ _ _ _ => pts_nil) (fun _ _ _ _ _ => pc IH hr (by omega) pass0 rfl (pa_cons (pv 1) pa_nil))) pa_nil))))
   pss_nil)
  (pss_one (ps_ret (pv 0)))), ?_⟩
  change (_ : TS) _ [some v0, none] H
  obtain ⟨d, hd, hs, k⟩ := h
  walk_at "w"
  refine ⟨d, hd, fun v H1 e1 d1 => ?_⟩
  obtain rfl := dp_toBl d1
  have h0 : ∀ (b : Bool), dIsSeq d = b → (b = false → dDeep d = d) := by
    intro b hb hb2
    subst hb2
    cases d with
    | list _ => exact nomatch hb
    | tuple _ => exact nomatch hb
    | dict _ => exact (dp_nodict hd).elim
    | _ => rfl
  cases hq : dIsSeq d with
  | false =>
    walk_at "w"
    rw [h0 false hq rfl] at k
    exact k _ _ e1 (dp_ex e1 hd)
  | true =>
    walk_at "w"
    cases n with
    | zero => cases d <;> first | (simp [dIsSeq] at hq; done) | (simp [shp] at hs; done)
    | succ n =>
      have esp := hsp n rfl
      subst esp
      have fin : ∀ (ds : List PyData) (p : Addr) (H2 : Hp) (ys : List V), dDeep d = .tuple (dDeepAll ds) → Ex H1 H2 → H2 p = some (.lst ys) → DpAll K H2 ys ((List.range ds.length).map fun i => dDeep (ds.getD i .none)) → ∀ (p3 : Addr) (H3 : Hp), Ex H2 H3 → SqT K H3 p3 ys → Q (.ref p3) H3 := fun ds p H2 ys he e2 hp hy p3 H3 e3 s3 => by
        rw [he] at k
        refine k _ _ (e1.trans (e2.trans e3)) (.tup s3 ?_)
        have el : (List.range ds.length).map (fun i => dDeep (ds.getD i .none)) = dDeepAll ds := by
          rw [dDeepAll_eq]
          apply List.ext_getElem
          · simp
          · intro i h1 h2
            simp at h1 h2
            simp [h2]
        rw [el] at hy
        exact dpAll_ex e3 hy
      have elt : ∀ (ds : List PyData) (xs : List V) (H1' : Hp) (i : Nat) (x : V) (Q' : VK) (h1 : DpAll K H xs ds) (hsh : shpAll n ds = true), Ex H H1' → xs[i]? = some x → (∀ y H2, Ex H1' H2 → Dp K H2 y (dDeep (ds.getD i .none)) → Q' y H2) → ∃ d, Dp K H1' x d ∧ shp n d = true ∧ RetD K (dDeep d) H1' Q' := by
        intro ds xs H1' i x Q' h1 hsh e hx hq
        obtain ⟨d', g1, g2⟩ := dpAll_get h1 hx
        refine ⟨d', dp_ex e g2, shpAll_get hsh g1, fun y H2 e2 d2 => hq y H2 e2 ?_⟩
        rw [List.getD_eq_getElem?_getD, g1]
        exact d2
      cases hd with
      | lst s a =>
        rename_i ad xs ds
        obtain ⟨hz, hsh⟩ := Bool.and_eq_true_iff.mp (show (decide (ds.length ≤ 50000) && shpAll n ds) = true from hs)
        have hz' := of_decide_eq_true hz
        have hl := dpAll_len a
        refine i_seqL ?_
        walk_at "w"
        refine lcD_list (fun i => dDeep (ds.getD i .none)) (fun i => imm_deep _) (ex_l e1 s) (by omega) (fun x => [_, some x]) (fun x => rfl) (fun x => rfl) (fun i x H2 Q' e2 hx hq => ?_) (fun p H2 ys n2 e2 hp hy => ?_)
        · walk_at "w"
          exact elt ds xs H2 i x Q' a hsh (e1.trans e2) hx hq
        · walk_at "w"
          rw [hl] at hy
          intro p3 H3 e3 s3
          exact fin ds p H2 ys rfl e2 hp hy p3 H3 e3 s3
      | tup s a =>
        rename_i ad xs ds
        obtain ⟨hz, hsh⟩ := Bool.and_eq_true_iff.mp (show (decide (ds.length ≤ 50000) && shpAll n ds) = true from hs)
        have hz' := of_decide_eq_true hz
        have hl := dpAll_len a
        refine i_seqT ?_
        walk_at "w"
        refine lcD_tup (fun i => dDeep (ds.getD i .none)) (fun i => imm_deep _) (ex_t e1 s) (by omega) (fun x => [_, some x]) (fun x => rfl) (fun x => rfl) (fun i x H2 Q' e2 hx hq => ?_) (fun p H2 ys n2 e2 hp hy => ?_)
        · walk_at "w"
          exact elt ds xs H2 i x Q' a hsh (e1.trans e2) hx hq
        · walk_at "w"
          rw [hl] at hy
          intro p3 H3 e3 s3
          exact fin ds p H2 ys rfl e2 hp hy p3 H3 e3 s3
      | _ => exact nomatch hq
theorem ok_deepN {P : Program} {w : World} {K : PySem.W.Frag} {mg : Str → Option Value} {base : Heap} (E : Env P K mg) : ∀ n : Nat, Fn P w K mg base CX0 (n + 2) "deep" (spDeep K n)
  | 0 => by
    obtain ⟨fd, F⟩ := E.dd_deep
    exact deep_step E (k := 1) (Nat.le_refl _) (Fn.never F E.g_deep (ps := ["thing"]) (fun _ _ _ _ _ _ us hl => match us, hl with | [_], _ => rfl)) (fun m e => nomatch e)
  | n + 1 => deep_step E (by omega) (ok_deepN E n) (fun m e => by cases e; rfl)
theorem ok_deep {P : Program} {w : World} {K : PySem.W.Frag} {mg : Str → Option Value} {base : Heap} (E : Env P K mg) : Fn P w K mg base CX0 8 "deep" (spDeep K 6) := ok_deepN E 6

/-- a head, a loop and a rise that make a table -/
structure Val (h l : List Int) (r : Int) : Prop where
  p1 : allPos h
  p2 : allPos l
  r1 : rising h
  r2 : rising l
  r0 : 0 ≤ r
  e0 : l = [] → r = 0
  hl : h ≠ [] → l ≠ [] → gI h (h.length - 1) ≤ gI l 0
  ll : l ≠ [] → gI l (l.length - 1) ≤ gI l 0 + r
  sm : RSm h l r
theorem dp_seqE {K : PySem.W.Frag} {H : Hp} {v : V} {b : Bool} {ns : List Int} (h : Dp K H v (dSeqI b ns)) : ∃ a, v = .ref a ∧ SqE K H a (vI ns) := by
  obtain ⟨a, e, h⟩ := dp_seqI h
  exact ⟨a, e, h.elim (fun h => .inr h.2) (fun h => .inl h.2)⟩
theorem deep_seq (b : Bool) (ns : List Int) : dDeep (dSeqI b ns) = dInts ns := by
  cases b <;> (show PyData.tuple (dDeepAll (ns.map .int)) = _; rw [dDeep_ints])
theorem shp_seq {b : Bool} {ns : List Int} (h : ns.length ≤ 50000) : shp 6 (dSeqI b ns) = true := by
  have key : ∀ ns : List Int, shpAll 5 (ns.map .int) = true := fun ns => by
    induction ns with
    | nil => rfl
    | cons n ns ih => show (shp 5 (.int n) && shpAll 5 (ns.map .int)) = true; rw [ih]; rfl
  cases b <;> (show (decide ((ns.map PyData.int).length ≤ 50000) && shpAll 5 (ns.map .int)) = true; rw [key, List.length_map, decide_eq_true h]; rfl)
noncomputable abbrev dPl (h l : List Int) (r : Int) : PyData := dRaw (plainF h l r).1 (plainF h l r).2.1 (plainF h l r).2.2
abbrev N_checked_table : List Str := ["head", "loop", "rise"]
theorem sc_checked_table : FnScope N_checked_table ["head", "loop", "rise"] (defScope s_checked_table) := ⟨rfl, rfl, rfl, by decide +kernel, rfl, by decide +kernel, by decide +kernel⟩
theorem ok_checked_table {P : Program} {w : World} {K : PySem.W.Frag} {mg : Str → Option Value} {base : Heap} (E : Env P K mg) : Fn P w K mg base CX0 9 "checked_table" (sp3 fun a b c H Q _ => ∃ b1 b2 h l r, Dp K H a (dSeqI b1 h) ∧ Dp K H b (dSeqI b2 l) ∧ Dp K H c (.int r) ∧ Val h l r ∧ RetD K (dPl h l r) H Q) := by
  obtain ⟨fd, F⟩ := E.dd_checked_table
  refine Fn.mk0 F E.g_checked_table sc_checked_table sp3_len (fun _ _ _ _ _ _ us hl => match us, hl with | [_, _, _], _ => rfl) (fun cdv A outer s H vs Q X hr h => ?_)
  have nd := sc_checked_table.nd
  obtain ⟨v0, v1, v2, rfl, h⟩ := h
  refine ⟨_, (pss_cut (ps_if (PW.pt (pw_or (pt_not (kTru K (pc (ok_is_counts E) hr (by decide) pass0 rfl (pa_cons (pv 0) pa_nil)) (by intro _; rfl))) (pw_or1 (pt_not (kTru K (pc (ok_is_rising E) hr (by decide) pass0 rfl (pa_cons (pv 0) pa_nil)) (by intro _; rfl))))))
   (pss_one (ps_never))
   pss_nil)
  (pss_cut (ps_if (PW.pt (pw_or (pt_not (kTru K (pc (ok_is_counts E) hr (by decide) pass0 rfl (pa_cons (pv 1) pa_nil)) (by intro _; rfl))) (pw_or1 (pt_not (kTru K (pc (ok_is_rising E) hr (by decide) pass0 rfl (pa_cons (pv 1) pa_nil)) (by intro _; rfl))))))
   (pss_one (ps_never))
   pss_nil)
  (pss_cut (ps_if (PW.pt (pw_and (pt_cmpR op_gt (pe_callB (kLen K) (by rfl) E.f_len (by decide +kernel) (pa_cons (pv 0) pa_nil)) (pe_int) (nomark _)) (pw_and (pt_cmpR op_gt (pe_callB (kLen K) (by rfl) E.f_len (by decide +kernel) (pa_cons (pv 1) pa_nil)) (pe_int) (nomark _)) (pw_and1 (pt_cmpR op_lt (pe_ix (kIx K) (pv 1) (pe_int) (fun _ _ => rfl)) (pe_ix (kIx K) (pv 0) (pe_un un_neg (pe_int)) (fun _ _ => rfl)) (nomark _))))))
   (pss_one (ps_never))
   pss_nil)
  (pss_cut (ps_if (PW.pt (pw_or (pt_not (kTru K (pc (ok_is_count E) hr (by decide) pass0 rfl (pa_cons (pv 2) pa_nil)) (by intro _; rfl))) (pw_or1 (PW.pt (pw_and (pt_cmpR (kEq K hr) (pe_callB (kLen K) (by rfl) E.f_len (by decide +kernel) (pa_cons (pv 1) pa_nil)) (pe_int) (nomark _)) (pw_and1 (pt_cmpR op_gt (pv 2) (pe_int) (nomark _))))))))
   (pss_one (ps_never))
   pss_nil)
  (pss_cut (ps_if (PW.pt (pw_and (pt_cmpR op_gt (pe_callB (kLen K) (by rfl) E.f_len (by decide +kernel) (pa_cons (pv 1) pa_nil)) (pe_int) (nomark _)) (pw_and1 (pt_cmpR op_gt (pe_ix (kIx K) (pv 1) (pe_un un_neg (pe_int)) (fun _ _ => rfl)) (pe_op (kAdd K) (pe_ix (kIx K) (pv 1) (pe_int) (fun _ _ => rfl)) (pv 2)) (nomark _)))))
   (pss_one (ps_never))
   pss_nil)
  (pss_one (ps_ret (pc (ok_plain_form E) hr (by decide) pass0 rfl (pa_cons (pc (ok_deep E) hr (by decide) pass0 rfl (pa_cons (pv 0) pa_nil)) (pa_cons (pc (ok_deep E) hr (by decide) pass0 rfl (pa_cons (pv 1) pa_nil)) (pa_cons (pv 2) pa_nil))))))))))), ?_⟩
  change (_ : TS) _ [some v0, some v1, some v2] H
  try dsimp only [cxOf, Cx.nox, Cx.blk]
  obtain ⟨b1, b2, h, l, r, d1, d2, d3, W, k⟩ := h
  obtain rfl := dp_toInt d3
  obtain ⟨z1, z2, z3, z4⟩ := W.sm
  have z5 := W.r0
  obtain ⟨a1, rfl, s1⟩ := dp_seqE d1
  obtain ⟨a2, rfl, s2⟩ := dp_seqE d2
  have hlast : h ≠ [] → l ≠ [] → gI h (-1 + h.length) ≤ gI l 0 := fun q1 q2 => by
    have := W.hl q1 q2
    rwa [show (h.length : Int) - 1 = -1 + h.length by omega] at this
  have llast : l ≠ [] → gI l (-1 + l.length) ≤ gI l 0 + r := fun q1 => by
    have := W.ll q1
    rwa [show (l.length : Int) - 1 = -1 + l.length by omega] at this
  have ne0 : ∀ {xs : List Int}, 0 < (xs.length : Int) → xs ≠ [] := fun q => List.length_pos_iff.mp (by omega)
  refine w_cut (M := fun σ' H' => σ' = [some (.ref a1), some (.ref a2), some (.int r)] ∧ Ex H H') ?_ ?_
  · walk_at "w"
    refine ⟨b1, h, d1, W.p1, z3, fun v H1 e1 q1 => ?_⟩
    obtain rfl := dp_toBl q1
    walk_at "w"
    refine ⟨b1, h, dp_ex e1 d1, W.r1, z3, fun v H2 e2 q1 => ?_⟩
    obtain rfl := dp_toBl q1
    walk_at "w"
    exact ⟨rfl, e1.trans e2⟩
  rintro σ' H0 ⟨rfl, e0⟩
  refine w_cut (M := fun σ' H' => σ' = [some (.ref a1), some (.ref a2), some (.int r)] ∧ Ex H H') ?_ ?_
  · walk_at "w"
    refine ⟨b2, l, dp_ex e0 d2, W.p2, z4, fun v H1 e1 q1 => ?_⟩
    obtain rfl := dp_toBl q1
    walk_at "w"
    refine ⟨b2, l, dp_ex (e0.trans e1) d2, W.r2, z4, fun v H2 e2 q1 => ?_⟩
    obtain rfl := dp_toBl q1
    walk_at "w"
    exact ⟨rfl, (e0.trans e1).trans e2⟩
  rintro σ' H1 ⟨rfl, e1⟩
  clear e0
  refine w_cut (M := fun σ' H' => σ' = [some (.ref a1), some (.ref a2), some (.int r)] ∧ Ex H H') ?_ ?_
  · walk_at "w"
    refine w_ite (fun q1 => ?_) (fun q1 => ?_)
    · walk_at "w"
      refine w_ite (fun q2 => ?_) (fun q2 => ?_)
      · have := hlast (ne0 q1) (ne0 q2)
        walk_at "w"
        exact ⟨rfl, e1⟩
      · walk_at "w"
        exact ⟨rfl, e1⟩
    · walk_at "w"
      exact ⟨rfl, e1⟩
  rintro σ' H2 ⟨rfl, e2⟩
  clear e1
  refine w_cut (M := fun σ' H' => σ' = [some (.ref a1), some (.ref a2), some (.int r)] ∧ Ex H H') ?_ ?_
  · walk_at "w"
    refine ⟨.int r, .int r, fun v H3 e3 q1 => ?_⟩
    rw [show dIsCount (.int r) = true from decide_eq_true z5] at q1
    obtain rfl := dp_toBl q1
    walk_at "w"
    refine w_ite (fun q1 => ?_) (fun q1 => ?_)
    · have := W.e0 (List.length_eq_zero_iff.mp (by omega))
      walk_at "w"
      exact ⟨rfl, e2.trans e3⟩
    · walk_at "w"
      exact ⟨rfl, e2.trans e3⟩
  rintro σ' H3 ⟨rfl, e3⟩
  clear e2
  refine w_cut (M := fun σ' H' => σ' = [some (.ref a1), some (.ref a2), some (.int r)] ∧ Ex H H') ?_ ?_
  · walk_at "w"
    refine w_ite (fun q1 => ?_) (fun q1 => ?_)
    · have := llast (ne0 q1)
      walk_at "w"
      exact ⟨rfl, e3⟩
    · walk_at "w"
      exact ⟨rfl, e3⟩
  rintro σ' H4 ⟨rfl, e4⟩
  clear e3
  walk_at "w"
  refine ⟨dSeqI b1 h, dp_ex e4 d1, shp_seq z3, fun v H5 e5 q5 => ?_⟩
  rw [deep_seq] at q5
  walk_at "w"
  refine ⟨dSeqI b2 l, dp_ex (e4.trans e5) d2, shp_seq z4, fun v2 H6 e6 q6 => ?_⟩
  rw [deep_seq] at q6
  walk_at "w"
  exact ⟨h, l, r, dp_ex e6 q5, q6, .int r, z5, W.sm, fun v H7 e7 q7 => k _ _ (by walk_at "ex") q7⟩

def tFlds (th tl : Addr) (r : Int) : List (Str × V) := putF "rise" (.int r) (putF "loop" (.ref tl) (putF "head" (.ref th) []))
theorem tn_hl : ¬ (("head" : Str) = "loop") := by decide +kernel
theorem tn_hr : ¬ (("head" : Str) = "rise") := by decide +kernel
theorem tn_lr : ¬ (("loop" : Str) = "rise") := by decide +kernel
theorem tFlds_head (th tl : Addr) (r : Int) : (tFlds th tl r).lookup ("head" : Str) = some (.ref th) := by
  unfold tFlds
  rw [lookup_putF, if_neg tn_hr, lookup_putF, if_neg tn_hl, lookup_putF, if_pos rfl]
theorem tFlds_loop (th tl : Addr) (r : Int) : (tFlds th tl r).lookup ("loop" : Str) = some (.ref tl) := by
  unfold tFlds
  rw [lookup_putF, if_neg tn_lr, lookup_putF, if_pos rfl]
theorem tFlds_rise (th tl : Addr) (r : Int) : (tFlds th tl r).lookup ("rise" : Str) = some (.int r) := by
  unfold tFlds
  rw [lookup_putF, if_pos rfl]
theorem putF_len (f : Str) (y : V) : ∀ fs : List (Str × V), (putF f y fs).length ≤ fs.length + 1
  | [] => Nat.le_refl _
  | (g, v) :: r => by
    show (if g = f then (g, y) :: r else (g, v) :: putF f y r).length ≤ _
    split
    · exact Nat.le_succ _
    · exact Nat.succ_le_succ (putF_len f y r)
/-- a table stands at x -/
def TabAt (K : PySem.W.Frag) (H : Hp) (x : Addr) (h l : List Int) (r : Int) : Prop := ∃ dx th tl, H x = some (.ins (He.ga K "Table") dx (tFlds th tl r)) ∧ SqT K H th (vI h) ∧ SqT K H tl (vI l)
theorem ex_tab {K : PySem.W.Frag} {H H' : Hp} {x : Addr} {h l : List Int} {r : Int} (e : Ex H H') (t : TabAt K H x h l r) : TabAt K H' x h l r := by
  obtain ⟨dx, th, tl, h1, h2, h3⟩ := t
  exact ⟨dx, th, tl, e _ _ h1, ex_t e h2, ex_t e h3⟩
section
variable {P : Program} {K : PySem.W.Frag} {mg : Str → Option Value} {H : Hp} {x : Addr} {h l : List Int} {r : Int} {Q : VK}
theorem r_tabHead (E : Env P K mg) (t : TabAt K H x h l r) (q : ∀ th, SqT K H th (vI h) → Q (.ref th) H) : GetF K "head" (.ref x) H Q := by
  obtain ⟨dx, th, tl, h1, h2, h3⟩ := t
  exact r_getF h1 E.c_Table E.na_Table_head (tFlds_head _ _ _) (q th h2)
theorem r_tabLoop (E : Env P K mg) (t : TabAt K H x h l r) (q : ∀ tl, SqT K H tl (vI l) → Q (.ref tl) H) : GetF K "loop" (.ref x) H Q := by
  obtain ⟨dx, th, tl, h1, h2, h3⟩ := t
  exact r_getF h1 E.c_Table E.na_Table_loop (tFlds_loop _ _ _) (q tl h3)
theorem r_tabRise (E : Env P K mg) (t : TabAt K H x h l r) (q : Q (.int r) H) : GetF K "rise" (.ref x) H Q := by
  obtain ⟨dx, th, tl, h1, h2, h3⟩ := t
  exact r_getF h1 E.c_Table E.na_Table_rise (tFlds_rise _ _ _) q
end
abbrev spInit (K : PySem.W.Frag) : Sp := sp4 fun x a b c H Q _ => ∃ p dx b1 b2 h l r, x = .ref p ∧ H p = some (.ins (He.ga K "Table") dx []) ∧ Dp K H a (dSeqI b1 h) ∧ Dp K H b (dSeqI b2 l) ∧ Dp K H c (.int r) ∧ Val h l r ∧ ∀ H', TabAt K H' p (plainF h l r).1 (plainF h l r).2.1 (plainF h l r).2.2 → (∀ a o, a ≠ p → H a = some o → H' a = some o) → Q .non H'
abbrev N_Table_init : List Str := ["self", "head", "loop", "rise", "told"]
theorem sc_Table_init : FnScope N_Table_init ["self", "head", "loop", "rise"] (defScope s_Table_init) := ⟨rfl, rfl, rfl, by decide +kernel, rfl, by decide +kernel, by decide +kernel⟩
theorem fx_Table_init {P : Program} {w : World} {K : PySem.W.Frag} {mg : Str → Option Value} {base : Heap} (E : Env P K mg) : ∃ fd, FunD K "__init__" "Table.__init__" (defArgs s_Table_init) (defBody s_Table_init) (defScope s_Table_init) (d_Table_init.dvs K) [] (d_Table_init.adr K) fd ∧ FnOk P w K mg base CX0 10 (d_Table_init.adr K) fd ["self", "head", "loop", "rise"] (spInit K) := by
  obtain ⟨fd, F⟩ := E.dd_Table_init
  refine ⟨fd, F, fnok0 F sc_Table_init sp4_len (fun cdv A outer s H vs Q X hr h => ?_)⟩
  have nd := sc_Table_init.nd
  obtain ⟨v0, v1, v2, v3, rfl, h⟩ := h
  refine ⟨_, (pss_cons (ps_set (i := 4) nd rfl (.inl rfl) (pc (ok_checked_table E) hr (by decide) pass0 rfl (pa_cons (pv 1) (pa_cons (pv 2) (pa_cons (pv 3) pa_nil)))))
  (pss_cons (kFldS K (ps_fld (pv 0) (pe_ix (kIx K) (pv 4) (pe_int) (fun _ _ => rfl)) rfl))
  (pss_cons (kFldS K (ps_fld (pv 0) (pe_ix (kIx K) (pv 4) (pe_int) (fun _ _ => rfl)) rfl))
  (pss_one (kFldS K (ps_fld (pv 0) (pe_ix (kIx K) (pv 4) (pe_int) (fun _ _ => rfl)) rfl)))))), ?_⟩
  change (_ : TS) _ [some v0, some v1, some v2, some v3, none] H
  try dsimp only [cxOf, Cx.nox, Cx.blk]
  obtain ⟨p, dx, b1, b2, h, l, r, rfl, hp, d1, d2, d3, W, k⟩ := h
  walk_at "w"
  refine ⟨b1, b2, h, l, r, d1, d2, d3, W, fun v H1 e1 q1 => ?_⟩
  obtain ⟨a, th, tl, rfl, s1, s2, s3⟩ := dp_raw q1
  have g1 : H1 p = some (.ins (He.ga K "Table") dx []) := e1 _ _ hp
  have nt : ∀ {a : Addr} {xs : List V} {H2 : Hp} {fs : List (Str × V)}, H2 p = some (.ins (He.ga K "Table") dx fs) → SqT K H2 a xs → ∀ o, SqT K (upd H2 p o) a xs := fun {a xs H2 fs} hp s o => by
    have key : ∀ u, H2 a = some u → (∃ o', u = .frz o' (.tup xs)) ∨ u = .tup xs → a ≠ p := by
      rintro u hu hc rfl
      rw [hp] at hu
      cases hu
      rcases hc with ⟨_, hc⟩ | hc <;> cases hc
    rcases s with (s | ⟨o', s⟩) | s
    · exact .inl (.inl (by rw [upd_ne (key _ s (.inr rfl))]; exact s))
    · exact .inl (.inr ⟨o', by rw [upd_ne (key _ s (.inl ⟨o', rfl⟩))]; exact s⟩)
    · exact .inr s
  have stp : ∀ {H2 : Hp} {fs : List (Str × V)} (o : HO), H2 p = some (.ins (He.ga K "Table") dx fs) → SqT K H2 a [.ref th, .ref tl, .int (plainF h l r).2.2] → SqT K H2 th (vI (plainF h l r).1) → SqT K H2 tl (vI (plainF h l r).2.1) →
      ∃ H3, upd H2 p o = H3 ∧ H3 p = some o ∧ SqT K H3 a [.ref th, .ref tl, .int (plainF h l r).2.2] ∧ SqT K H3 th (vI (plainF h l r).1) ∧ SqT K H3 tl (vI (plainF h l r).2.1) ∧ ∀ a u, a ≠ p → H2 a = some u → H3 a = some u :=
    fun {H2 fs} o hp t1 t2 t3 => ⟨_, rfl, upd_same, nt hp t1 o, nt hp t2 o, nt hp t3 o, fun a u ne e => by rw [upd_ne ne]; exact e⟩
  walk_at "w"
  refine r_putF g1 E.c_Table E.na_Table_head (by decide) ?_
  obtain ⟨H2, e2, g2, t1, t2, t3, k2⟩ := stp (.ins (He.ga K "Table") dx (putF "head" (.ref th) [])) g1 s1 s2 s3
  rw [e2]
  walk_at "w"
  refine r_putF g2 E.c_Table E.na_Table_loop (Nat.lt_of_le_of_lt (putF_len _ _ _) (by decide)) ?_
  obtain ⟨H3, e3, g3, t4, t5, t6, k3⟩ := stp (.ins (He.ga K "Table") dx (putF "loop" (.ref tl) (putF "head" (.ref th) []))) g2 t1 t2 t3
  rw [e3]
  walk_at "w"
  refine r_putF g3 E.c_Table E.na_Table_rise (Nat.lt_of_le_of_lt (Nat.le_trans (putF_len _ _ _) (Nat.succ_le_succ (putF_len _ _ _))) (by decide)) ?_
  obtain ⟨H4, e4, g4, t7, t8, t9, k4⟩ := stp (.ins (He.ga K "Table") dx (tFlds th tl (plainF h l r).2.2)) g3 t4 t5 t6
  refine k _ ⟨dx, th, tl, upd_same, ?_, ?_⟩ (fun a u ne e => ?_)
  · exact nt g3 t5 _
  · exact nt g3 t6 _
  · rw [upd_ne ne]
    exact k3 _ _ ne (k2 _ _ ne (e1 _ _ e))
/-- Table(..) made: from __init__'s promise to what a caller sees -/
theorem mk_tab {K : PySem.W.Frag} {H : Hp} {Q : VK} {a b c : V} {b1 b2 : Bool} {h l : List Int} {r : Int} {dvs ws : List V} (e : ws ++ dvs = [a, b, c]) (d1 : Dp K H a (dSeqI b1 h)) (d2 : Dp K H b (dSeqI b2 l)) (d3 : Dp K H c (.int r)) (W : Val h l r)
    (q : ∀ x H2, Ex H H2 → TabAt K H2 x (plainF h l r).1 (plainF h l r).2.1 (plainF h l r).2.2 → Q (.ref x) H2) :
    MakeI (He.ga K "Table") (spInit K) dvs E0 ws H Q := by
  intro x dx nx ndx ne
  rw [e]
  have ex : Ex H (upd (upd H dx (.own x)) x (.ins (He.ga K "Table") dx [])) := fun b o e => by
    rw [upd_ne (ne_of_none e nx), upd_ne (ne_of_none e ndx)]
    exact e
  refine ⟨_, _, _, _, rfl, x, dx, b1, b2, h, l, r, rfl, upd_same, dp_ex ex d1, dp_ex ex d2, dp_ex ex d3, W, fun H' t k => ⟨rfl, q x H' (fun b o e => ?_) t⟩⟩
  exact k b o (ne_of_none e nx) (ex b o e)
section
variable {P : Program} {w : World} {K : PySem.W.Frag} {mg : Str → Option Value} {base : Heap}
theorem ok_Table3 (E : Env P K mg) : Mkc P w K mg base CX0 10 "Table" (He.ga K "Table") (spInit K) [] := by
  obtain ⟨fd, F, k⟩ := fx_Table_init (P := P) (w := w) (base := base) E
  obtain ⟨ds, hd, hb⟩ := F.binds1 (ps := ["self", "head", "loop", "rise"]) 4 2 (List.cons_ne_nil _ _) rfl (fun T kV doc pm an cdv ct us its hu hi => match us, its, hu, hi with | [_, _, _, _], [_, _], _, _ => ⟨_, rfl, rfl⟩)
  exact ⟨_, fd, _, ds, E.mk_Table, k, E.g_Table, hb, hd⟩
end

section
variable {P : Program} {w : World} {K : PySem.W.Frag} {mg : Str → Option Value} {base : Heap}
theorem ok_Table2 (E : Env P K mg) : Mkc P w K mg base CX0 10 "Table" (He.ga K "Table") (spInit K) [.int 0] := by
  obtain ⟨fd, F, k⟩ := fx_Table_init (P := P) (w := w) (base := base) E
  obtain ⟨ds, hd, hb⟩ := F.binds1 (ps := ["self", "head", "loop", "rise"]) 3 1 (List.cons_ne_nil _ _) rfl (fun T kV doc pm an cdv ct us its hu hi => match us, its, hu, hi with | [_, _, _], [_, _], _, _ => ⟨_, rfl, rfl⟩)
  exact ⟨_, fd, _, ds, E.mk_Table, k, E.g_Table, hb, hd⟩
theorem ok_Table1 (E : Env P K mg) : Mkc P w K mg base CX0 10 "Table" (He.ga K "Table") (spInit K) [.ref (He.dflAt ("Table", some "__init__") 0 K), .int 0] := by
  obtain ⟨fd, F, k⟩ := fx_Table_init (P := P) (w := w) (base := base) E
  obtain ⟨ds, hd, hb⟩ := F.binds1 (ps := ["self", "head", "loop", "rise"]) 2 0 (List.cons_ne_nil _ _) rfl (fun T kV doc pm an cdv ct us its hu hi => match us, its, hu, hi with | [_, _], [_, _], _, _ => ⟨_, rfl, rfl⟩)
  exact ⟨_, fd, _, ds, E.mk_Table, k, E.g_Table, hb, hd⟩
end
local macro_rules | `(tactic| walk_at "hp") => `(tactic| first
  | with_reducible assumption
  | (with_reducible refine' ex_tab ?a ?b; (case a => with_reducible assumption); (case b => walk_at "hp")))
local macro_rules | `(tactic| walk_at "w2") => `(tactic| first
  | ((with_reducible refine' r_tabHead ?a ?b ?q); (case a => with_reducible assumption); (case b => walk_at "hp"))
  | ((with_reducible refine' r_tabLoop ?a ?b ?q); (case a => with_reducible assumption); (case b => walk_at "hp"))
  | ((with_reducible refine' r_tabRise ?a ?b ?q); (case a => with_reducible assumption); (case b => walk_at "hp")))
/-- gcd as the loop has it -/
def gcdI : Nat → Int → Int → Int
  | 0, a, _ => a
  | n + 1, a, b => if 0 < b then gcdI n b (a % b) else a
abbrev N_common_divisor : List Str := ["one", "other"]
theorem sc_common_divisor : FnScope N_common_divisor ["one", "other"] (defScope s_common_divisor) := ⟨rfl, rfl, rfl, by decide +kernel, rfl, by decide +kernel, by decide +kernel⟩
theorem ok_common_divisor {P : Program} {w : World} {K : PySem.W.Frag} {mg : Str → Option Value} {base : Heap} (E : Env P K mg) : Fn P w K mg base CX0 1 "common_divisor" (sp2 fun a b H Q _ => ∃ i j : Int, a = .int i ∧ b = .int j ∧ 0 ≤ i ∧ 0 ≤ j ∧ Q (.int (Int.gcd i j)) H) := by
  obtain ⟨fd, F⟩ := E.dd_common_divisor
  refine Fn.mk0 F E.g_common_divisor sc_common_divisor sp2_len (fun _ _ _ _ _ _ us hl => match us, hl with | [_, _], _ => rfl) (fun cdv A outer s H vs Q X hr h => ?_)
  have nd := sc_common_divisor.nd
  obtain ⟨v0, v1, rfl, h⟩ := h
  refine ⟨_, (pss_cons (ps_while PassesOwn.never (pt_cmpR op_gt (pv 1) (pe_int) (nomark _))
   (pss_one (ps_par (i := 0) (j := 1) rfl nd rfl rfl (by decide) rfl rfl (pa_cons (pv 1) (pa_cons (pe_op xMod (pv 0) (pv 1)) pa_nil)) rfl)))
  (pss_one (ps_ret (pv 0)))), ?_⟩
  change (_ : TS) _ [some v0, some v1] H
  try dsimp only [cxOf, Cx.nox, Cx.blk]
  obtain ⟨i, j, rfl, rfl, hi, hj, k⟩ := h
  walk_at "w"
  refine ⟨fun m σ' H' => ∃ a b : Int, σ' = [some (.int a), some (.int b)] ∧ H' = H ∧ 0 ≤ a ∧ 0 ≤ b ∧ b.toNat = m ∧ Int.gcd a b = Int.gcd i j, ⟨j.toNat, i, j, rfl, rfl, hi, hj, rfl, rfl⟩, ?_⟩
  rintro m σ' H' ⟨a, b, rfl, rfl, ha, hb, hm, hg⟩
  walk_at "w"
  by_cases c : 0 < b
  · walk_at "w"
    refine ⟨_, fun σ2 H2 h2 => h2, ?_⟩
    walk_at "w"
    refine ⟨_, _, rfl, ?_⟩
    have hlt := Int.emod_lt_of_pos a c
    have h0 := Int.emod_nonneg a (show b ≠ 0 by omega)
    refine ⟨(a % b).toNat, by omega, b, a % b, rfl, rfl, hb, h0, rfl, ?_⟩
    rw [← hg, Int.gcd_comm a b]
    obtain ⟨n, rfl⟩ := Int.eq_ofNat_of_zero_le ha
    obtain ⟨m, rfl⟩ := Int.eq_ofNat_of_zero_le hb
    show Nat.gcd m (n % m) = Nat.gcd m n
    rw [Nat.gcd_comm m n, Nat.gcd_comm m (n % m), Nat.gcd_comm n m, Nat.gcd_rec m n]
  · walk_at "w"
    have : b = 0 := by omega
    subst this
    rw [Int.gcd_zero_right] at hg
    have e : (Int.gcd i j : Int) = a := by rw [← hg]; omega
    rw [e] at k
    exact k
theorem tab_mine {K : PySem.W.Frag} {H : Hp} {x : Addr} {h l : List Int} {r : Int} (t : TabAt K H x h l r) : ∃ dx fs, H x = some (.ins (He.ga K "Table") dx fs) := by
  obtain ⟨dx, th, tl, h1, _⟩ := t
  exact ⟨dx, _, h1⟩
abbrev N_Table_call : List Str := ["self", "n"]
theorem sc_Table_call : FnScope N_Table_call ["self", "n"] (defScope s_Table_call) := ⟨rfl, rfl, rfl, by decide +kernel, rfl, by decide +kernel, by decide +kernel⟩
theorem fx_Table_call {P : Program} {w : World} {K : PySem.W.Frag} {mg : Str → Option Value} {base : Heap} (E : Env P K mg) : ∃ fd, FunD K "__call__" "Table.__call__" (defArgs s_Table_call) (defBody s_Table_call) (defScope s_Table_call) (d_Table_call.dvs K) [] (d_Table_call.adr K) fd ∧ FnOk P w K mg base CX0 3 (d_Table_call.adr K) fd ["self", "n"] (sp2 fun x n H Q _ => ∃ p h l r o, x = .ref p ∧ TabAt K H p h l r ∧ n = optV o ∧ (∀ i, o = some i → 0 ≤ i) ∧ RSm h l r ∧ RetD K (dOpt (valueAt h l r o)) H Q) := by
  obtain ⟨fd, F⟩ := E.dd_Table_call
  refine ⟨fd, F, fnok0 F sc_Table_call sp2_len (fun cdv A outer s H vs Q X hr h => ?_)⟩
  have nd := sc_Table_call.nd
  obtain ⟨v0, v1, rfl, h⟩ := h
  refine ⟨_, (pss_cons (ps_if (PW.pt (pw_and (pt_cmpR xIsNot (pv 1) (pe_non) (nomark _)) (pw_and1 (pt_not (kTru K (pc (ok_is_count E) hr (by decide) pass0 rfl (pa_cons (pv 1) pa_nil)) (by intro _; rfl))))))
   (pss_one (ps_never))
   pss_nil)
  (pss_one (ps_ret (pc (ok_value_at E) hr (by decide) pass0 rfl (pa_cons (pe_tup (pa_cons (kFld K (pv 0) rfl) (pa_cons (kFld K (pv 0) rfl) (pa_cons (kFld K (pv 0) rfl) pa_nil)))) (pa_cons (pv 1) pa_nil)))))), ?_⟩
  change (_ : TS) _ [some v0, some v1] H
  try dsimp only [cxOf, Cx.nox, Cx.blk]
  obtain ⟨p, h, l, r, o, rfl, ht, rfl, ho, hs, k⟩ := h
  cases o with
  | none =>
    simp only [optV]
    walk_at "w"
    intro th s1
    walk_at "w"
    intro tl s2
    walk_at "w"
    intro a H2 n2 e2 h2
    walk_at "w"
    exact ⟨h, l, r, none, dp_of_raw (st_of h2) (by walk_at "hp") (by walk_at "hp"), dp_of_opt (p := none), ho, hs, fun v H3 e3 d3 => k v H3 (by walk_at "ex") d3⟩
  | some i =>
    have hi := ho i rfl
    simp only [optV]
    walk_at "w"
    refine ⟨.int i, .int i, fun v H1 e1 d1 => ?_⟩
    rw [show dIsCount (.int i) = true from decide_eq_true hi] at d1
    obtain rfl := dp_toBl d1
    walk_at "w"
    intro th s1
    walk_at "w"
    intro tl s2
    walk_at "w"
    intro a H2 n2 e2 h2
    walk_at "w"
    exact ⟨h, l, r, some i, dp_of_raw (st_of h2) (by walk_at "hp") (by walk_at "hp"), dp_of_opt (p := some i), ho, hs, fun v H3 e3 d3 => k v H3 (by walk_at "ex") d3⟩
theorem ok_Table_call {P : Program} {w : World} {K : PySem.W.Frag} {mg : Str → Option Value} {base : Heap} (E : Env P K mg) : Cli P w K mg base 3 (He.ga K "Table") (sp2 fun x n H Q _ => ∃ p h l r o, x = .ref p ∧ TabAt K H p h l r ∧ n = optV o ∧ (∀ i, o = some i → 0 ≤ i) ∧ RSm h l r ∧ RetD K (dOpt (valueAt h l r o)) H Q) := by
  obtain ⟨fd, F, k⟩ := fx_Table_call (P := P) (w := w) (base := base) E
  exact ⟨_, fd, _, E.call_Table, k, F.bindsN (fun _ _ _ _ _ _ us hl => match us, hl with | [_, _], _ => rfl)⟩
/-- the pair of rise and length in lowest terms -/
def rateOf (l : List Int) (r : Int) : PyData := if l = [] then .none else .tuple [.int (r / Int.gcd l.length r), .int ((l.length : Int) / Int.gcd l.length r)]
abbrev N_Table_eq : List Str := ["self", "other"]
theorem sc_Table_eq : FnScope N_Table_eq ["self", "other"] (defScope s_Table_eq) := ⟨rfl, rfl, rfl, by decide +kernel, rfl, by decide +kernel, by decide +kernel⟩
theorem fx_Table_eq {P : Program} {w : World} {K : PySem.W.Frag} {mg : Str → Option Value} {base : Heap} (E : Env P K mg) : ∃ fd, FunD K "__eq__" "Table.__eq__" (defArgs s_Table_eq) (defBody s_Table_eq) (defScope s_Table_eq) (d_Table_eq.dvs K) [] (d_Table_eq.adr K) fd ∧ FnOk P w K mg base CX0 1 (d_Table_eq.adr K) fd ["self", "other"] (sp2 fun x y H Q _ => ∃ p h l r, x = .ref p ∧ TabAt K H p h l r ∧ ((∃ q h' l' r', y = .ref q ∧ TabAt K H q h' l' r' ∧ RetD K (.bool (decide (h = h' ∧ l = l' ∧ r = r'))) H Q) ∨ (∃ n ∈ ["tuple", "list", "int", "NoneType", "str", "bool"], TyX K H y (.type n) ∧ RetD K (.bool false) H Q))) := by
  obtain ⟨fd, F⟩ := E.dd_Table_eq
  refine ⟨fd, F, fnok0 F sc_Table_eq sp2_len (fun cdv A outer s H vs Q X hr h => ?_)⟩
  have nd := sc_Table_eq.nd
  obtain ⟨v0, v1, rfl, h⟩ := h
  refine ⟨_, (pss_one (ps_ret (pe_and (pe_callB (kIsi K) (by rfl) E.f_isinstance (by decide +kernel) (pa_cons (pv 1) (pa_cons (pe_glob (v := .ref (He.ga K "Table")) (by rfl) E.g_Table rfl) pa_nil))) (pe_and (pe_cmpR (kEq K hr) (kFld K (pv 0) rfl) (kFld K (pv 1) rfl) (nomark _)) (pe_and (pe_cmpR (kEq K hr) (kFld K (pv 0) rfl) (kFld K (pv 1) rfl) (nomark _)) (pe_one (pe_cmpR (kEq K hr) (kFld K (pv 0) rfl) (kFld K (pv 1) rfl) (nomark _)))))))), ?_⟩
  change (_ : TS) _ [some v0, some v1] H
  try dsimp only [cxOf, Cx.nox, Cx.blk]
  obtain ⟨p, h, l, r, rfl, ht, h2⟩ := h
  rcases h2 with ⟨q, h', l', r', rfl, hu, k⟩ | ⟨n, hn, ty, k⟩
  · walk_at "w"
    refine r_isiC (insB_ok E.ins_Table E.c_Table (tab_mine hu).choose_spec.choose_spec) E.kit_Table_self ?_
    walk_at "w"
    intro th s1
    walk_at "w"
    intro th' s2
    walk_at "w"
    by_cases c1 : h = h'
    · walk_at "w"
      intro tl s3
      walk_at "w"
      intro tl' s4
      walk_at "w"
      by_cases c2 : l = l'
      · walk_at "w"
        rw [show decide (h = h' ∧ l = l' ∧ r = r') = decide (r = r') by simp [c1, c2]] at k
        exact k.bl (Ex.refl _)
      · walk_at "w"
        rw [show decide (h = h' ∧ l = l' ∧ r = r') = false by simp [c2]] at k
        exact k.bl (Ex.refl _)
    · walk_at "w"
      rw [show decide (h = h' ∧ l = l' ∧ r = r') = false by simp [c1]] at k
      exact k.bl (Ex.refl _)
  · walk_at "w"
    refine r_isiC (b := false) ty ?_ ?_
    · simp at hn
      rcases hn with rfl | rfl | rfl | rfl | rfl | rfl
      · exact E.kit_Table_tuple
      · exact E.kit_Table_list
      · exact E.kit_Table_int
      · exact E.kit_Table_NoneType
      · exact E.kit_Table_str
      · exact E.kit_Table_bool
    walk_at "w"
    exact k.bl (Ex.refl _)
theorem ok_Table_eq {P : Program} {w : World} {K : PySem.W.Frag} {mg : Str → Option Value} {base : Heap} (E : Env P K mg) : EqOf P w K mg base 1 (He.ga K "Table") (sp2 fun x y H Q _ => ∃ p h l r, x = .ref p ∧ TabAt K H p h l r ∧ ((∃ q h' l' r', y = .ref q ∧ TabAt K H q h' l' r' ∧ RetD K (.bool (decide (h = h' ∧ l = l' ∧ r = r'))) H Q) ∨ (∃ n ∈ ["tuple", "list", "int", "NoneType", "str", "bool"], TyX K H y (.type n) ∧ RetD K (.bool false) H Q))) := by
  obtain ⟨fd, F, k⟩ := fx_Table_eq (P := P) (w := w) (base := base) E
  exact ⟨_, fd, _, E.m_Table_eq.at_, E.m_Table_eq.fn, k, F.bindsN (fun _ _ _ _ _ _ us hl => match us, hl with | [_, _], _ => rfl)⟩

theorem ifBoundB_K {K : PySem.W.Frag} {M : Model} {A : Around} {E : Value → Shared → Prop} {s : Shared} {x C : Addr} {ox : Obj} {od : Option Obj} {name : Str} {id : String} {args : List Value} {Q : Option Value → Shared → Prop}
    (X : K.In s.heap) (I : PySem.W.InstAt s.heap x ox C od) (hs : PySem.W.findIn K (.ref C) name = some (some (.builtin id))) (S : Slot "object" name id)
    (h : wpAny M A (call (.builtin id) (.ref x :: args)) (fun v => Q (some v)) E s) : wpAny M A (callSpecialIfBound? (.ref x) name args) Q E s := by
  simp only [callSpecialIfBound?, bindSpecialIfBound?]
  refine wpAny_holding (wpAny_bind (wpAny_bind (wpAny_bind (I.type.here ((PySem.W.looks_findIn X hs).here ?_)))))
  simp only [S.bind]
  refine wpAny_bind (wpAny_askSetting (wpAny_ite ?_))
  have fin : wpAny M A (call (.builtin id) ([.ref x] ++ args) >>= fun v => pure (some v)) Q E s := wpAny_bind (wpAny_mono h (fun v s' h' => wpAny_pure h') fun _ _ h' => h')
  split
  · exact wpAny_bind (wpAny_pure (wpAny_pure fin))
  · exact wpAny_tryCatch (wpAny_bind (wpAny_pure (wpAny_pure fin)))
theorem check_ne_K {K : PySem.W.Frag} {M : Model} {A : Around} {E : Value → Shared → Prop} {s : Shared} {x C : Addr} {ox : Obj} {od : Option Obj} {u : Value} {Q : Unit → Shared → Prop}
    (X : K.In s.heap) (I : PySem.W.InstAt s.heap x ox C od) (hm : PySem.W.mroIn K C (.type "object") = some true) (hq : Q () s) : wpAny M A (checkBuiltinCall "object.__ne__" ⟨[.ref x, u], []⟩) Q E s := by
  have L0 := I.type (M := M)
  have L1 := PySem.W.looks_mroIn (M := M) X hm
  simp only [checkBuiltinCall, F.cmpKind_ne, F.cmpSplit_ne]
  refine wpAny_bind ?_
  · unfold isInstance
    refine wpAny_bind (L0.here (L1.here ?_))
    simp only [Bool.not_true, Bool.false_eq_true, if_false]
    have ha := F.cmpArgs_ne (.ref x) u
    cases hsig : Manifest.signature? "object.__ne__" with
    | none => exact wpAny_pure hq
    | some sig =>
      simp only [argsOk, hsig] at ha
      have h2 : Bind.checkArgs "object.__ne__" sig ⟨[.ref x, u], []⟩ = pure () := ha
      show wpAny M A (Bind.checkArgs "object.__ne__" sig ⟨[.ref x, u], []⟩) Q E _
      rw [h2]; exact wpAny_pure hq
theorem objNe_K {K : PySem.W.Frag} {prog : Program} {w : World} {A : Around} {E : Value → Shared → Prop} {s : Shared} {x C f : Addr} {ox : Obj} {od : Option Obj} {u : Value} {Q : Fin → Shared → Prop}
    (X : K.In s.heap) (I : PySem.W.InstAt s.heap x ox C od) (hs : PySem.W.findIn K (.ref C) "__eq__" = some (some (.ref f))) (hf : PySem.W.isFn K (.ref f) = true) (hu : A.units < cLine)
    (hcall : wpAny (model prog w) A (call (.ref f) [.ref x, u]) (fun v s' => ∃ b, v = .bool b ∧ Q (.done (.ret (.bool (!b)))) s') E s) :
    wpAny (model prog w) A (Builtin.«object.__ne__» ⟨[.ref x, u], []⟩) Q E s := by
  unfold Builtin.«object.__ne__»
  repeat (first
    | with_reducible refine wpAny_cRoomFor hu ?_
    | (refine wpAny_bind (m := callSpecialIfBound? (.ref x) (Str.ofString "__eq__") [u])
        (PySem.W.ifBound_K X I hs hf (wpAny_mono hcall (fun r s' hr => by
          obtain ⟨b, rfl, hq⟩ := hr
          repeat (first | exact hq | exact wpAny_pure hq | exact wpAny_truthy_bool hq | (refine wpAny_bind (m := truthy (.bool _)) (wpAny_truthy_bool ?_)) | wp_step)) fun _ _ e => e)))
    | wp_step)
theorem rich_ne_K {K : PySem.W.Frag} {prog : Program} {w : World} {A : Around} {E : Value → Shared → Prop} {s : Shared} {x C f : Addr} {ox : Obj} {od : Option Obj} {b tb : Value} {Q : Value → Shared → Prop}
    (X : K.In s.heap) (I : PySem.W.InstAt s.heap x ox C od) (hb : PySem.W.Looks (model prog w) s.heap (typeOf b) tb) (hn : PySem.W.notFirst K C tb = true)
    (hs : PySem.W.findIn K (.ref C) "__eq__" = some (some (.ref f))) (hf : PySem.W.isFn K (.ref f) = true) (hne : PySem.W.findIn K (.ref C) "__ne__" = some (some (.builtin "object.__ne__"))) (hm : PySem.W.mroIn K C (.type "object") = some true)
    (hu : A.units + 1 < cLine)
    (hcall : wpAny (model prog w) A.in1 (call (.ref f) [.ref x, b]) (fun v s' => ∃ b, v = .bool b ∧ Q (.bool (!b)) s') E s) :
    wpAny (model prog w) A (richCompare .NotEq (.ref x) b) Q E s := by
  have one : wpAny (model prog w) A (tryCompare (.ref x) "__ne__" b) (fun r s' => ∃ v, r = some v ∧ Q v s') E s := by
    simp only [tryCompare]
    refine wpAny_bind (ifBoundB_K X I hne F.cmp_object.ne (wpAny_call (codeAny_call_builtin F.cmp_object.ne.plain F.cmpEntry_ne
      (check_ne_K X I hm (objNe_K (A := A.in1) X I hs hf hu (wpAny_mono hcall (fun v s' hv => ?_) fun _ _ e => e))))))
    obtain ⟨b, rfl, hq⟩ := hv
    first | exact ⟨b, rfl, wpAny_pure ⟨_, rfl, hq⟩⟩ | exact ⟨b, rfl, wpAny_pure (wpAny_pure ⟨_, rfl, hq⟩)⟩
  unfold richCompare
  simp only [oneThing_ref]
  refine wpAny_holding (wpAny_bind (wpAny_cRoomFor (Nat.lt_of_succ_lt hu) ?_))
  rw [cmpInfo_NotEq]
  dsimp only
  refine wpAny_bind (I.type.here (wpAny_bind (hb.here ?_)))
  split
  · rename_i q
    have e : PySem.W.subIn K tb (.ref C) = some false := by
      rcases Bool.or_eq_true_iff.mp hn with e | e
      · rw [beq_iff_eq.mp e] at q; simp at q
      · exact beq_iff_eq.mp e
    refine wpAny_bind ((PySem.W.looks_subIn X e).here ?_)
    simp only [Bool.false_eq_true, if_false]
    refine wpAny_bind (wpAny_mono one (fun r s' z => ?_) fun _ _ e => e)
    obtain ⟨v, rfl, hq⟩ := z
    exact wpAny_pure hq
  · refine wpAny_bind (wpAny_pure ?_)
    simp only [Bool.false_eq_true, if_false]
    refine wpAny_bind (wpAny_mono one (fun r s' z => ?_) fun _ _ e => e)
    obtain ⟨v, rfl, hq⟩ := z
    exact wpAny_pure hq
section
variable {X : Cx} {n : Nat} {C : Addr} {sp : Sp}
theorem run_fnA {CX : CXT} {k : Nat} {f : Addr} {fd : FuncData} {ps : List Str} {sp : Sp} {dvs : List V} {ds : List Value} {E : XK} {pins : List (Addr × Obj)} {σ : L2.St} {H : Hp} {s : Shared} {Q : VK} {us : List Value} {vs : List V} (F : FnOk X.prog X.w X.K X.mg X.base CX k f fd ps sp) (hr : Room k X.A.in1) (hb : L2.Binds X.K fd ps ds) (hd : L2.Vals dvs ds) (hx : L2.Passes CX X E)
    (I : L2.Inv X pins σ H s) (r : L2.Vals vs us) (h : sp (vs ++ dvs) H Q E) : wpAny (model X.prog X.w) X.A.in1 (call (.ref f) us) (EP X pins σ Q) X.xe s := by
  have r2 : L2.Vals (vs ++ dvs) (us ++ ds) := r.append hd
  have hl : (us ++ ds).length = ps.length := by rw [← r2.length]; exact F.len _ _ _ _ h
  refine wpAny_call (codeAny_mono (F.run X.A.in1 X.stack s H ⟨us, []⟩ (us ++ ds) (vs ++ dvs) Q E hr I.env0.in1 (hb s us I.kIn hl) r2 h) fun r s' hq => ?_)
  cases r with
  | error e => exact hx pins σ H s e s' I hq
  | ok fl =>
    cases fl with
    | ret u => exact I.after hq
    | next => exact False.elim hq
    | brk => exact False.elim hq
    | cont => exact False.elim hq
/-- != over an own == -/
def rOwnNe (K : PySem.W.Frag) (C : Addr) (sp : Sp) : R2 := fun x y H Q => ∃ a dx fs t, x = .ref a ∧ H a = some (.ins C dx fs) ∧ TyX K H y t ∧ PySem.W.notFirst K C t = true ∧ PySem.W.findIn K (.ref C) "__ne__" = some (some (.builtin "object.__ne__")) ∧ PySem.W.mroIn K C (.type "object") = some true ∧ sp [x, y] H (fun v H' => ∃ b, v = .bl b ∧ Q (.bl (!b)) H') E0
theorem op_ownNe {j : Nat} (c : EqOf X.prog X.w X.K X.mg X.base n C sp) (hr : Room j X.A) (hn : n + 1 ≤ j) : OpR X (compareOp .NotEq) (rOwnNe X.K C sp) := by
  obtain ⟨g, fd, ps, hs, hf, F, hb⟩ := c.ex
  intro pins s σ H x y v u Q I rx ry h
  obtain ⟨a, dx, fs, t, rfl, ha, ty, hnf, hne, hm, q⟩ := h
  cases (show v = Value.ref a from rx)
  obtain ⟨mA, O, _⟩ := ins_get I.hok ha
  obtain ⟨od, J, _⟩ := O.look
  obtain ⟨Pk, kit, hk, _⟩ := kit_of I ry ty
  show wpAny _ _ (richCompare .NotEq (.ref a) u) _ _ _
  refine rich_ne_K (tb := t) I.kIn J (kit.ty _ _ I.kIn hk) hnf hs hf hne hm (by have := (hr.mono hn).un; omega) ?_
  refine wpAny_mono (run_fnA (us := [.ref a, u]) (vs := [.ref a, y]) (dvs := []) (ds := []) F (hr.mono hn).in1 hb .nil pass0 I (.cons rfl (.cons ry .nil)) q) (fun z s' hz => ?_) fun _ _ x => x
  obtain ⟨zv, H', I', rz, b, hzv, qz⟩ := hz
  subst hzv
  cases (show z = Value.bool b from rz)
  exact ⟨b, rfl, .bl (!b), H', I', rfl, qz⟩
def rNeO (K : PySem.W.Frag) (C : Addr) (sp : Sp) : R2 := fun x y H Q => rNeU K x y H Q ∨ rOwnNe K C sp x y H Q
end
theorem kNeO (K : PySem.W.Frag) {X : Cx} {n : Nat} {C : Addr} {sp : Sp} {j : Nat} (c : EqOf X.prog X.w X.K X.mg X.base n C sp) (hr : Room j X.A) (hn : n + 1 ≤ j) (h : X.K = K := by rfl) : OpR X (compareOp .NotEq) (rNeO K C sp) := by subst h; exact (xNe hr).or (op_ownNe c hr hn)
section
variable {K : PySem.W.Frag} {C : Addr} {sp : Sp} {H : Hp} {Q : VK} {x y : V}
theorem w_neO (h : rNeU K x y H Q) : rNeO K C sp x y H Q := .inl h
theorem r_ownNe {F} {a dx : Addr} {fs : List (Str × V)} {t : Value} (ha : H a = some (.ins C dx fs)) (ty : TyX K H y t) (hn : PySem.W.notFirst K C t = true) (hne : PySem.W.findIn K (.ref C) "__ne__" = some (some (.builtin "object.__ne__"))) (hm : PySem.W.mroIn K C (.type "object") = some true) (q : F (.ref a) y H (fun v H' => ∃ b, v = .bl b ∧ Q (.bl (!b)) H') E0) : rNeO K C (sp2 F) (.ref a) y H Q :=
  .inr ⟨a, dx, fs, t, rfl, ha, ty, hn, hne, hm, _, _, rfl, q⟩
end

theorem bin_same_K {K : PySem.W.Frag} {prog : Program} {w : World} {A : Around} {E : Value → Shared → Prop} {s : Shared} {op : Operator} {x y C f : Addr} {ox oy : Obj} {od od2 : Option Obj} {Q : Value → Shared → Prop}
    (X : K.In s.heap) (I : PySem.W.InstAt s.heap x ox C od) (J : PySem.W.InstAt s.heap y oy C od2) (hc : PySem.W.selfFirst K C = true)
    (hs : PySem.W.findIn K (.ref C) (PySem.dunder op.info.2) = some (some (.ref f))) (hf : PySem.W.isFn K (.ref f) = true)
    (h : wpAny (model prog w) A (call (.ref f) [.ref x, .ref y]) (PySem.W.CmpBack Q) E s) : wpAny (model prog w) A (binaryOp op (.ref x) (.ref y)) Q E s := by
  obtain ⟨cd, rest, hcd, hm⟩ := PySem.W.ksp_first hc
  rcases hi : op.info with ⟨sym, nm'⟩
  rw [hi] at hs
  dsimp only at hs
  have one := PySem.W.ksp_try X I hs hf h
  obtain ⟨hh, g, d, tt, os⟩ := s
  have L1 : PySem.W.Looks (model prog w) hh (typeOf (.ref x)) (.ref C) := I.type
  have L2 : PySem.W.Looks (model prog w) hh (typeOf (.ref y)) (.ref C) := J.type
  have L3 : PySem.W.Looks (model prog w) hh (fillsNumberSlot (.ref C) nm') true := PySem.W.fills_K X hcd hm hs
  simp only [binaryOp, hi]
  refine wpAny_holding (wpAny_bind ?_)
  unfold binaryOp1
  refine wpAny_bind (L1.at (wpAny_bind (L2.at (wpAny_bind (L3.at ?_)))))
  simp only [beq_self_eq_true, if_true, Bool.and_false, Bool.false_eq_true, if_false]
  ksp_lk
  refine wpAny_mono one (fun r s' hr' => ?_) fun _ _ e => e
  obtain ⟨v, rfl, hq⟩ := hr'
  ksp_lk
  exact hq
/-- what an operator of two instances needs of the class at C -/
structure BinOf (P : Program) (w : World) (K : PySem.W.Frag) (mg : Str → Option Value) (base : Heap) (k : Nat) (C : Addr) (m : Str) (sp : Sp) : Prop where
  ex : ∃ (g : Addr) (fd : FuncData) (ps : List Str), PySem.W.findIn K (.ref C) m = some (some (.ref g)) ∧ PySem.W.isFn K (.ref g) = true ∧ FnOk P w K mg base CX0 k g fd ps sp ∧ Binds K fd ps []
  sf : PySem.W.selfFirst K C = true
def rOwnB (C : Addr) (sp : Sp) : R2 := fun x y H Q => ∃ a dx fs b dy fs', x = .ref a ∧ y = .ref b ∧ H a = some (.ins C dx fs) ∧ H b = some (.ins C dy fs') ∧ sp [x, y] H (fun v H' => (∃ p, v = .ref p) ∧ Q v H') E0
theorem op_ownB {X : Cx} {n : Nat} {C : Addr} {sp : Sp} {op : Operator} {j : Nat} (c : BinOf X.prog X.w X.K X.mg X.base n C (PySem.dunder op.info.2) sp) (hr : Room j X.A) (hn : n ≤ j) : OpR X (binaryOp op) (rOwnB C sp) := by
  obtain ⟨⟨g, fd, ps, hs, hf, F, hb⟩, hc⟩ := c
  intro pins s σ H x y v u Q I rx ry h
  obtain ⟨a, dx, fs, b, dy, fs', rfl, rfl, ha, hb', q⟩ := h
  cases (show v = Value.ref a from rx)
  cases (show u = Value.ref b from ry)
  obtain ⟨mA, O, _⟩ := ins_get I.hok ha
  obtain ⟨od, J, _⟩ := O.look
  obtain ⟨mB, O2, _⟩ := ins_get I.hok hb'
  obtain ⟨od2, J2, _⟩ := O2.look
  refine bin_same_K I.kIn J J2 hc hs hf ?_
  refine wpAny_mono (run_fn (us := [.ref a, .ref b]) (vs := [.ref a, .ref b]) (dvs := []) (ds := []) F (hr.mono hn) hb .nil pass0 I (.cons rfl (.cons rfl .nil)) q) (fun z s' hz => ?_) fun _ _ x => x
  obtain ⟨zv, H', I', rz, ⟨p, hp⟩, qz⟩ := hz
  subst hp
  cases (show z = Value.ref p from rz)
  exact ⟨.ref p, H', I', rfl, qz⟩
theorem kOwnB (K : PySem.W.Frag) {X : Cx} {n : Nat} {C : Addr} {sp : Sp} {op : Operator} {j : Nat} {m : Str} (c : BinOf X.prog X.w X.K X.mg X.base n C m sp) (hr : Room j X.A) (hn : n ≤ j) (hm : PySem.dunder op.info.2 = m := by decide +kernel) (h : X.K = K := by rfl) : OpR X (binaryOp op) (rOwnB C sp) := by
  subst hm
  exact op_ownB c hr hn
theorem r_ownB {F} {C a dx b dy : Addr} {fs fs' : List (Str × V)} {H : Hp} {Q : VK} (ha : H a = some (.ins C dx fs)) (hb : H b = some (.ins C dy fs')) (q : F (.ref a) (.ref b) H (fun v H' => (∃ p, v = .ref p) ∧ Q v H') E0) : rOwnB C (sp2 F) (.ref a) (.ref b) H Q :=
  ⟨a, dx, fs, b, dy, fs', rfl, rfl, ha, hb, _, _, rfl, q⟩
theorem w_par3 {i j l : Nat} {ta : TA} {D : Ends} {σ : L2.St} {H : Hp} (h : ta σ H fun vs H1 => ∃ u v w, vs = [u, v, w] ∧ D.nx (((List.set σ i (some u)).set j (some v)).set l (some w)) H1) : tPar3 i j l ta D σ H := h

theorem inv_K {K : PySem.W.Frag} {prog : Program} {w : World} {A : Around} {E : Value → Shared → Prop} {s : Shared} {x C f : Addr} {ox : Obj} {od : Option Obj} {Q : Value → Shared → Prop}
    (X : K.In s.heap) (I : PySem.W.InstAt s.heap x ox C od) (hs : PySem.W.findIn K (.ref C) "__invert__" = some (some (.ref f))) (hf : PySem.W.isFn K (.ref f) = true)
    (h : wpAny (model prog w) A (call (.ref f) [.ref x]) Q E s) : wpAny (model prog w) A (unaryOp .Invert (.ref x)) Q E s := by
  unfold unaryOp
  refine wpAny_holding ?_
  exact wpAny_bind (PySem.W.special_fn X I hs (beq_iff_eq.mp hf) (wpAny_mono h (fun _ _ z => wpAny_pure z) fun _ _ z => z))
def rOwnI (C : Addr) (sp : Sp) : V → Hp → VK → Prop := fun x H Q => ∃ a dx fs, x = .ref a ∧ H a = some (.ins C dx fs) ∧ sp [x] H Q E0
theorem un_ownI {X : Cx} {n : Nat} {C : Addr} {sp : Sp} {j : Nat} (c : BinOf X.prog X.w X.K X.mg X.base n C "__invert__" sp) (hr : Room j X.A) (hn : n ≤ j) : UnR X (unaryOp .Invert) (rOwnI C sp) := by
  obtain ⟨⟨g, fd, ps, hs, hf, F, hb⟩, _⟩ := c
  intro pins s σ H x v Q I rx h
  obtain ⟨a, dx, fs, rfl, ha, q⟩ := h
  cases (show v = Value.ref a from rx)
  obtain ⟨mA, O, _⟩ := ins_get I.hok ha
  obtain ⟨od, J, _⟩ := O.look
  refine inv_K I.kIn J hs hf ?_
  exact run_fn (us := [.ref a]) (vs := [.ref a]) (dvs := []) (ds := []) F (hr.mono hn) hb .nil pass0 I (.cons rfl .nil) q
theorem kOwnI (K : PySem.W.Frag) {X : Cx} {n : Nat} {C : Addr} {sp : Sp} {j : Nat} (c : BinOf X.prog X.w X.K X.mg X.base n C "__invert__" sp) (hr : Room j X.A) (hn : n ≤ j) : UnR X (unaryOp .Invert) (rOwnI C sp) := un_ownI c hr hn
theorem r_ownI {F : V → Hp → VK → XK → Prop} {C a dx : Addr} {fs : List (Str × V)} {H : Hp} {Q : VK} (ha : H a = some (.ins C dx fs)) (q : F (.ref a) H Q E0) : rOwnI C (sp1 F) (.ref a) H Q := ⟨a, dx, fs, rfl, ha, _, rfl, q⟩

abbrev N__law_pick : List Str := ["source", "many", "digit", "value"]
theorem sc__law_pick : FnScope N__law_pick ["source", "many"] (defScope s__law_pick) := ⟨rfl, rfl, rfl, by decide +kernel, rfl, by decide +kernel, by decide +kernel⟩
theorem ok__law_pick {P : Program} {w : World} {K : PySem.W.Frag} {mg : Str → Option Value} {base : Heap} (E : Env P K mg) : Fn P w K mg base CX0 1 "_law_pick" (sp2 fun s m H Q _ => ∃ (a : Addr) (n : Int), s = .ref a ∧ m = .int n ∧ 0 < n ∧ n < 4611686018427387904 ∧ SrcAt H a ∧ ∀ (r : Int) H', 0 ≤ r → r < n → SrcAt H' a → Fr a H H' → Q (.int r) H') := by
  obtain ⟨fd, F⟩ := E.dd__law_pick
  refine Fn.mk0 F E.g__law_pick sc__law_pick sp2_len (fun _ _ _ _ _ _ us hl => match us, hl with | [_, _], _ => rfl) (fun cdv A outer s H vs Q X hr h => ?_)
  have nd := sc__law_pick.nd
  obtain ⟨v0, v1, rfl, h⟩ := h
  refine ⟨_, (pss_cons (ps_if (pt_cmpR op_gt (pe_ix (kIx K) (pv 0) (pe_int) (fun _ _ => rfl)) (pe_int) (nomark _))
   (pss_cons (ps_set (i := 2) nd rfl (.inl rfl) (pe_op xMod (pe_callTy xInt (by rfl) E.f_int (by decide +kernel) (pa_cons (pe_ix (kIx K) (pv 0) (pe_int) (fun _ _ => rfl)) pa_nil)) (pv 1)))
  (pss_cons (ps_asg (pe_op xDiv (pe_ix (kIx K) (pv 0) (pe_int) (fun _ _ => rfl)) (pv 1)) (pg_sub (pv 0) (pe_int) set_list))
  (pss_one (ps_ret (pv 2)))))
   pss_nil)
  (pss_cons (ps_asg (pe_op (kAdd K) (pe_ix (kIx K) (pv 0) (pe_int) (fun _ _ => rfl)) (pe_int)) (pg_sub (pv 0) (pe_int) set_list))
  (pss_cons (ps_set (i := 3) nd rfl (.inl rfl) (pe_op xMod (pe_callTy xInt (by rfl) E.f_int (by decide +kernel) (pa_cons (pe_op (kMul K) (pe_op (kAdd K) (pe_ix (kIx K) (pv 0) (pe_int) (fun _ _ => rfl)) (pe_op (kMul K) (pe_int) (pe_ix (kIx K) (pv 0) (pe_int) (fun _ _ => rfl)))) (pe_int)) pa_nil)) (pe_int)))
  (pss_cons (ps_set (i := 3) nd rfl (.inl rfl) (pe_op xMod (pe_callTy xInt (by rfl) E.f_int (by decide +kernel) (pa_cons (pe_op (kAdd K) (pe_op (kAdd K) (pe_op (kMul K) (pv 3) (pv 3)) (pe_op (kMul K) (pe_int) (pe_ix (kIx K) (pv 0) (pe_int) (fun _ _ => rfl)))) (pe_ix (kIx K) (pv 0) (pe_int) (fun _ _ => rfl))) pa_nil)) (pe_int)))
  (pss_cons (ps_set (i := 3) nd rfl (.inl rfl) (pe_op xMod (pe_callTy xInt (by rfl) E.f_int (by decide +kernel) (pa_cons (pe_op (kAdd K) (pe_op (kMul K) (pv 3) (pe_int)) (pe_int)) pa_nil)) (pe_int)))
  (pss_cons (ps_set (i := 3) nd rfl (.inl rfl) (pe_op xMod (pe_callTy xInt (by rfl) E.f_int (by decide +kernel) (pa_cons (pe_op (kAdd K) (pe_op (kMul K) (pv 3) (pv 3)) (pv 3)) pa_nil)) (pe_int)))
  (pss_one (ps_ret (pe_op xMod (pe_callTy xInt (by rfl) E.f_int (by decide +kernel) (pa_cons (pe_op xDiv (pv 3) (pe_int)) pa_nil)) (pv 1)))))))))), ?_⟩
  change (_ : TS) _ [some v0, some v1, none, none] H
  try dsimp only [cxOf, Cx.nox, Cx.blk]
  obtain ⟨a, n, rfl, rfl, hn, hn2, hs, k⟩ := h
  obtain ⟨d, sd, c, h1, h2, h3, h4, h5⟩ := hs
  have s1 : SqL K H a [.int d, .int sd, .int c] := sq_of h1
  walk_at "w"
  by_cases c0 : 0 < d
  · walk_at "w"
    have hd0 : 0 ≤ d / n := Int.ediv_nonneg h2 (by omega)
    refine r_set (j := 0) h1 rfl ?_
    walk_at "w"
    exact k _ _ (Int.emod_nonneg _ (by omega)) (Int.emod_lt_of_pos _ hn) ⟨d / n, sd, c, upd_same, hd0, h3, h4, h5⟩ Fr.upd
  · walk_at "w"
    refine r_set (j := 2) h1 rfl ?_
    obtain ⟨H1, e1, g1, f1⟩ : ∃ H1, upd H a (.lst ([V.int d, .int sd, .int c].set 2 (.int (c + 1)))) = H1 ∧ H1 a = some (.lst [.int d, .int sd, .int (c + 1)]) ∧ Fr a H H1 := ⟨_, rfl, upd_same, Fr.upd⟩
    rw [e1]
    have s2 : SqL K H1 a [.int d, .int sd, .int (c + 1)] := sq_of g1
    walk_at "w"
    generalize hx1 : (sd + 104729 * (c + 1)) * 48271 % 2147483647 = x1
    have b1 : 0 ≤ x1 ∧ x1 < 2147483647 := by subst hx1; exact ⟨Int.emod_nonneg _ (by decide), Int.emod_lt_of_pos _ (by decide)⟩
    walk_at "w"
    generalize hx2 : (x1 * x1 + 7 * (c + 1) + sd) % 2147483629 = x2
    have b2 : 0 ≤ x2 ∧ x2 < 2147483629 := by subst hx2; exact ⟨Int.emod_nonneg _ (by decide), Int.emod_lt_of_pos _ (by decide)⟩
    walk_at "w"
    generalize hx3 : (x2 * 69621 + 5) % 2147483647 = x3
    have b3 : 0 ≤ x3 ∧ x3 < 2147483647 := by subst hx3; exact ⟨Int.emod_nonneg _ (by decide), Int.emod_lt_of_pos _ (by decide)⟩
    walk_at "w"
    exact k _ _ (Int.emod_nonneg _ (by omega)) (Int.emod_lt_of_pos _ hn) ⟨d, sd, c + 1, g1, h2, h3, h4, by omega⟩ f1

theorem bits_abs {z : Int} (h : Builtin.Int.intBits z ≤ 1048576) : ∃ n : Nat, n ≤ 1048577 ∧ z.natAbs < 2 ^ n := by
  refine ⟨z.natAbs.log2 + 1, ?_, Nat.lt_log2_self⟩
  unfold Builtin.Int.intBits at h
  split at h
  · rename_i h0
    have : z = 0 := by simpa using h0
    subst this
    decide
  · omega
theorem shl_of {z : Int} {j : Nat} (hj : j ≤ 100000) (hz : 0 ≤ z) (h : ∃ n : Nat, n ≤ 1048577 ∧ z.natAbs < 2 ^ n) (m : Nat) : CShl (z / 2 ^ m) (j : Int) := by
  obtain ⟨n, hn, hb⟩ := h
  refine shl_ok (n := n) (Nat.lt_of_le_of_lt ?_ hb) (by omega)
  have h1 : z / 2 ^ m ≤ z := Int.ediv_le_self _ hz
  have h2 : 0 ≤ z / 2 ^ m := Int.ediv_nonneg hz (Int.le_of_lt (Int.pow_pos (by decide)))
  omega
abbrev N__law_source : List Str := ["script", "place", "cell", "seed", "one", "number"]
theorem sc__law_source : FnScope N__law_source ["script", "place"] (defScope s__law_source) := ⟨rfl, rfl, rfl, by decide +kernel, rfl, by decide +kernel, by decide +kernel⟩
theorem ok__law_source {P : Program} {w : World} {K : PySem.W.Frag} {mg : Str → Option Value} {base : Heap} (E : Env P K mg) : Fn P w K mg base CX0 1 "_law_source" (sp2 fun s p H Q _ => ∃ (a : Addr) (ns : List Int) (i : Int), s = .ref a ∧ p = .int i ∧ SqL K H a (vI ns) ∧ (∀ z ∈ ns, Builtin.Int.intBits z ≤ 1048576) ∧ ns.length ≤ 63 ∧ 0 ≤ i ∧ i ≤ 100 ∧ ∀ x H', H x = none → Ex H H' → SrcAt H' x → Q (.ref x) H') := by
  obtain ⟨fd, F⟩ := E.dd__law_source
  refine Fn.mk0 F E.g__law_source sc__law_source sp2_len (fun _ _ _ _ _ _ us hl => match us, hl with | [_, _], _ => rfl) (fun cdv A outer s H vs Q X hr h => ?_)
  have nd := sc__law_source.nd
  obtain ⟨v0, v1, rfl, h⟩ := h
  refine ⟨_, (pss_cut (ps_set (i := 2) nd rfl (.inl rfl) (pe_ifExp (pt_cmpR op_lt (pv 1) (pe_callB (kLen K) (by rfl) E.f_len (by decide +kernel) (pa_cons (pv 0) pa_nil)) (nomark _)) (pe_ix (kIx K) (pv 0) (pv 1) (fun _ _ => rfl)) (pe_op (kAdd K) (pe_op (kMul K) (pe_int) (pv 1)) (pe_int))))
  (pss_cons (ps_set (i := 3) nd rfl (.inl rfl) (pe_op xMod (pe_callTy xInt (by rfl) E.f_int (by decide +kernel) (pa_cons (pe_op (kAdd K) (pe_op xMod (pe_callTy xInt (by rfl) E.f_int (by decide +kernel) (pa_cons (pv 2) pa_nil)) (pe_int)) (pe_op (kMul K) (pe_int) (pv 1))) pa_nil)) (pe_int)))
  (pss_cons (ps_for PassesOwn.never rfl (kSeq K (pe_slice (kSl K) (pv 0) po_none (po_some (pe_int)))) (pg_name (i := 4) nd rfl (.inl rfl))
   (pss_one (ps_set (i := 3) nd rfl (.inl rfl) (pe_op xMod (pe_callTy xInt (by rfl) E.f_int (by decide +kernel) (pa_cons (pe_op (kAdd K) (pe_op (kMul K) (pv 3) (pe_int)) (pe_op xMod (pe_callTy xInt (by rfl) E.f_int (by decide +kernel) (pa_cons (pv 4) pa_nil)) (pe_int))) pa_nil)) (pe_int)))))
  (pss_cons (ps_set (i := 5) nd rfl (.inl rfl) (pe_callB xAbs (by rfl) E.f_abs (by decide +kernel) (pa_cons (pv 2) pa_nil)))
  (pss_cons (ps_if (pt_cmpR op_lt (pv 5) (pe_op xPow (pe_int) (pe_int)) (nomark _))
   (pss_one (ps_ret (pe_lst (pa_cons (pe_int) (pa_cons (pv 3) (pa_cons (pe_int) pa_nil))))))
   pss_nil)
  (pss_cons (ps_if (pt_cmpR op_gt (pe_op xShr (pv 5) (pe_int)) (pe_int) (nomark _))
   (pss_one (ps_set (i := 5) nd rfl (.inl rfl) (pe_op xSub (pv 5) (pe_op xShl (pe_op xShr (pv 5) (pe_int)) (pe_int)))))
   pss_nil)
  (pss_one (ps_ret (pe_lst (pa_cons (pv 5) (pa_cons (pv 3) (pa_cons (pe_int) pa_nil)))))))))))), ?_⟩
  change (_ : TS) _ [some v0, some v1, none, none, none, none] H
  try dsimp only [cxOf, Cx.nox, Cx.blk]
  obtain ⟨a, ns, i, rfl, rfl, s0, hb, hz, hi, hi2, k⟩ := h
  have fin : ∀ (cell seed : Int) (H1 : Hp) (v : Option V), Ex H H1 → (∃ n : Nat, n ≤ 1048577 ∧ cell.natAbs < 2 ^ n) → 0 ≤ seed → seed < 2147483629 →
      tSeq (tAsg (tCB rAbsU (tCons (tVar 2) tNil)) (gName 5)) (tSeq (tIfS (tTest (tOp (rI0 fun i j => .bl (decide (i < j))) (tVar 5) (tOp rPow (tC (.int 10)) (tC (.int 18))))) (tRet (tLst (tCons (tC (.int 0)) (tCons (tVar 3) (tCons (tC (.int 0)) tNil))))) tNext)
        (tSeq (tIfS (tTest (tOp (rI0 fun i j => .bl (decide (j < i))) (tOp rShr (tVar 5) (tC (.int 4000))) (tC (.int 0)))) (tAsg (tOp rSubI (tVar 5) (tOp rShl (tOp rShr (tVar 5) (tC (.int 4000))) (tC (.int 4000)))) (gName 5)) tNext)
          (tRet (tLst (tCons (tVar 5) (tCons (tVar 3) (tCons (tC (.int 0)) tNil))))))) { nx := fun _ H' => Q .non H', rt := Q } [some (.ref a), some (.int i), some (.int cell), some (.int seed), v, none] H1 := by
    intro cell seed H1 v e1 hc h0 h1
    have ret : ∀ (d : Int), 0 ≤ d → NewL [.int d, .int seed, .int 0] H1 Q := fun d hd => w_newL (by walk_at "sz") fun p H2 n2 e2 h2 => k p H2 (fresh_back e1 n2) (e1.trans e2) ⟨d, seed, 0, h2, hd, h0, h1, Int.le_refl 0⟩
    repeat walk_at "w1"
    refine r_abs ?_
    repeat walk_at "w1"
    refine r_pow ⟨by decide, by decide, by decide⟩ ?_
    refine r_lt ?_
    repeat walk_at "w1"
    have hn0 : (0 : Int) ≤ (cell.natAbs : Int) := Int.natCast_nonneg _
    have hb : ∃ n : Nat, n ≤ 1048577 ∧ (cell.natAbs : Int).natAbs < 2 ^ n := hc
    generalize (10 : Int) ^ (18 : Int).toNat = B1
    generalize (cell.natAbs : Int) = num at *
    refine w_ite (fun _ => ?_) (fun _ => ?_)
    · repeat walk_at "w1"
      exact ret 0 (Int.le_refl 0)
    · repeat walk_at "w1"
      refine r_shr (by decide) ?_
      repeat walk_at "w1"
      refine r_gt ?_
      repeat walk_at "w1"
      refine w_ite (fun _ => ?_) (fun _ => ?_)
      · repeat walk_at "w1"
        refine r_shr (by decide) ?_
        repeat walk_at "w1"
        refine r_shl (shl_of (j := 4000) (by decide) hn0 hb _) ?_
        refine r_subI ?_
        repeat walk_at "w1"
        refine ret _ ?_
        have h4 : (4000 : Int).toNat = ((4000 : Nat) : Int).toNat := rfl
        generalize (4000 : Int).toNat = m at *
        rw [← h4]
        have h5 : num / 2 ^ m * 2 ^ m ≤ num := Int.ediv_mul_le num (Int.ne_of_gt (Int.pow_pos (by decide)))
        exact Int.sub_nonneg_of_le h5
      · repeat walk_at "w1"
        exact ret _ hn0
  refine w_cut (M := fun σ' H' => ∃ cell : Int, σ' = [some (.ref a), some (.int i), some (.int cell), none, none, none] ∧ H' = H ∧ ∃ n : Nat, n ≤ 1048577 ∧ cell.natAbs < 2 ^ n) ?_ ?_
  · walk_at "w"
    by_cases c : i < ns.length
    · walk_at "w"
      have hm : gI ns i ∈ ns := by
        unfold gI
        rw [List.getD_eq_getElem?_getD, List.getElem?_eq_getElem (show i.toNat < ns.length by omega)]
        exact List.getElem_mem _
      exact ⟨_, rfl, rfl, bits_abs (hb _ hm)⟩
    · walk_at "w"
      exact ⟨_, rfl, rfl, 10, by omega, by omega⟩
  rintro σ' H' ⟨cell, rfl, rfl, hc⟩
  walk_at "w"
  refine i_seqL ?_
  walk_at "w"
  intro p H1 n1 e1 h1
  walk_at "w"
  refine for_list (xs := vI (ns.take 2)) (Pv := fun _ σ' H2 => ∃ (sd : Int) (v : Option V), σ' = [some (.ref a), some (.int i), some (.int cell), some (.int sd), v, none] ∧ 0 ≤ sd ∧ sd < 2147483629 ∧ H2 = H1) ⟨_, _, rfl, Int.emod_nonneg _ (by decide), Int.emod_lt_of_pos _ (by decide), rfl⟩ (fun _ _ H2 _ q => by obtain ⟨_, _, _, _, _, rfl⟩ := q; exact sq_of h1) ?_ ?_
  · rintro j x σ' H2 hx ⟨sd, v, rfl, g0, g1, rfl⟩
    obtain ⟨z, _, rfl⟩ := List.mem_map.mp (List.mem_of_getElem? hx)
    walk_at "w"
    exact ⟨_, _, rfl, Int.emod_nonneg _ (by decide), Int.emod_lt_of_pos _ (by decide), rfl⟩
  · rintro σ' H2 ⟨sd, v, rfl, g0, g1, rfl⟩
    exact fin cell sd H2 v e1 hc g0 g1

/-- counts from lo on that do not fall, each step less than st -/
def Ris (ns : List Int) (lo st : Int) : Prop := rising ns ∧ (∀ n ∈ ns, lo ≤ n) ∧ ∀ n ∈ ns, n ≤ lo + ns.length * (st - 1)
theorem gI_app {ns : List Int} {v : Int} {i : Nat} : gI (ns ++ [v]) i = if i < ns.length then gI ns i else if i = ns.length then v else 0 := by
  unfold gI
  rw [Int.toNat_natCast, List.getD_eq_getElem?_getD, List.getD_eq_getElem?_getD]
  by_cases h : i < ns.length
  · rw [List.getElem?_append_left h, if_pos h]
  · rw [List.getElem?_append_right (by omega), if_neg h]
    by_cases h2 : i = ns.length
    · subst h2; simp
    · rw [if_neg h2, List.getElem?_eq_none (by simp; omega)]; rfl
theorem rising_app {ns : List Int} {v : Int} (h : rising ns) (hv : ∀ n ∈ ns, n ≤ v) : rising (ns ++ [v]) := by
  intro i hi
  rw [List.length_append, List.length_singleton] at hi
  have e : ((i : Int) + 1) = ((i + 1 : Nat) : Int) := rfl
  rw [e, gI_app, gI_app, if_pos (by omega)]
  by_cases h2 : i + 1 < ns.length
  · rw [if_pos h2]; exact h i h2
  · rw [if_neg h2, if_pos (by omega)]
    refine hv _ ?_
    unfold gI
    rw [Int.toNat_natCast, List.getD_eq_getElem?_getD, List.getElem?_eq_getElem (show i < ns.length by omega)]
    exact List.getElem_mem _
abbrev N__law_rising : List Str := ["source", "many", "low", "steps", "told", "value", "k"]
theorem sc__law_rising : FnScope N__law_rising ["source", "many", "low", "steps"] (defScope s__law_rising) := ⟨rfl, rfl, rfl, by decide +kernel, rfl, by decide +kernel, by decide +kernel⟩
theorem ok__law_rising {P : Program} {w : World} {K : PySem.W.Frag} {mg : Str → Option Value} {base : Heap} (E : Env P K mg) : Fn P w K mg base CX0 2 "_law_rising" (sp4 fun s m lo st H Q _ => ∃ (a : Addr) (n : Nat) (low step : Int), s = .ref a ∧ m = .int n ∧ lo = .int low ∧ st = .int step ∧ n ≤ 1000 ∧ 0 < step ∧ step < 1000000 ∧ SrcAt H a ∧ ∀ p ns H', H p = none → Fr a H H' → SrcAt H' a → H' p = some (.lst (vI ns)) → ns.length = n → Ris ns low step → Q (.ref p) H') := by
  obtain ⟨fd, F⟩ := E.dd__law_rising
  refine Fn.mk0 F E.g__law_rising sc__law_rising sp4_len (fun _ _ _ _ _ _ us hl => match us, hl with | [_, _, _, _], _ => rfl) (fun cdv A outer s H vs Q X hr h => ?_)
  have nd := sc__law_rising.nd
  obtain ⟨v0, v1, v2, v3, rfl, h⟩ := h
  refine ⟨_, (pss_cons (ps_set (i := 4) nd rfl (.inl rfl) (pe_lst (pa_nil)))
  (pss_cons (ps_set (i := 5) nd rfl (.inl rfl) (pv 2))
  (pss_cons (ps_for PassesOwn.never rfl (pi_range1 (by rfl) E.f_range (pa_cons (pv 1) pa_nil)) (pg_name (i := 6) nd rfl (.inl rfl))
   (pss_cons (ps_set (i := 5) nd rfl (.inl rfl) (pe_op (kAdd K) (pv 5) (pc (ok__law_pick E) hr (by decide) pass0 rfl (pa_cons (pv 0) (pa_cons (pv 3) pa_nil)))))
  (pss_one (ps_expr (kBM K (pe_bm PySem.F.plainAttrs_list PySem.F.slot_list_append PySem.F.type_list_append mt_append (pv 4) (pa_cons (pv 5) pa_nil)))))))
  (pss_one (ps_ret (pv 4)))))), ?_⟩
  change (_ : TS) _ [some v0, some v1, some v2, some v3, none, none, none] H
  try dsimp only [cxOf, Cx.nox, Cx.blk]
  obtain ⟨a, n, low, step, rfl, rfl, rfl, rfl, hn, hs0, hs1, hsrc, k⟩ := h
  walk_at "w"
  intro p H1 n1 e1 h1
  have hpa := hsrc.ne n1
  walk_at "w"
  refine for_range (lo := 0) (Pv := fun i σ' H' => ∃ (ns : List Int) (v : Int) (o : Option V), σ' = [some (.ref a), some (.int n), some (.int low), some (.int step), some (.ref p), some (.int v), o] ∧ Fr a H H' ∧ SrcAt H' a ∧ H' p = some (.lst (vI ns)) ∧ ns.length = i ∧ rising ns ∧ (∀ x ∈ ns, low ≤ x ∧ x ≤ v) ∧ low ≤ v ∧ v ≤ low + i * (step - 1))
    ⟨[], low, none, rfl, Fr.of e1, hsrc.ex e1, h1, rfl, fun i hi => by simp at hi, fun x hx => by simp at hx, Int.le_refl _, by omega⟩ ?_ ?_
  · rintro i σ' H' hi ⟨ns, v, o, rfl, f1, q1, g1, hl, hr1, hr2, hr3, hr4⟩
    walk_at "w"
    refine ⟨a, step, rfl, rfl, hs0, by omega, q1, fun r H2 r0 r1 q2 f2 => ?_⟩
    walk_at "w"
    have g2 := f2 p _ hpa g1
    walk_at "w"
    refine r_app (K := K) g2 (sz_lt (by rw [List.length_map]; omega)) ?_
    walk_at "w"
    refine ⟨ns ++ [v + r], v + r, _, rfl, fun b o nb hb => ?_, ?_, ?_, ?_, ?_, ?_, ?_, ?_⟩
    · rw [upd_ne (ne_of_none hb n1)]
      exact f2 b o nb (f1 b o nb hb)
    · obtain ⟨d, s, c, w1, w2⟩ := q2
      exact ⟨d, s, c, by rw [upd_ne hpa.symm]; exact w1, w2⟩
    · rw [show vI (ns ++ [v + r]) = vI ns ++ [V.int (v + r)] from List.map_append ..]
      exact upd_same
    · rw [List.length_append, hl]; rfl
    · exact rising_app hr1 fun x hx => by have := (hr2 x hx).2; omega
    · intro x hx
      rcases List.mem_append.mp hx with hx | hx
      · have := hr2 x hx; omega
      · have : x = v + r := by simpa using hx
        omega
    · omega
    · rw [show ((i + 1 : Nat) : Int) * (step - 1) = i * (step - 1) + (step - 1) by rw [Int.natCast_add, Int.add_mul]; omega]
      omega
  · rintro σ' H' ⟨ns, v, o, rfl, f1, q1, g1, hl, hr1, hr2, hr3, hr4⟩
    walk_at "w"
    rw [Int.toNat_natCast] at hl hr4
    refine k p ns H' n1 f1 q1 g1 hl ⟨hr1, fun x hx => (hr2 x hx).1, fun x hx => ?_⟩
    have := (hr2 x hx).2
    rw [hl]
    omega

theorem gI_lit {ns : List Int} {r lo hi : Int} (h : ns.all (fun n => decide (lo ≤ n) && decide (n ≤ hi)) = true) (r0 : 0 ≤ r) (r1 : r < ns.length) : lo ≤ gI ns r ∧ gI ns r ≤ hi := by
  have hl : r.toNat < ns.length := by omega
  have hm : gI ns r ∈ ns := by
    unfold gI
    rw [List.getD_eq_getElem?_getD, List.getElem?_eq_getElem hl]
    exact List.getElem_mem _
  have := List.all_eq_true.mp h _ hm
  simpa using this
theorem gI_mem {ns : List Int} {r : Int} (r0 : 0 ≤ r) (r1 : r < ns.length) : gI ns r ∈ ns := by
  unfold gI
  rw [List.getD_eq_getElem?_getD, List.getElem?_eq_getElem (show r.toNat < ns.length by omega)]
  exact List.getElem_mem _
theorem rising_le {ns : List Int} (h : rising ns) : ∀ (d i : Nat), i + d < ns.length → gI ns i ≤ gI ns (i + d)
  | 0, i, _ => Int.le_refl _
  | d + 1, i, hi => by
    refine Int.le_trans (rising_le h d i (by omega)) ?_
    have := h (i + d) (by omega)
    exact this
/-- small values -/
structure RawOk (h l : List Int) (r : Int) : Prop where
  val : Val h l r
  zh : h.length ≤ 4
  zl : l.length ≤ 4
  bh : ∀ n ∈ h, n ≤ 8
  bl : ∀ n ∈ l, n ≤ 16
  br : r ≤ 12

abbrev N__law_is_integer : List Str := ["thing"]
theorem sc__law_is_integer : FnScope N__law_is_integer ["thing"] (defScope s__law_is_integer) := ⟨rfl, rfl, rfl, by decide +kernel, rfl, by decide +kernel, by decide +kernel⟩
theorem ok__law_is_integer {P : Program} {w : World} {K : PySem.W.Frag} {mg : Str → Option Value} {base : Heap} (E : Env P K mg) : Fn P w K mg base CX0 1 "_law_is_integer" (sp1 fun v H Q _ => ∃ d, Dp K H v d ∧ RetD K (.bool (dIsInt d)) H Q) := by
  obtain ⟨fd, F⟩ := E.dd__law_is_integer
  refine Fn.mk0 F E.g__law_is_integer sc__law_is_integer sp1_len (fun _ _ _ _ _ _ us hl => match us, hl with | [_], _ => rfl) (fun cdv A outer s H vs Q X hr h => ?_)
  have nd := sc__law_is_integer.nd
  obtain ⟨v0, rfl, h⟩ := h
  refine ⟨_, (pss_one (ps_ret (pe_and (pe_callB (kIsi K) (by rfl) E.f_isinstance (by decide +kernel) (pa_cons (pv 0) (pa_cons (pe_bltn (v := .ty "int") (by rfl) E.f_int (by decide +kernel) rfl) pa_nil))) (pe_one (pe_not (pe_callB (kIsi K) (by rfl) E.f_isinstance (by decide +kernel) (pa_cons (pv 0) (pa_cons (pe_bltn (v := .ty "bool") (by rfl) E.f_bool (by decide +kernel) rfl) pa_nil)))))))), ?_⟩
  change (_ : TS) _ [some v0] H
  try dsimp only [cxOf, Cx.nox, Cx.blk]
  obtain ⟨d, hd, k⟩ := h
  cases d with
  | dict x => exact (dp_nodict hd).elim
  | int i => cases hd; walk_at "w"; exact k.bl (by walk_at "ex")
  | _ => cases hd <;> (walk_at "w"; exact k.bl (by walk_at "ex"))
abbrev N__law_is_count : List Str := ["thing"]
theorem sc__law_is_count : FnScope N__law_is_count ["thing"] (defScope s__law_is_count) := ⟨rfl, rfl, rfl, by decide +kernel, rfl, by decide +kernel, by decide +kernel⟩
theorem ok__law_is_count {P : Program} {w : World} {K : PySem.W.Frag} {mg : Str → Option Value} {base : Heap} (E : Env P K mg) : Fn P w K mg base CX0 2 "_law_is_count" (sp1 fun v H Q _ => ∃ d, Dp K H v d ∧ RetD K (.bool (dIsCount d)) H Q) := by
  obtain ⟨fd, F⟩ := E.dd__law_is_count
  refine Fn.mk0 F E.g__law_is_count sc__law_is_count sp1_len (fun _ _ _ _ _ _ us hl => match us, hl with | [_], _ => rfl) (fun cdv A outer s H vs Q X hr h => ?_)
  have nd := sc__law_is_count.nd
  obtain ⟨v0, rfl, h⟩ := h
  refine ⟨_, (pss_one (ps_ret (pe_and (pc (ok__law_is_integer E) hr (by decide) pass0 rfl (pa_cons (pv 0) pa_nil)) (pe_one (pe_cmpR op_ge (pv 0) (pe_int) (nomark _)))))), ?_⟩
  change (_ : TS) _ [some v0] H
  try dsimp only [cxOf, Cx.nox, Cx.blk]
  obtain ⟨d, hd, k⟩ := h
  walk_at "w"
  refine ⟨d, hd, fun v H1 e1 d1 => ?_⟩
  obtain rfl := dp_toBl d1
  cases d with
  | int i => cases hd; walk_at "w"; exact k.bl (by walk_at "ex")
  | _ => walk_at "w"; exact k.bl (by walk_at "ex")
abbrev N__law_truth : List Str := ["told", "due"]
theorem sc__law_truth : FnScope N__law_truth ["told", "due"] (defScope s__law_truth) := ⟨rfl, rfl, rfl, by decide +kernel, rfl, by decide +kernel, by decide +kernel⟩
theorem ok__law_truth {P : Program} {w : World} {K : PySem.W.Frag} {mg : Str → Option Value} {base : Heap} (E : Env P K mg) : Fn P w K mg base CX0 1 "_law_truth" (sp2 fun a b H Q _ => ∃ p q : Bool, a = .bl p ∧ b = .bl q ∧ Q (.bl (decide (p = q))) H) := by
  obtain ⟨fd, F⟩ := E.dd__law_truth
  refine Fn.mk0 F E.g__law_truth sc__law_truth sp2_len (fun _ _ _ _ _ _ us hl => match us, hl with | [_, _], _ => rfl) (fun cdv A outer s H vs Q X hr h => ?_)
  have nd := sc__law_truth.nd
  obtain ⟨v0, v1, rfl, h⟩ := h
  refine ⟨_, (pss_one (ps_ret (pe_and (pe_callB (kIsi K) (by rfl) E.f_isinstance (by decide +kernel) (pa_cons (pv 0) (pa_cons (pe_bltn (v := .ty "bool") (by rfl) E.f_bool (by decide +kernel) rfl) pa_nil))) (pe_one (pe_cmpR (kEq K hr) (pv 0) (pv 1) (nomark _)))))), ?_⟩
  change (_ : TS) _ [some v0, some v1] H
  try dsimp only [cxOf, Cx.nox, Cx.blk]
  obtain ⟨p, q, rfl, rfl, k⟩ := h
  walk_at "w"
  exact k
abbrev N__law_is_value : List Str := ["thing"]
theorem sc__law_is_value : FnScope N__law_is_value ["thing"] (defScope s__law_is_value) := ⟨rfl, rfl, rfl, by decide +kernel, rfl, by decide +kernel, by decide +kernel⟩
theorem ok__law_is_value {P : Program} {w : World} {K : PySem.W.Frag} {mg : Str → Option Value} {base : Heap} (E : Env P K mg) : Fn P w K mg base CX0 3 "_law_is_value" (sp1 fun v H Q _ => ∃ o, v = optV o ∧ (∀ i, o = some i → 0 ≤ i) ∧ RetD K (.bool true) H Q) := by
  obtain ⟨fd, F⟩ := E.dd__law_is_value
  refine Fn.mk0 F E.g__law_is_value sc__law_is_value sp1_len (fun _ _ _ _ _ _ us hl => match us, hl with | [_], _ => rfl) (fun cdv A outer s H vs Q X hr h => ?_)
  have nd := sc__law_is_value.nd
  obtain ⟨v0, rfl, h⟩ := h
  refine ⟨_, (pss_one (ps_ret (pe_or (pe_cmpR xIs (pv 0) (pe_non) (nomark _)) (pe_one (pc (ok__law_is_count E) hr (by decide) pass0 rfl (pa_cons (pv 0) pa_nil)))))), ?_⟩
  change (_ : TS) _ [some v0] H
  try dsimp only [cxOf, Cx.nox, Cx.blk]
  obtain ⟨o, rfl, ho, k⟩ := h
  cases o with
  | none =>
    simp only [optV]
    walk_at "w"
    exact k.bl (by walk_at "ex")
  | some i =>
    simp only [optV]
    walk_at "w"
    refine ⟨.int i, .int i, fun v H1 e1 d1 => ?_⟩
    rw [show dIsCount (.int i) = true from decide_eq_true (ho i rfl)] at d1
    obtain rfl := dp_toBl d1
    exact k.bl e1
abbrev N__law_end : List Str := ["raw"]
theorem sc__law_end : FnScope N__law_end ["raw"] (defScope s__law_end) := ⟨rfl, rfl, rfl, by decide +kernel, rfl, by decide +kernel, by decide +kernel⟩
theorem ok__law_end {P : Program} {w : World} {K : PySem.W.Frag} {mg : Str → Option Value} {base : Heap} (E : Env P K mg) : Fn P w K mg base CX0 1 "_law_end" (sp1 fun v H Q _ => ∃ h l r, Dp K H v (dRaw h l r) ∧ RetD K (dOpt (endOf l r)) H Q) := by
  obtain ⟨fd, F⟩ := E.dd__law_end
  refine Fn.mk0 F E.g__law_end sc__law_end sp1_len (fun _ _ _ _ _ _ us hl => match us, hl with | [_], _ => rfl) (fun cdv A outer s H vs Q X hr h => ?_)
  have nd := sc__law_end.nd
  obtain ⟨v0, rfl, h⟩ := h
  refine ⟨_, (pss_cons (ps_if (PW.pt (pw_or (pt_cmpR (kEq K hr) (pe_callB (kLen K) (by rfl) E.f_len (by decide +kernel) (pa_cons (pe_ix (kIx K) (pv 0) (pe_int) (fun _ _ => rfl)) pa_nil)) (pe_int) (nomark _)) (pw_or1 (pt_cmpR op_gt (pe_ix (kIx K) (pv 0) (pe_int) (fun _ _ => rfl)) (pe_int) (nomark _)))))
   (pss_one (ps_ret (pe_non)))
   pss_nil)
  (pss_one (ps_ret (pe_ix (kIx K) (pe_ix (kIx K) (pv 0) (pe_int) (fun _ _ => rfl)) (pe_un un_neg (pe_int)) (fun _ _ => rfl))))), ?_⟩
  change (_ : TS) _ [some v0] H
  try dsimp only [cxOf, Cx.nox, Cx.blk]
  obtain ⟨hd, l, r, hD, k⟩ := h
  obtain ⟨a, th, tl, rfl, s1, s2, s3⟩ := dp_raw hD
  walk_at "w"
  by_cases h1 : l = []
  · subst h1
    walk_at "w"
    exact k.non (by walk_at "ex")
  · have h2 : 0 < l.length := List.length_pos_iff.mpr h1
    walk_at "w"
    unfold endOf at k
    by_cases h3 : 0 < r
    · walk_at "w"
      rw [if_pos (.inr h3)] at k
      exact k.non (by walk_at "ex")
    · walk_at "w"
      rw [if_neg (by rintro (h | h) <;> contradiction)] at k
      rw [show (l.length : Int) - 1 = -1 + l.length by omega] at k
      exact k.int (by walk_at "ex")
abbrev N__law_at : List Str := ["raw", "place", "rest"]
theorem sc__law_at : FnScope N__law_at ["raw", "place"] (defScope s__law_at) := ⟨rfl, rfl, rfl, by decide +kernel, rfl, by decide +kernel, by decide +kernel⟩
theorem ok__law_at {P : Program} {w : World} {K : PySem.W.Frag} {mg : Str → Option Value} {base : Heap} (E : Env P K mg) : Fn P w K mg base CX0 2 "_law_at" (spValueAt K) := by
  obtain ⟨fd, F⟩ := E.dd__law_at
  refine Fn.mk0 F E.g__law_at sc__law_at sp2_len (fun _ _ _ _ _ _ us hl => match us, hl with | [_, _], _ => rfl) (fun cdv A outer s H vs Q X hr h => ?_)
  have nd := sc__law_at.nd
  obtain ⟨v0, v1, rfl, h⟩ := h
  refine ⟨_, (pss_cons (ps_if (pt_cmpR xIs (pv 1) (pe_non) (nomark _))
   (pss_one (ps_ret (pc (ok__law_end E) hr (by decide) pass0 rfl (pa_cons (pv 0) pa_nil))))
   pss_nil)
  (pss_cons (ps_if (pt_cmpR (kEq K hr) (pv 1) (pe_int) (nomark _))
   (pss_one (ps_ret (pe_int)))
   pss_nil)
  (pss_cons (ps_if (pt_cmpR op_le (pv 1) (pe_callB (kLen K) (by rfl) E.f_len (by decide +kernel) (pa_cons (pe_ix (kIx K) (pv 0) (pe_int) (fun _ _ => rfl)) pa_nil)) (nomark _))
   (pss_one (ps_ret (pe_ix (kIx K) (pe_ix (kIx K) (pv 0) (pe_int) (fun _ _ => rfl)) (pe_op xSub (pv 1) (pe_int)) (fun _ _ => rfl))))
   pss_nil)
  (pss_cons (ps_if (pt_cmpR (kEq K hr) (pe_callB (kLen K) (by rfl) E.f_len (by decide +kernel) (pa_cons (pe_ix (kIx K) (pv 0) (pe_int) (fun _ _ => rfl)) pa_nil)) (pe_int) (nomark _))
   (pss_one (ps_ret (pe_non)))
   pss_nil)
  (pss_cons (ps_set (i := 2) nd rfl (.inl rfl) (pe_op xSub (pe_op xSub (pv 1) (pe_callB (kLen K) (by rfl) E.f_len (by decide +kernel) (pa_cons (pe_ix (kIx K) (pv 0) (pe_int) (fun _ _ => rfl)) pa_nil))) (pe_int)))
  (pss_one (ps_ret (pe_op (kAdd K) (pe_ix (kIx K) (pe_ix (kIx K) (pv 0) (pe_int) (fun _ _ => rfl)) (pe_op xMod (pv 2) (pe_callB (kLen K) (by rfl) E.f_len (by decide +kernel) (pa_cons (pe_ix (kIx K) (pv 0) (pe_int) (fun _ _ => rfl)) pa_nil))) (fun _ _ => rfl)) (pe_op (kMul K) (pe_ix (kIx K) (pv 0) (pe_int) (fun _ _ => rfl)) (pe_op xDiv (pv 2) (pe_callB (kLen K) (by rfl) E.f_len (by decide +kernel) (pa_cons (pe_ix (kIx K) (pv 0) (pe_int) (fun _ _ => rfl)) pa_nil)))))))))))), ?_⟩
  change (_ : TS) _ [some v0, some v1, none] H
  try dsimp only [cxOf, Cx.nox, Cx.blk]
  obtain ⟨hd, l, r, p, hD, hp, hn, hr1, k⟩ := h
  obtain ⟨a, th, tl, rfl, s1, s2, s3⟩ := dp_raw hD
  obtain ⟨r1, r2, r3, r4⟩ := hr1
  cases p with
  | none =>
    obtain rfl := dp_toNon hp
    walk_at "w"
    exact ⟨hd, l, r, hD, k⟩
  | some p =>
    obtain rfl := dp_toInt hp
    have hn0 := hn p rfl
    walk_at "w"
    have k' : RetD K (dOpt (vat hd l r p)) H Q := k
    unfold vat at k'
    by_cases h0 : p = 0
    · walk_at "w"
      rw [if_pos h0] at k'
      exact k'.int (by walk_at "ex")
    · rw [if_neg h0] at k'
      walk_at "w"
      by_cases h1 : p ≤ hd.length
      · rw [if_pos h1] at k'
        walk_at "w"
        exact k'.int (by walk_at "ex")
      · rw [if_neg h1] at k'
        walk_at "w"
        by_cases h2 : l = []
        · rw [if_pos h2] at k'
          subst h2
          walk_at "w"
          exact k'.non (by walk_at "ex")
        · rw [if_neg h2] at k'
          have h3 : 0 < l.length := List.length_pos_iff.mpr h2
          have h4 : (p - hd.length - 1) % l.length < l.length := Int.emod_lt_of_pos _ (by omega)
          have h5 : 0 ≤ (p - hd.length - 1) % l.length := Int.emod_nonneg _ (by omega)
          walk_at "w"
          exact k'.int (by walk_at "ex")
abbrev N__law_gcd : List Str := ["one", "other"]
theorem sc__law_gcd : FnScope N__law_gcd ["one", "other"] (defScope s__law_gcd) := ⟨rfl, rfl, rfl, by decide +kernel, rfl, by decide +kernel, by decide +kernel⟩
theorem ok__law_gcd {P : Program} {w : World} {K : PySem.W.Frag} {mg : Str → Option Value} {base : Heap} (E : Env P K mg) : Fn P w K mg base CX0 1 "_law_gcd" (sp2 fun a b H Q _ => ∃ i j : Int, a = .int i ∧ b = .int j ∧ 0 ≤ i ∧ 0 ≤ j ∧ Q (.int (Int.gcd i j)) H) := by
  obtain ⟨fd, F⟩ := E.dd__law_gcd
  refine Fn.mk0 F E.g__law_gcd sc__law_gcd sp2_len (fun _ _ _ _ _ _ us hl => match us, hl with | [_, _], _ => rfl) (fun cdv A outer s H vs Q X hr h => ?_)
  have nd := sc__law_gcd.nd
  obtain ⟨v0, v1, rfl, h⟩ := h
  refine ⟨_, (pss_cons (ps_while PassesOwn.never (pt_cmpR op_gt (pv 1) (pe_int) (nomark _))
   (pss_one (ps_par (i := 0) (j := 1) rfl nd rfl rfl (by decide) rfl rfl (pa_cons (pv 1) (pa_cons (pe_op xMod (pe_callTy xInt (by rfl) E.f_int (by decide +kernel) (pa_cons (pv 0) pa_nil)) (pv 1)) pa_nil)) rfl)))
  (pss_one (ps_ret (pv 0)))), ?_⟩
  change (_ : TS) _ [some v0, some v1] H
  try dsimp only [cxOf, Cx.nox, Cx.blk]
  obtain ⟨i, j, rfl, rfl, hi, hj, k⟩ := h
  walk_at "w"
  refine ⟨fun m σ' H' => ∃ a b : Int, σ' = [some (.int a), some (.int b)] ∧ H' = H ∧ 0 ≤ a ∧ 0 ≤ b ∧ b.toNat = m ∧ Int.gcd a b = Int.gcd i j, ⟨j.toNat, i, j, rfl, rfl, hi, hj, rfl, rfl⟩, ?_⟩
  rintro m σ' H' ⟨a, b, rfl, rfl, ha, hb, hm, hg⟩
  walk_at "w"
  by_cases c : 0 < b
  · walk_at "w"
    refine ⟨_, fun σ2 H2 h2 => h2, ?_⟩
    walk_at "w"
    refine ⟨_, _, rfl, ?_⟩
    have hlt := Int.emod_lt_of_pos a c
    have h0 := Int.emod_nonneg a (show b ≠ 0 by omega)
    refine ⟨(a % b).toNat, by omega, b, a % b, rfl, rfl, hb, h0, rfl, ?_⟩
    rw [← hg, Int.gcd_comm a b]
    obtain ⟨n, rfl⟩ := Int.eq_ofNat_of_zero_le ha
    obtain ⟨m, rfl⟩ := Int.eq_ofNat_of_zero_le hb
    show Nat.gcd m (n % m) = Nat.gcd m n
    rw [Nat.gcd_comm m n, Nat.gcd_comm m (n % m), Nat.gcd_comm n m, Nat.gcd_rec m n]
  · walk_at "w"
    have : b = 0 := by omega
    subst this
    rw [Int.gcd_zero_right] at hg
    have e : (Int.gcd i j : Int) = a := by rw [← hg]; omega
    rw [e] at k
    exact k

def Rng3 (R : It → Hp → Prop) (vs : List V) (H1 : Hp) : Prop := ∃ i j c n, vs = [V.int i, V.int j, V.int c] ∧ RgC i j c n ∧ R (Itc i c n) H1
theorem i_r3 {H : Hp} {ta : TA} {σ : L2.St} {R : It → Hp → Prop} (h : ta σ H fun vs H1 => Rng3 R vs H1) : iRng3 ta σ H R := h
theorem i_x3 {H : Hp} {i j c : Int} {n : Nat} {R : It → Hp → Prop} (hc : RgC i j c n) (h : R (Itc i c n) H) : Rng3 R [V.int i, V.int j, V.int c] H := ⟨i, j, c, n, rfl, hc, h⟩
theorem w_cont {D : Ends} {σ : L2.St} {H : Hp} (h : D.ct σ H) : tCont D σ H := h
/-- the cut of the row as the law has it: from c on, size s -/
def lcut (row : List Int) (s : Nat) (r : Int) : Nat → Nat
  | 0 => 0
  | c + 1 => if s < c + 1 ∧ gI row ((c : Int) - s) = gI row c - r then lcut row s r c else c + 1
theorem lcut_le (row : List Int) (s : Nat) (r : Int) : ∀ c, lcut row s r c ≤ c
  | 0 => Nat.le_refl _
  | c + 1 => by
    unfold lcut
    split
    · exact Nat.le_succ_of_le (lcut_le row s r c)
    · exact Nat.le_refl _
theorem lcut_ge (row : List Int) (s : Nat) (r : Int) : ∀ c, s ≤ c → s ≤ lcut row s r c
  | 0, h => h
  | c + 1, h => by
    unfold lcut
    split
    · rename_i q
      exact lcut_ge row s r c (by omega)
    · exact h
noncomputable def lawF (h l : List Int) (r : Int) : List Int × List Int × Int :=
  if l = [] then (h, [], 0) else
    ((h ++ (shortLoop l r).1).take (lcut (h ++ (shortLoop l r).1) (shortLoop l r).1.length (shortLoop l r).2 (h ++ (shortLoop l r).1).length - (shortLoop l r).1.length),
     ((h ++ (shortLoop l r).1).drop (lcut (h ++ (shortLoop l r).1) (shortLoop l r).1.length (shortLoop l r).2 (h ++ (shortLoop l r).1).length - (shortLoop l r).1.length)).take (shortLoop l r).1.length,
     (shortLoop l r).2)
section
variable {K : PySem.W.Frag} {H : Hp} {Q : VK}
theorem r_lstE {a : Addr} {xs : List V} (h : SqE K H a xs) (q : ∀ p H1, H p = none → Ex H H1 → H1 p = some (.lst xs) → Q (.ref p) H1) : rLstU K [.ref a] H Q := h.elim (fun h => r_lstL h q) (fun h => r_lstT h q)
theorem r_tupE {a : Addr} {xs : List V} (h : SqE K H a xs) (q : ∀ p H1, Ex H H1 → SqT K H1 p xs → Q (.ref p) H1) : rTupU K [.ref a] H Q := h.elim (fun h => r_tupL h q) (fun h => r_tupT h q)
theorem r_slEto {a : Addr} {xs : List Int} {i : Int} (h : SqE K H a (vI xs)) (h0 : 0 ≤ i) (q : ∀ p H1, Ex H H1 → SqE K H1 p (vI (xs.take i.toNat)) → Q (.ref p) H1) : rSl K (.ref a) none (some i) H Q := h.elim (fun h => r_slLto h h0 fun p H1 _ e g => q p H1 e (.inl (sq_of g))) (fun h => r_slTto h h0 fun p H1 e g => q p H1 e (.inr g))
theorem r_slEfrom {a : Addr} {xs : List Int} {i : Int} (h : SqE K H a (vI xs)) (h0 : 0 ≤ i) (q : ∀ p H1, Ex H H1 → SqE K H1 p (vI (xs.drop i.toNat)) → Q (.ref p) H1) : rSl K (.ref a) (some i) none H Q := h.elim (fun h => r_slLfrom h h0 fun p H1 _ e g => q p H1 e (.inl (sq_of g))) (fun h => r_slTfrom h h0 fun p H1 e g => q p H1 e (.inr g))
end
local macro_rules | `(tactic| walk_at "w2") => `(tactic| first
  | ((with_reducible refine' r_lstE ?a ?q); (case a => walk_at "hp"))
  | ((with_reducible refine' r_tupE ?a ?q); (case a => walk_at "hp"))
  | ((with_reducible refine' r_slEto ?a ?b ?q); (case a => walk_at "hp"); (case b => walk_at "om")))
abbrev N__law_plain : List Str := ["head", "loop", "rise", "size", "many", "turns", "step", "row", "cut", "k"]
theorem sc__law_plain : FnScope N__law_plain ["head", "loop", "rise"] (defScope s__law_plain) := ⟨rfl, rfl, rfl, by decide +kernel, rfl, by decide +kernel, by decide +kernel⟩
theorem ok__law_plain {P : Program} {w : World} {K : PySem.W.Frag} {mg : Str → Option Value} {base : Heap} (E : Env P K mg) : Fn P w K mg base CX0 1 "_law_plain" (sp3 fun a b c H Q _ => ∃ b1 b2 h l r, Dp K H a (dSeqI b1 h) ∧ Dp K H b (dSeqI b2 l) ∧ Dp K H c (.int r) ∧ 0 ≤ r ∧ RSm h l r ∧ RetD K (dRaw (lawF h l r).1 (lawF h l r).2.1 (lawF h l r).2.2) H Q) := by
  obtain ⟨fd, F⟩ := E.dd__law_plain
  refine Fn.mk0 F E.g__law_plain sc__law_plain sp3_len (fun _ _ _ _ _ _ us hl => match us, hl with | [_, _, _], _ => rfl) (fun cdv A outer s H vs Q X hr h => ?_)
  have nd := sc__law_plain.nd
  obtain ⟨v0, v1, v2, rfl, h⟩ := h
  refine ⟨_, (pss_cons (ps_if (pt_cmpR (kEq K hr) (pe_callB (kLen K) (by rfl) E.f_len (by decide +kernel) (pa_cons (pv 1) pa_nil)) (pe_int) (nomark _))
   (pss_one (ps_ret (pe_tup (pa_cons (pe_callTy (kTup K) (by rfl) E.f_tuple (by decide +kernel) (pa_cons (pv 0) pa_nil)) (pa_cons (pe_tup pa_nil) (pa_cons (pe_int) pa_nil))))))
   pss_nil)
  (pss_cons (ps_set (i := 3) nd rfl (.inl rfl) (pe_callB (kLen K) (by rfl) E.f_len (by decide +kernel) (pa_cons (pv 1) pa_nil)))
  (pss_cut (ps_for PassesOwn.never rfl (pi_range3 (by rfl) E.f_range (pa_cons (pe_callB (kLen K) (by rfl) E.f_len (by decide +kernel) (pa_cons (pv 1) pa_nil)) (pa_cons (pe_int) (pa_cons (pe_un un_neg (pe_int)) pa_nil)))) (pg_name (i := 4) nd rfl (.inr rfl))
   (pss_cons (ps_set (i := 5) nd rfl (.inl rfl) (pe_op xDiv (pe_callB (kLen K) (by rfl) E.f_len (by decide +kernel) (pa_cons (pv 1) pa_nil)) (pv 4)))
  (pss_cons (ps_if (PW.pt (pw_or (pt_cmpR (kNe K hr) (pe_op (kMul K) (pv 5) (pv 4)) (pe_callB (kLen K) (by rfl) E.f_len (by decide +kernel) (pa_cons (pv 1) pa_nil)) (nomark _)) (pw_or1 (pt_cmpR (kNe K hr) (pe_op xMod (pe_callTy xInt (by rfl) E.f_int (by decide +kernel) (pa_cons (pv 2) pa_nil)) (pv 5)) (pe_int) (nomark _)))))
   (pss_one (ps_continue))
   pss_nil)
  (pss_cons (ps_set (i := 6) nd rfl (.inr rfl) (pe_op xDiv (pv 2) (pv 5)))
  (pss_one (ps_if (kTru K (pe_callB (kAll K rfl) (by rfl) E.f_all (by decide +kernel) (pa_cons (pe_lc (own := [("k", 9)]) (g := gName 9) (tt := tYes) rfl nd (pi_range1 (by rfl) E.f_range (pa_cons (pe_op xSub (pe_callB (kLen K) (by rfl) E.f_len (by decide +kernel) (pa_cons (pv 1) pa_nil)) (pv 4)) pa_nil)) (blkOk_by (N := N__law_plain) (sc := defScope s__law_plain) (by decide +kernel)) (fun _ _ _ _ _ => pg_name (i := 9) nd rfl (Or.inl rfl)) (fun _ _ _ _ _ => pts_nil) (fun _ _ _ _ _ => pe_cmpR (kEq K hr) (pe_ix (kIx K) (pv 1) (pe_op (kAdd K) (pv 9) (pv 4)) (fun _ _ => rfl)) (pe_op (kAdd K) (pe_ix (kIx K) (pv 1) (pv 9) (fun _ _ => rfl)) (pv 6)) (nomark _))) pa_nil)) (by intro _; rfl))
   (pss_one (ps_set (i := 3) nd rfl (.inl rfl) (pv 4)))
   pss_nil))))))
  (pss_cons (ps_set (i := 2) nd rfl (.inl rfl) (pe_op xDiv (pv 2) (pe_op xDiv (pe_callB (kLen K) (by rfl) E.f_len (by decide +kernel) (pa_cons (pv 1) pa_nil)) (pv 3))))
  (pss_cons (ps_set (i := 7) nd rfl (.inl rfl) (pe_op (kAdd K) (pe_callTy (kLst K) (by rfl) E.f_list (by decide +kernel) (pa_cons (pv 0) pa_nil)) (pe_callTy (kLst K) (by rfl) E.f_list (by decide +kernel) (pa_cons (pe_slice (kSl K) (pv 1) po_none (po_some (pv 3))) pa_nil))))
  (pss_cons (ps_set (i := 8) nd rfl (.inl rfl) (pe_callB (kLen K) (by rfl) E.f_len (by decide +kernel) (pa_cons (pv 7) pa_nil)))
  (pss_cons (ps_while PassesOwn.never (PW.pt (pw_and (pt_cmpR op_gt (pv 8) (pv 3) (nomark _)) (pw_and1 (pt_cmpR (kEq K hr) (pe_ix (kIx K) (pv 7) (pe_op xSub (pe_op xSub (pv 8) (pe_int)) (pv 3)) (fun _ _ => rfl)) (pe_op xSub (pe_ix (kIx K) (pv 7) (pe_op xSub (pv 8) (pe_int)) (fun _ _ => rfl)) (pv 2)) (nomark _)))))
   (pss_one (ps_set (i := 8) nd rfl (.inl rfl) (pe_op xSub (pv 8) (pe_int)))))
  (pss_one (ps_ret (pe_tup (pa_cons (pe_callTy (kTup K) (by rfl) E.f_tuple (by decide +kernel) (pa_cons (pe_slice (kSl K) (pv 7) po_none (po_some (pe_op xSub (pv 8) (pv 3)))) pa_nil)) (pa_cons (pe_callTy (kTup K) (by rfl) E.f_tuple (by decide +kernel) (pa_cons (pe_slice (kSl K) (pv 7) (po_some (pe_op xSub (pv 8) (pv 3))) (po_some (pv 8))) pa_nil)) (pa_cons (pv 2) pa_nil))))))))))))), ?_⟩
  change (_ : TS) _ [some v0, some v1, some v2, none, none, none, none, none, none, none] H
  try dsimp only [cxOf, Cx.nox, Cx.blk]
  obtain ⟨b1, b2, h, l, r, hh, hl, hri, hr0, ⟨r1, r2, r3, r4⟩, k⟩ := h
  obtain ⟨th, rfl, s1⟩ := dp_seqE hh
  obtain ⟨tl, rfl, s2⟩ := dp_seqE hl
  obtain rfl := dp_toInt hri
  unfold lawF at k
  walk_at "w"
  by_cases hn : l = []
  · subst hn
    rw [if_pos rfl] at k
    walk_at "w"
    intro p0 H0 e0 s0
    walk_at "w"
    intro p1 H1 n1 e1 h1
    walk_at "w"
    intro p2 H2 n2 e2 h2
    exact k _ _ ((e0.trans e1).trans e2) (dp_of_raw (st_of h2) (ex_t e2 (ex_t e1 s0)) (ex_t e2 (st_of h1)))
  · rw [if_neg hn] at k
    have hl0 : 0 < l.length := List.length_pos_iff.mpr hn
    walk_at "w"
    refine w_cut (M := fun σ' H' => ∃ (s : Nat) (a b c : Option V), σ' = [some (.ref th), some (.ref tl), some (.int r), some (.int s), a, b, c, none, none, none] ∧ Ex H H' ∧ 1 ≤ s ∧ s ≤ l.length ∧ (s = l.length ∨ slOk l r s) ∧ ∀ j, 1 ≤ j → j < s → ¬ slOk l r j) ?_ ?_
    · walk_at "w"
      refine i_r3 ?_
      walk_at "w"
      have hrg : RgC (l.length : Int) 0 (-1) l.length := by
        have := RgC.neg (i := (l.length : Int)) (j := 0) (by omega) (by omega) (by omega) (by omega)
        rwa [show ((l.length : Int) - 0).toNat = l.length by omega] at this
      refine i_x3 (n := l.length) hrg ?_
      refine for_rangeC (lo := l.length) (c := -1) (n := l.length) (Pv := fun i σ' H' => ∃ (s : Nat) (a b c : Option V), σ' = [some (.ref th), some (.ref tl), some (.int r), some (.int s), a, b, c, none, none, none] ∧ Ex H H' ∧ 1 ≤ s ∧ s ≤ l.length ∧ (s = l.length ∨ slOk l r s) ∧ ∀ j, l.length < j + i → j < s → ¬ slOk l r j)
        ⟨l.length, _, _, _, rfl, Ex.refl H, by omega, Nat.le_refl _, .inl rfl, fun j h1 h2 => by omega⟩ ?_ ?_
      · rintro i σ' H' hi ⟨s, a, b, c, rfl, e, hs1, hs2, hs3, hnot⟩
        obtain ⟨m, hm⟩ : ∃ m : Nat, m + i = l.length := ⟨l.length - i, by omega⟩
        have hm0 : 0 < m := by omega
        rw [show ((l.length : Int) + (i : Int) * -1) = (m : Int) by omega]
        have hq : 0 < (l.length : Int) / m := Int.le_ediv_of_mul_le (by omega) (by omega)
        have hq2 : (l.length : Int) / m ≤ l.length := Int.ediv_le_self _ (by omega)
        have hme : (l.length : Int) % m + m * ((l.length : Int) / m) = l.length := Int.emod_add_mul_ediv ..
        have hno : ¬ slOk l r m → ∀ j, l.length < j + (i + 1) → j < s → ¬ slOk l r j := fun hn j h1 h2 => by
          by_cases hj : j = m
          · rw [hj]; exact hn
          · exact hnot j (by omega) h2
        walk_at "w"
        by_cases c1 : (l.length : Int) % m = 0
        · have c1' : (l.length : Int) / m * m = l.length := by rw [Int.mul_comm]; omega
          walk_at "w"
          by_cases c2 : r % ((l.length : Int) / m) = 0
          · walk_at "w"
            refine lcJ_r0 (v := fun i => .bl (decide (gI l (i + m) = gI l i + r / ((l.length : Int) / m)))) (by omega) (fun x => [_, _, _, _, _, _, _, _, _, some x]) (fun x => rfl) (fun x => rfl) (fun j H1 Q' e1 hj hq => ?_) (fun p H2 np e2 hp => ?_)
            · walk_at "w"
              exact hq H1 (Ex.refl _)
            · rw [map_bl_range] at hp
              walk_at "w"
              refine r_all (sq_of hp) rfl ?_
              rw [all_range]
              walk_at "w"
              by_cases c3 : ∀ j : Nat, j < ((l.length : Int) - m).toNat → gI l (j + m) = gI l j + r / ((l.length : Int) / m)
              · walk_at "w"
                exact ⟨m, _, _, _, rfl, e.trans e2, hm0, by omega, .inr ⟨c1, c2, fun j hj => c3 j (by omega)⟩, fun j h1 h2 => by omega⟩
              · walk_at "w"
                refine ⟨s, _, _, _, rfl, e.trans e2, hs1, hs2, hs3, hno fun h => c3 fun j hj => ?_⟩
                exact h.2.2 j (by omega)
          · walk_at "w"
            refine w_cont ?_
            exact ⟨s, _, _, _, rfl, e, hs1, hs2, hs3, hno fun h => c2 h.2.1⟩
        · have c1' : ¬ ((l.length : Int) / m * m = l.length) := by rw [Int.mul_comm]; omega
          walk_at "w"
          refine w_cont ?_
          exact ⟨s, _, _, _, rfl, e, hs1, hs2, hs3, hno fun h => c1 h.1⟩
      · rintro σ' H' ⟨s, a, b, c, rfl, e, hs1, hs2, hs3, hnot⟩
        exact ⟨s, a, b, c, rfl, e, hs1, hs2, hs3, fun j h1 h2 => hnot j (by omega) h2⟩
    rintro σ' H1 ⟨s, a, b, c, rfl, e1, hs1, hs2, hs3, hnot⟩
    have hsl : shortLoop l r = (l.take s, r / ((l.length : Int) / s)) := by
      by_cases q : s = l.length
      · rw [shortLoop_none (fun j h1 h2 => hnot j h1 (by omega)), q, List.take_length, Int.ediv_self (by omega), Int.ediv_one]
      · exact shortLoop_some hs1 (by omega) (hs3.resolve_left q) hnot
    have hq : 0 < (l.length : Int) / s := Int.le_ediv_of_mul_le (by omega) (by omega)
    have hq2 : (l.length : Int) / s ≤ l.length := Int.ediv_le_self _ (by omega)
    have hlen : (l.take s).length = s := by rw [List.length_take]; omega
    rw [hsl] at k
    dsimp only at k
    rw [hlen] at k
    walk_at "w"
    intro p2 H2 n2 e2 h2
    walk_at "w"
    intro p3 H3 e3 s3
    walk_at "w"
    intro p4 H4 n4 e4 h4
    rw [Int.toNat_natCast] at h4
    refine r_addL (e4 _ _ (e3 _ _ h2)) h4 (by walk_at "sz") fun p5 H5 n5 e5 h5 => ?_
    rw [show vI h ++ vI (l.take s) = vI (h ++ l.take s) from List.map_append.symm] at h5
    have hrl : (h ++ l.take s).length = h.length + s := by rw [List.length_append, hlen]
    generalize hrow : h ++ l.take s = row at *
    generalize hr' : r / ((l.length : Int) / s) = r' at *
    walk_at "w"
    refine ⟨fun m σ' H' => σ' = [some (.ref th), some (.ref tl), some (.int r'), some (.int s), a, b, c, some (.ref p5), some (.int (m : Int)), none] ∧ H' = H5 ∧ s ≤ m ∧ m ≤ row.length ∧ lcut row s r' row.length = lcut row s r' m, ⟨row.length, rfl, rfl, by omega, Nat.le_refl _, rfl⟩, ?_⟩
    rintro m σ' H' ⟨rfl, rfl, hm1, hm2, hc⟩
    walk_at "w"
    cases m with
    | zero => omega
    | succ m =>
      have fin : lcut row s r' (m + 1) = m + 1 → tRet (tTup (tCons (tCB (rTupU K) (tCons (tSl (rSl K) (tVar 7) tNoPart (tPart (tOp rSubI (tVar 8) (tVar 3)))) tNil)) (tCons (tCB (rTupU K) (tCons (tSl (rSl K) (tVar 7) (tPart (tOp rSubI (tVar 8) (tVar 3))) (tPart (tVar 8))) tNil)) (tCons (tVar 2) tNil))))
          { nx := fun _ H' => Q .non H', rt := Q } [some (.ref th), some (.ref tl), some (.int r'), some (.int s), a, b, c, some (.ref p5), some (.int ((m + 1 : Nat) : Int)), none] H' := by
        intro hf
        walk_at "w"
        intro p6 H6 n6 e6 h6
        walk_at "w"
        intro p7 H7 e7 s7
        walk_at "w"
        intro p8 H8 n8 e8 h8
        walk_at "w"
        intro p9 H9 e9 s9
        walk_at "w"
        intro p10 H10 n10 e10 h10
        rw [hc, hf] at k
        rw [show (((m + 1 : Nat) : Int) - s).toNat = m + 1 - s by omega] at s7 s9
        rw [show (((m + 1 : Nat) : Int) - (((m + 1 : Nat) : Int) - s)).toNat = s by omega] at s9
        exact k _ _ (by walk_at "ex") (dp_of_raw (st_of h10) (by walk_at "hp") (by walk_at "hp"))
      by_cases c1 : (s : Int) < ((m + 1 : Nat) : Int)
      · walk_at "w"
        rw [show ((m + 1 : Nat) : Int) - 1 = (m : Int) by omega]
        by_cases c2 : gI row ((m : Int) - s) = gI row m - r'
        · walk_at "w"
          refine ⟨_, fun σ2 H2 h2 => ⟨m, Nat.lt_succ_self m, h2⟩, ?_⟩
          walk_at "w"
          rw [show ((m + 1 : Nat) : Int) - 1 = (m : Int) by omega]
          refine ⟨rfl, rfl, by omega, by omega, ?_⟩
          rw [hc]
          exact if_pos ⟨by omega, c2⟩
        · refine w_dF c2 ?_
          exact fin (if_neg fun q => c2 q.2)
      · refine w_dF c1 ?_
        with_reducible refine w_bF rfl ?_
        exact fin (if_neg fun q => c1 (by omega))

/-- the loop going on both ways -/
def extL (l : List Int) (r : Int) (i : Int) : Int := gI l (i % l.length) + r * (i / l.length)
def Per (g : Int → Int) (s : Nat) (d : Int) : Prop := ∀ i : Int, g (i + s) = g i + d
theorem Per.mulN {g : Int → Int} {s : Nat} {d : Int} (p : Per g s d) : ∀ (z : Nat) (i : Int), g (i + s * z) = g i + d * z
  | 0, i => by simp
  | z + 1, i => by
    rw [show i + (s : Int) * ((z + 1 : Nat) : Int) = (i + s * z) + s by rw [Int.natCast_add, Int.mul_add]; omega, p, p.mulN z i, Int.natCast_add, Int.mul_add]
    omega
theorem Per.mul {g : Int → Int} {s : Nat} {d : Int} (p : Per g s d) (z i : Int) : g (i + s * z) = g i + d * z := by
  rcases Int.le_total 0 z with h | h
  · obtain ⟨n, rfl⟩ := Int.eq_ofNat_of_zero_le h
    exact p.mulN n i
  · obtain ⟨n, hn⟩ := Int.eq_ofNat_of_zero_le (show 0 ≤ -z by omega)
    obtain rfl : z = -(n : Int) := by omega
    have := p.mulN n (i + s * -(n : Int))
    rw [show i + (s : Int) * -(n : Int) + s * n = i by rw [Int.mul_neg]; omega] at this
    rw [this, Int.mul_neg, Int.mul_neg]
    omega
theorem Per.ext {g g' : Int → Int} {s : Nat} {d : Int} (hs : 1 ≤ s) (p : Per g s d) (p' : Per g' s d) (h : ∀ k : Nat, k < s → g k = g' k) (i : Int) : g i = g' i := by
  have e : i % s + s * (i / s) = i := Int.emod_add_mul_ediv ..
  have h0 := Int.emod_nonneg i (show (s : Int) ≠ 0 by omega)
  have h1 := Int.emod_lt_of_pos i (show (0 : Int) < s by omega)
  obtain ⟨k, hk⟩ := Int.eq_ofNat_of_zero_le h0
  rw [← e, p.mul, p'.mul, hk, h k (by omega)]
theorem Per.shift {g : Int → Int} {s : Nat} {d : Int} (p : Per g s d) (m : Int) : Per (fun i => g (i + m)) s d := fun i => by
  show g (i + s + m) = g (i + m) + d
  rw [show i + (s : Int) + m = i + m + s by omega, p]
theorem Per.unshift {g : Int → Int} {s : Nat} {d : Int} (m : Int) (p : Per (fun i => g (i + m)) s d) : Per g s d := fun i => by
  have := p (i - m)
  simp only at this
  rwa [show i - m + (s : Int) + m = i + s by omega, show i - m + m = i by omega] at this
theorem Per.val {g : Int → Int} {s : Nat} {d : Int} (p : Per g s d) : g s - g 0 = d := by
  have := p 0
  rw [Int.zero_add] at this
  omega
theorem extL_per {l : List Int} {r : Int} (hl : l ≠ []) : Per (extL l r) l.length r := fun i => by
  have h0 : 0 < l.length := List.length_pos_iff.mpr hl
  unfold extL
  rw [Int.add_emod_right, Int.add_ediv_of_dvd_right (Int.dvd_refl _), Int.ediv_self (by omega), Int.mul_add]
  omega
theorem extL_small {l : List Int} {r : Int} {k : Nat} (h : k < l.length) : extL l r k = gI l k := by
  unfold extL
  rw [Int.emod_eq_of_lt (by omega) (by omega), Int.ediv_eq_zero_of_lt (by omega) (by omega)]
  omega
theorem bkV_ext {l : List Int} {r : Int} (hl : l ≠ []) (back : Int) : bkV l r back = extL l r (-1 - back) := by
  have h0 : 0 < l.length := List.length_pos_iff.mpr hl
  have e : back % l.length + l.length * (back / l.length) = back := Int.emod_add_mul_ediv ..
  have h1 := Int.emod_nonneg back (show (l.length : Int) ≠ 0 by omega)
  have h2 := Int.emod_lt_of_pos back (show (0 : Int) < l.length by omega)
  have e2 : -1 - back = (-1 - back % l.length + l.length) + l.length * (-(back / l.length) - 1) := by
    rw [Int.mul_sub, Int.mul_neg]
    omega
  unfold extL bkV
  generalize back % (l.length : Int) = t at *
  generalize back / (l.length : Int) = q at *
  rw [e2, Int.add_mul_emod_self_left, Int.add_mul_ediv_left _ _ (by omega), Int.emod_eq_of_lt (by omega) (by omega), Int.ediv_eq_zero_of_lt (by omega) (by omega), Int.zero_add, Int.mul_sub, Int.mul_add, Int.mul_neg]
  omega
/-- the value behind j others -/
def fV (h l : List Int) (r : Int) (j : Nat) : Int := if j < h.length then gI h j else extL l r ((j : Int) - h.length)
theorem vat_fV {h l : List Int} {r : Int} (hl : l ≠ []) (j : Nat) : vat h l r ((j : Int) + 1) = some (fV h l r j) := by
  unfold vat fV
  rw [if_neg (by omega), if_neg hl]
  by_cases c : j < h.length
  · rw [if_pos (by omega), if_pos c, show (j : Int) + 1 - 1 = j by omega]
  · rw [if_neg (by omega), if_neg c]
    unfold extL
    rw [show (j : Int) + 1 - h.length - 1 = j - h.length by omega]
theorem fV_head {h l : List Int} {r : Int} {j : Nat} (c : j < h.length) : fV h l r j = gI h j := if_pos c
theorem fV_loop {h l : List Int} {r : Int} {j : Nat} (c : h.length ≤ j) : fV h l r j = extL l r ((j : Int) - h.length) := if_neg (by omega)
theorem slOk_per {l : List Int} {r : Int} {m : Nat} (hl : l ≠ []) (hm : 1 ≤ m) (h : slOk l r m) : Per (extL l r) m (r / ((l.length : Int) / m)) := by
  obtain ⟨h1, h2, h3⟩ := h
  have h0 : 0 < l.length := List.length_pos_iff.mpr hl
  obtain ⟨q, hq⟩ : m ∣ l.length := Int.natCast_dvd_natCast.mp (Int.dvd_of_emod_eq_zero h1)
  have hqL : (l.length : Int) / m = q := by
    rw [hq, Int.natCast_mul, Int.mul_ediv_cancel_left _ (by omega)]
  rw [hqL] at h2 h3 ⊢
  have hq0 : 0 < q := by
    rcases Nat.eq_zero_or_pos q with e | e
    · rw [e, Nat.mul_zero] at hq; omega
    · exact e
  obtain ⟨d, hd⟩ := Int.dvd_of_emod_eq_zero h2
  have hdq : r / (q : Int) = d := by rw [hd, Int.mul_ediv_cancel_left _ (by omega)]
  rw [hdq] at h3 ⊢
  have run : ∀ (k u : Nat), u + m * k < l.length → gI l ((u + m * k : Nat) : Int) = gI l u + d * k := by
    intro k
    induction k with
    | zero => intro u _; simp
    | succ k ih =>
      intro u hu
      rw [Nat.mul_add, Nat.mul_one, ← Nat.add_assoc] at hu ⊢
      rw [Int.natCast_add, h3 (u + m * k) hu, ih u (by omega), Int.natCast_add, Int.mul_add]
      omega
  have P := extL_per (r := r) hl
  intro i
  have e : i % l.length + l.length * (i / l.length) = i := Int.emod_add_mul_ediv ..
  have g0 := Int.emod_nonneg i (show (l.length : Int) ≠ 0 by omega)
  have g1 := Int.emod_lt_of_pos i (show (0 : Int) < l.length by omega)
  obtain ⟨t, ht⟩ := Int.eq_ofNat_of_zero_le g0
  rw [ht] at e g1
  generalize i / l.length = z at e
  subst e
  rw [show (t : Int) + l.length * z + m = ((t + m : Nat) : Int) + l.length * z by omega, P.mul, P.mul, extL_small (k := t) (by omega)]
  by_cases c : t + m < l.length
  · rw [extL_small c, Int.natCast_add, h3 t c]
    omega
  · have hu : t + m = (t + m - l.length) + l.length := by omega
    obtain ⟨q', rfl⟩ : ∃ q', q = q' + 1 := ⟨q - 1, by omega⟩
    have hq' : l.length = m * q' + m := by rw [hq, Nat.mul_add, Nat.mul_one]
    rw [hu, Int.natCast_add, P, extL_small (by omega)]
    have := run q' (t + m - l.length) (by omega)
    rw [show t + m - l.length + m * q' = t by omega] at this
    rw [this, hd, Int.natCast_add, Int.add_mul, Int.mul_comm d]
    simp only [Int.natCast_one, Int.one_mul]
    generalize (q' : Int) * d = y
    omega
theorem per_slOk {l : List Int} {r d : Int} {m q : Nat} (hm : 1 ≤ m) (hq : 1 ≤ q) (hL : l.length = m * q) (hr : r = d * q) (p : Per (extL l r) m d) : slOk l r m ∧ r / ((l.length : Int) / m) = d := by
  have hqL : (l.length : Int) / m = q := by
    rw [hL, Int.natCast_mul, Int.mul_ediv_cancel_left _ (by omega)]
  have hrq : r / (q : Int) = d := by rw [hr, Int.mul_ediv_cancel _ (by omega)]
  refine ⟨⟨by rw [hL, Int.natCast_mul, Int.mul_emod_right], by rw [hqL, hr, Int.mul_emod_left], fun i hi => ?_⟩, by rw [hqL, hrq]⟩
  rw [hqL, hrq]
  have := p i
  rw [extL_small (by omega), ← Int.natCast_add, extL_small hi] at this
  exact this
theorem per_dvd {g : Int → Int} {s L : Nat} {d r : Int} (hs : 1 ≤ s) (p : Per g s d) (hmin : ∀ t, 1 ≤ t → t < s → ∀ d, ¬ Per g t d) (P : Per g L r) : L = s * (L / s) ∧ r = d * ((L / s : Nat) : Int) := by
  have e : s * (L / s) + L % s = L := Nat.div_add_mod ..
  have hlt := Nat.mod_lt L hs
  have hz : L % s = 0 := by
    rcases Nat.eq_zero_or_pos (L % s) with h | h
    · exact h
    · refine (hmin _ h hlt (r - d * ((L / s : Nat) : Int)) fun i => ?_).elim
      have h1 := P i
      have h2 := p.mulN (L / s) (i + ((L % s : Nat) : Int))
      rw [show i + ((L % s : Nat) : Int) + (s : Int) * ((L / s : Nat) : Int) = i + L by
        rw [← Int.natCast_mul]; omega] at h2
      omega
  refine ⟨by omega, ?_⟩
  have h1 := P 0
  have h2 := p.mulN (L / s) 0
  rw [show (0 : Int) + (s : Int) * ((L / s : Nat) : Int) = 0 + L by rw [← Int.natCast_mul]; omega] at h2
  omega
theorem least_nat {p : Nat → Prop} {n : Nat} (h : p n) : ∃ m, m ≤ n ∧ p m ∧ ∀ j, j < m → ¬ p j := by
  induction n using Nat.strongRecOn with
  | _ n ih =>
    by_cases q : ∃ j, j < n ∧ p j
    · obtain ⟨j, h1, h2⟩ := q
      obtain ⟨m, h3, h4⟩ := ih j h1 h2
      exact ⟨m, by omega, h4⟩
    · exact ⟨n, Nat.le_refl _, h, fun j h1 h2 => q ⟨j, h1, h2⟩⟩
theorem shortLoop_char {l : List Int} {r : Int} (hl : l ≠ []) : ∃ s : Nat, 1 ≤ s ∧ s ≤ l.length ∧ shortLoop l r = (l.take s, extL l r s - extL l r 0) ∧ Per (extL l r) s (extL l r s - extL l r 0) ∧ ∀ t, 1 ≤ t → t < s → ∀ d, ¬ Per (extL l r) t d := by
  have h0 : 0 < l.length := List.length_pos_iff.mpr hl
  have P := extL_per (r := r) hl
  obtain ⟨s, hs, ⟨hs1, d, p⟩, hmin⟩ := least_nat (p := fun s => 1 ≤ s ∧ ∃ d, Per (extL l r) s d) (n := l.length) ⟨h0, r, P⟩
  have hmin' : ∀ t, 1 ≤ t → t < s → ∀ d, ¬ Per (extL l r) t d := fun t h1 h2 d h => hmin t h2 ⟨h1, d, h⟩
  refine ⟨s, hs1, hs, ?_, by rw [p.val]; exact p, hmin'⟩
  rw [p.val]
  have hno : ∀ j, 1 ≤ j → j < s → ¬ slOk l r j := fun j h1 h2 h => hmin' j h1 h2 _ (slOk_per hl h1 h)
  obtain ⟨e1, e2⟩ := per_dvd hs1 p hmin' P
  have hq : 1 ≤ l.length / s := Nat.div_pos hs hs1
  obtain ⟨o1, o2⟩ := per_slOk hs1 hq e1 e2 p
  by_cases c : s < l.length
  · rw [shortLoop_some hs1 c o1 hno, o2]
  · obtain rfl : s = l.length := by omega
    rw [shortLoop_none hno, List.take_length, ← p.val, P.val]
theorem gI_take {l : List Int} {s k : Nat} (h : k < s) : gI (l.take s) k = gI l k := by
  unfold gI
  rw [Int.toNat_natCast, List.getD_eq_getElem?_getD, List.getD_eq_getElem?_getD, List.getElem?_take_of_lt h]
theorem extL_take {l : List Int} {r d : Int} {s : Nat} (h1 : 1 ≤ s) (hs : s ≤ l.length) (p : Per (extL l r) s d) (i : Int) : extL (l.take s) d i = extL l r i := by
  have hl : (l.take s).length = s := by rw [List.length_take]; omega
  have P := extL_per (l := l.take s) (r := d) (by intro e; rw [e] at hl; simp at hl; omega)
  rw [hl] at P
  refine P.ext h1 p (fun k hk => ?_) i
  rw [extL_small (by omega), extL_small (by omega), gI_take hk]
theorem cutH_eq {h l : List Int} {r : Int} : ∀ k, ∀ j, cutH h l r k ≤ j → j < k → gI h j = bkV l r ((h.length : Int) - (j + 1))
  | 0, j, _, h2 => by omega
  | k + 1, j, h1, h2 => by
    unfold cutH at h1
    split at h1
    · rename_i c
      by_cases e : j = k
      · subst e; exact c
      · exact cutH_eq k j h1 (by omega)
    · omega
theorem cutH_ne {h l : List Int} {r : Int} : ∀ k c, cutH h l r k = c + 1 → gI h c ≠ bkV l r ((h.length : Int) - (c + 1))
  | 0, c, e => by simp [cutH] at e
  | k + 1, c, e => by
    unfold cutH at e
    split at e
    · exact cutH_ne k c e
    · rename_i q
      obtain rfl : k = c := by omega
      exact q

/-- the least period and the least head, from the values alone -/
structure PFat (f : Nat → Int) (g : Int → Int) (c s : Nat) (pf : List Int × List Int × Int) : Prop where
  s1 : 1 ≤ s
  per : Per g s (g s - g 0)
  min : ∀ t, 1 ≤ t → t < s → ∀ d, ¬ Per g t d
  eq : ∀ j : Nat, c ≤ j → f j = g j
  ne : ∀ c', c = c' + 1 → f c' ≠ g c'
  pf : pf = ((List.range c).map f, (List.range s).map fun i : Nat => g ((c + i : Nat) : Int), g s - g 0)
theorem PFat.uniq {f : Nat → Int} {g : Int → Int} {c s c' s' : Nat} {p q : List Int × List Int × Int} (a : PFat f g c s p) (b : PFat f g c' s' q) : p = q := by
  have e1 : s = s' := by
    rcases Nat.lt_trichotomy s s' with h | h | h
    · exact (b.min _ a.s1 h _ a.per).elim
    · exact h
    · exact (a.min _ b.s1 h _ b.per).elim
  have key : ∀ {c c' s s' : Nat} {p q : List Int × List Int × Int}, PFat f g c s p → PFat f g c' s' q → ¬ c < c' := fun {c c' s s' p q} a b h => by
    obtain ⟨m, rfl⟩ : ∃ m, c' = m + 1 := ⟨c' - 1, by omega⟩
    exact b.ne m rfl (a.eq m (by omega))
  have e2 : c = c' := by have := key a b; have := key b a; omega
  rw [a.pf, b.pf, e1, e2]
theorem gI_map_range {f : Nat → Int} {n k : Nat} (h : k < n) : gI ((List.range n).map f) k = f k := by
  unfold gI
  rw [Int.toNat_natCast, List.getD_eq_getElem?_getD, List.getElem?_map, List.getElem?_range h]
  rfl
theorem ext_gI {a b : List Int} (hl : a.length = b.length) (h : ∀ k : Nat, k < a.length → gI a k = gI b k) : a = b := by
  refine List.ext_getElem hl fun k h1 h2 => ?_
  have := h k h1
  unfold gI at this
  rw [Int.toNat_natCast, List.getD_eq_getElem?_getD, List.getD_eq_getElem?_getD, List.getElem?_eq_getElem h1, List.getElem?_eq_getElem h2] at this
  exact this
theorem plainF_at {h l : List Int} {r : Int} (hl : l ≠ []) : ∃ c s, c ≤ h.length ∧ s ≤ l.length ∧ PFat (fV h l r) (fun i => extL l r (i - h.length)) c s (plainF h l r) := by
  obtain ⟨s, h1, h2, e, p, hmin⟩ := shortLoop_char (r := r) hl
  have hs : (l.take s).length = s := by rw [List.length_take]; omega
  have hls : l.take s ≠ [] := fun e => by rw [e] at hs; simp at hs; omega
  have E := extL_take h1 h2 p
  have pv : ∀ m : Int, extL l r (s - m) - extL l r (0 - m) = extL l r s - extL l r 0 := fun m => by
    have q1 := p (0 - m)
    rw [show (0 : Int) - m + s = s - m by omega] at q1
    omega
  refine ⟨cutH h (l.take s) (extL l r s - extL l r 0) h.length, s, cutH_le _ _ _ _, h2, h1, ?_, ?_, fun j hj => ?_, fun c' hc => ?_, ?_⟩
  · show Per _ _ (extL l r (s - h.length) - extL l r (0 - h.length))
    rw [pv]
    intro i
    have := p (i - h.length)
    rwa [show i - (h.length : Int) + s = i + s - h.length by omega] at this
  · intro t t1 t2 d q
    refine hmin t t1 t2 d (Per.unshift (-(h.length : Int)) ?_)
    intro i
    have := q i
    simp only [Int.sub_eq_add_neg] at this ⊢
    exact this
  · by_cases c : j < h.length
    · rw [fV_head c, cutH_eq _ j hj c, bkV_ext hls, E]
      congr 1
      omega
    · exact fV_loop (by omega)
  · have hle := cutH_le h (l.take s) (extL l r s - extL l r 0) h.length
    have := cutH_ne _ c' hc
    rw [bkV_ext hls, E] at this
    rw [fV_head (by omega)]
    intro q
    refine this (q.trans ?_)
    congr 1
    omega
  · unfold plainF
    rw [if_neg hl, e]
    dsimp only
    have hle := cutH_le h (l.take s) (extL l r s - extL l r 0) h.length
    generalize hcd : cutH h (l.take s) (extL l r s - extL l r 0) h.length = c at *
    have hc1 : ∀ j, c ≤ j → j < h.length → gI h j = extL l r ((j : Int) - h.length) := fun j a b => by
      have := cutH_eq h.length j (by rw [hcd]; exact a) b
      rw [this, bkV_ext hls, E]
      congr 1
      omega
    rw [pv, hs]
    refine congr (congrArg _ ?_) (congr (congrArg _ ?_) rfl)
    · refine ext_gI (by rw [List.length_take, List.length_map, List.length_range]; omega) fun k hk => ?_
      rw [List.length_take] at hk
      rw [gI_take (by omega), gI_map_range (by omega), fV_head (by omega)]
    · refine List.map_congr_left fun i _ => ?_
      rw [show (c : Int) + 1 + i = ((c + i : Nat) : Int) + 1 by omega, vat_fV hls]
      show fV h (l.take s) _ (c + i) = _
      by_cases q : c + i < h.length
      · rw [fV_head q, hc1 _ (by omega) q]
      · rw [fV_loop (by omega), E]

theorem gI_append {a b : List Int} {k : Nat} : gI (a ++ b) k = if k < a.length then gI a k else gI b ((k - a.length : Nat) : Int) := by
  unfold gI
  rw [Int.toNat_natCast, Int.toNat_natCast, List.getD_eq_getElem?_getD, List.getD_eq_getElem?_getD, List.getD_eq_getElem?_getD]
  split
  · rename_i h
    rw [List.getElem?_append_left h]
  · rename_i h
    rw [List.getElem?_append_right (by omega)]
theorem gI_drop {a : List Int} {m k : Nat} : gI (a.drop m) k = gI a ((m + k : Nat) : Int) := by
  unfold gI
  rw [Int.toNat_natCast, Int.toNat_natCast, List.getD_eq_getElem?_getD, List.getD_eq_getElem?_getD, List.getElem?_drop]
theorem lcut_cutH {h l' : List Int} {r' : Int} {row : List Int} {s : Nat} (hs : 1 ≤ s) (hl : l' ≠ []) (hp : Per (extL l' r') s r')
    (h1 : ∀ k : Nat, k < h.length → gI row k = gI h k) (h2 : ∀ k : Nat, k < s → gI row ((h.length + k : Nat) : Int) = extL l' r' k) :
    ∀ k, k ≤ h.length → (∀ j : Nat, k ≤ j → j < h.length → gI h j = extL l' r' ((j : Int) - h.length)) → lcut row s r' (k + s) = cutH h l' r' k + s
  | 0, _, _ => by
    obtain ⟨s, rfl⟩ : ∃ t, s = t + 1 := ⟨s - 1, by omega⟩
    rw [Nat.zero_add]
    unfold lcut cutH
    rw [if_neg (by omega), Nat.zero_add]
  | k + 1, hk, hj => by
    have hkk : gI row ((k + s : Nat) : Int) = extL l' r' ((k : Int) - h.length) + r' := by
      have := hp ((k : Int) - h.length)
      rw [← this]
      by_cases c : k + s < h.length
      · rw [h1 _ c, hj _ (by omega) c]
        congr 1
        omega
      · have := h2 (k + s - h.length) (by omega)
        rw [show h.length + (k + s - h.length) = k + s by omega] at this
        rw [this]
        congr 1
        omega
    have e1 : gI row (((k + s : Nat) : Int) - s) = gI h k := by
      rw [show ((k + s : Nat) : Int) - s = (k : Int) by omega, h1 k (by omega)]
    have e2 : bkV l' r' ((h.length : Int) - (k + 1)) = extL l' r' ((k : Int) - h.length) := by
      rw [bkV_ext hl]
      congr 1
      omega
    rw [show k + 1 + s = (k + s) + 1 by omega]
    unfold lcut cutH
    rw [e1, hkk, e2]
    by_cases c : gI h k = extL l' r' ((k : Int) - h.length)
    · rw [if_pos ⟨by omega, by omega⟩, if_pos c]
      refine lcut_cutH hs hl hp h1 h2 k (by omega) fun j a b => ?_
      by_cases q : j = k
      · subst q; exact c
      · exact hj j (by omega) b
    · rw [if_neg (fun q => c (by omega)), if_neg c]
      omega
theorem lawF_eq (h l : List Int) (r : Int) : lawF h l r = plainF h l r := by
  by_cases hl : l = []
  · unfold lawF plainF
    rw [if_pos hl, if_pos hl]
  obtain ⟨s, h1, h2, e, p, hmin⟩ := shortLoop_char (r := r) hl
  have hs : (l.take s).length = s := by rw [List.length_take]; omega
  have hls : l.take s ≠ [] := fun e => by rw [e] at hs; simp at hs; omega
  have E := extL_take h1 h2 p
  have p' : Per (extL (l.take s) (extL l r s - extL l r 0)) s (extL l r s - extL l r 0) := fun i => by rw [E, E, p]
  unfold lawF plainF
  rw [if_neg hl, if_neg hl, e]
  dsimp only
  rw [hs, List.length_append, hs]
  have r1 : ∀ k : Nat, k < h.length → gI (h ++ l.take s) k = gI h k := fun k hk => by rw [gI_append, if_pos hk]
  have r2 : ∀ k : Nat, k < s → gI (h ++ l.take s) ((h.length + k : Nat) : Int) = extL (l.take s) (extL l r s - extL l r 0) k := fun k hk => by
    rw [gI_append, if_neg (by omega), show h.length + k - h.length = k by omega, extL_small (by omega)]
  have e3 := lcut_cutH h1 hls p' r1 r2 h.length (Nat.le_refl _) (fun j a b => by omega)
  have hle := cutH_le h (l.take s) (extL l r s - extL l r 0) h.length
  rw [e3, Nat.add_sub_cancel]
  have hc1 := fun j (a : cutH h (l.take s) (extL l r s - extL l r 0) h.length ≤ j) (b : j < h.length) => cutH_eq h.length j a b
  generalize cutH h (l.take s) (extL l r s - extL l r 0) h.length = c at *
  refine congr (congrArg _ ?_) (congr (congrArg _ ?_) rfl)
  · rw [List.take_append_of_le_length hle]
  · refine ext_gI (by rw [List.length_take, List.length_drop, List.length_append, hs, List.length_map, List.length_range]; omega) fun k hk => ?_
    rw [List.length_take, List.length_drop, List.length_append, hs] at hk
    have hk : k < s := by omega
    rw [gI_take hk, gI_drop, gI_map_range (f := fun i : Nat => (vat h (l.take s) (extL l r s - extL l r 0) ((c : Int) + 1 + i)).getD 0) hk, show (c : Int) + 1 + k = ((c + k : Nat) : Int) + 1 by omega, vat_fV hls]
    show _ = fV h (l.take s) _ (c + k)
    by_cases q : c + k < h.length
    · rw [r1 _ q, fV_head q]
    · have := r2 (c + k - h.length) (by omega)
      rw [show h.length + (c + k - h.length) = c + k by omega] at this
      rw [this, fV_loop (by omega)]
      congr 1
      omega
theorem gI_nn {a : List Int} (h : allPos a) (i : Int) : 0 ≤ gI a i := by
  unfold gI
  rw [List.getD_eq_getElem?_getD]
  by_cases c : i.toNat < a.length
  · rw [List.getElem?_eq_getElem c]
    exact h _ (List.getElem_mem _)
  · rw [List.getElem?_eq_none (by omega)]
    exact Int.le_refl _
theorem extL_nn {l : List Int} {r i : Int} (h : allPos l) (hr : 0 ≤ r) (hi : 0 ≤ i) : 0 ≤ extL l r i :=
  Int.add_nonneg (gI_nn h _) (Int.mul_nonneg hr (Int.ediv_nonneg hi (by omega)))
theorem fV_nn {h l : List Int} {r : Int} (V : Val h l r) (j : Nat) : 0 ≤ fV h l r j := by
  unfold fV
  split
  · exact gI_nn V.p1 _
  · exact extL_nn V.p2 V.r0 (by omega)
theorem extL_up {h l : List Int} {r : Int} (V : Val h l r) (hl : l ≠ []) (i : Int) : extL l r i ≤ extL l r (i + 1) := by
  have h0 : 0 < l.length := List.length_pos_iff.mpr hl
  have P := extL_per (r := r) hl
  have e : i % l.length + l.length * (i / l.length) = i := Int.emod_add_mul_ediv ..
  have g0 := Int.emod_nonneg i (show (l.length : Int) ≠ 0 by omega)
  have g1 := Int.emod_lt_of_pos i (show (0 : Int) < l.length by omega)
  obtain ⟨t, ht⟩ := Int.eq_ofNat_of_zero_le g0
  rw [ht] at e g1
  generalize i / l.length = z at e
  subst e
  rw [show (t : Int) + l.length * z + 1 = ((t + 1 : Nat) : Int) + l.length * z by omega, P.mul, P.mul, extL_small (k := t) (by omega)]
  by_cases c : t + 1 < l.length
  · rw [extL_small c]
    have := V.r2 t c
    rw [show ((t + 1 : Nat) : Int) = (t : Int) + 1 by omega]
    omega
  · have := V.ll hl
    have q := P 0
    have q0 := extL_small (r := r) (l := l) (k := 0) h0
    rw [Int.zero_add] at q
    rw [show (l.length : Int) - 1 = t by omega] at this
    rw [show t + 1 = l.length by omega, q, show (0 : Int) = ((0 : Nat) : Int) from rfl, q0]
    show gI l t + r * z ≤ gI l 0 + r + r * z
    omega
theorem fV_up {h l : List Int} {r : Int} (V : Val h l r) (hl : l ≠ []) (j : Nat) : fV h l r j ≤ fV h l r (j + 1) := by
  by_cases c : j + 1 < h.length
  · rw [fV_head c, fV_head (by omega)]
    exact V.r1 j c
  · by_cases d : j < h.length
    · rw [fV_head d, fV_loop (by omega)]
      have := V.hl (by intro e; rw [e] at d; simp at d) hl
      rw [show ((j + 1 : Nat) : Int) - h.length = ((0 : Nat) : Int) by omega, extL_small (List.length_pos_iff.mpr hl)]
      rw [show (h.length : Int) - 1 = j by omega] at this
      exact this
    · rw [fV_loop (by omega), fV_loop (by omega)]
      have := extL_up V hl ((j : Int) - h.length)
      rwa [show (j : Int) - h.length + 1 = ((j + 1 : Nat) : Int) - h.length by omega] at this
theorem tell_gI {f : Nat → Int} {n cut k : Nat} (h : cut + k < n) : gI (((List.range n).map f).drop cut) k = f (cut + k) := by
  rw [gI_drop, gI_map_range h]
theorem tell_gT {f : Nat → Int} {n cut k : Nat} (h : k < cut) (h2 : k < n) : gI (((List.range n).map f).take cut) k = f k := by
  rw [gI_take h, gI_map_range h2]
theorem tell_plain {h l : List Int} {r : Int} (hl : l ≠ []) (more turns : Nat) (ht : 1 ≤ turns) :
    plainF (((List.range (h.length + more + l.length * turns)).map (fV h l r)).take (h.length + more)) (((List.range (h.length + more + l.length * turns)).map (fV h l r)).drop (h.length + more)) (r * turns) = plainF h l r := by
  have h0 : 0 < l.length := List.length_pos_iff.mpr hl
  have hL : 0 < l.length * turns := Nat.mul_pos h0 ht
  have e1 : (((List.range (h.length + more + l.length * turns)).map (fV h l r)).take (h.length + more)).length = h.length + more := by
    rw [List.length_take, List.length_map, List.length_range]; omega
  have e2 : (((List.range (h.length + more + l.length * turns)).map (fV h l r)).drop (h.length + more)).length = l.length * turns := by
    rw [List.length_drop, List.length_map, List.length_range]; omega
  have g1 : ∀ k, k < h.length + more → gI (((List.range (h.length + more + l.length * turns)).map (fV h l r)).take (h.length + more)) k = fV h l r k := fun k hk => tell_gT hk (by omega)
  have g2 : ∀ k, k < l.length * turns → gI (((List.range (h.length + more + l.length * turns)).map (fV h l r)).drop (h.length + more)) k = fV h l r (h.length + more + k) := fun k hk => tell_gI (by omega)
  generalize ((List.range (h.length + more + l.length * turns)).map (fV h l r)).take (h.length + more) = h2 at *
  generalize ((List.range (h.length + more + l.length * turns)).map (fV h l r)).drop (h.length + more) = l2 at *
  have hl2 : l2 ≠ [] := fun e => by rw [e] at e2; simp at e2; omega
  have P2 := extL_per (r := r * turns) hl2
  have P1 : Per (fun i => extL l r (i + more)) l2.length (r * turns) := Per.shift (fun i => by
    rw [e2, Int.natCast_mul, (extL_per hl).mulN]) more
  have ee := P2.ext (by omega) P1 fun k hk => by
    rw [extL_small hk, g2 k (by omega), fV_loop (by omega)]
    congr 1
    omega
  have fe : fV h2 l2 (r * turns) = fV h l r := funext fun j => by
    by_cases c : j < h2.length
    · rw [fV_head c, g1 j (by omega)]
    · rw [fV_loop (by omega), ee, fV_loop (by omega), e1]
      congr 1
      omega
  have ge : (fun i : Int => extL l2 (r * turns) (i - h2.length)) = fun i => extL l r (i - h.length) := funext fun i => by
    rw [ee, e1]
    congr 1
    omega
  obtain ⟨c, s, _, _, A⟩ := plainF_at (h := h) (r := r) hl
  obtain ⟨c2, s2, _, _, B⟩ := plainF_at (h := h2) (r := r * turns) hl2
  rw [fe, ge] at B
  exact B.uniq A
theorem tell_val {h l : List Int} {r : Int} (V : Val h l r) (hl : l ≠ []) (more turns : Nat) (ht : 1 ≤ turns) (z1 : h.length + more ≤ 50000) (z2 : l.length * turns ≤ 50000) (z3 : r * turns < 1152921504606846976) :
    Val (((List.range (h.length + more + l.length * turns)).map (fV h l r)).take (h.length + more)) (((List.range (h.length + more + l.length * turns)).map (fV h l r)).drop (h.length + more)) (r * turns) := by
  have h0 : 0 < l.length := List.length_pos_iff.mpr hl
  have hL : 0 < l.length * turns := Nat.mul_pos h0 ht
  have e1 : (((List.range (h.length + more + l.length * turns)).map (fV h l r)).take (h.length + more)).length = h.length + more := by
    rw [List.length_take, List.length_map, List.length_range]; omega
  have e2 : (((List.range (h.length + more + l.length * turns)).map (fV h l r)).drop (h.length + more)).length = l.length * turns := by
    rw [List.length_drop, List.length_map, List.length_range]; omega
  have g1 : ∀ k, k < h.length + more → gI (((List.range (h.length + more + l.length * turns)).map (fV h l r)).take (h.length + more)) k = fV h l r k := fun k hk => tell_gT hk (by omega)
  have g2 : ∀ k, k < l.length * turns → gI (((List.range (h.length + more + l.length * turns)).map (fV h l r)).drop (h.length + more)) k = fV h l r (h.length + more + k) := fun k hk => tell_gI (by omega)
  have ps : ∀ n ∈ (List.range (h.length + more + l.length * turns)).map (fV h l r), 0 ≤ n := fun n hn => by
    obtain ⟨k, _, rfl⟩ := List.mem_map.mp hn
    exact fV_nn V k
  have p1 : allPos (((List.range (h.length + more + l.length * turns)).map (fV h l r)).take (h.length + more)) := fun n hn => ps n (List.mem_of_mem_take hn)
  have p2 : allPos (((List.range (h.length + more + l.length * turns)).map (fV h l r)).drop (h.length + more)) := fun n hn => ps n (List.mem_of_mem_drop hn)
  generalize ((List.range (h.length + more + l.length * turns)).map (fV h l r)).take (h.length + more) = h2 at *
  generalize ((List.range (h.length + more + l.length * turns)).map (fV h l r)).drop (h.length + more) = l2 at *
  have up := fV_up V hl
  have rt : 0 ≤ r * turns := Int.mul_nonneg V.r0 (by omega)
  refine ⟨p1, p2, fun i hi => ?_, fun i hi => ?_, rt, fun e => ?_, fun hne _ => ?_, fun _ => ?_, ⟨by omega, z3, by omega, by omega⟩⟩
  · rw [g1 i (by omega), show (i : Int) + 1 = ((i + 1 : Nat) : Int) by omega, g1 (i + 1) (by omega)]
    exact up i
  · rw [g2 i (by omega), show (i : Int) + 1 = ((i + 1 : Nat) : Int) by omega, g2 (i + 1) (by omega)]
    exact up (h.length + more + i)
  · rw [e] at e2; simp at e2; omega
  · have hp : 0 < h2.length := List.length_pos_iff.mpr hne
    rw [e1, show ((h.length + more : Nat) : Int) - 1 = ((h.length + more - 1 : Nat) : Int) by omega, g1 _ (by omega)]
    have := g2 0 hL
    rw [show (0 : Int) = ((0 : Nat) : Int) from rfl, this]
    have := up (h.length + more - 1)
    rwa [show h.length + more - 1 + 1 = h.length + more + 0 by omega] at this
  · rw [e2, show ((l.length * turns : Nat) : Int) - 1 = ((l.length * turns - 1 : Nat) : Int) by omega, g2 _ (by omega)]
    have q := g2 0 hL
    rw [show (0 : Int) = ((0 : Nat) : Int) from rfl, q]
    have u := up (h.length + more + (l.length * turns - 1))
    have P := (extL_per (r := r) hl).mulN turns ((more : Nat) : Int)
    rw [fV_loop (j := h.length + more + (l.length * turns - 1) + 1) (by omega)] at u
    rw [fV_loop (j := h.length + more + 0) (by omega), show (((h.length + more + 0 : Nat) : Int) - h.length) = more by omega, ← P]
    refine Int.le_trans u (Int.le_of_eq ?_)
    congr 1
    rw [← Int.natCast_mul]
    omega
/-- the plain form's parts are small and no less than 0 -/
theorem plainF_ok {h l : List Int} {r : Int} (V : Val h l r) : allPos (plainF h l r).1 ∧ allPos (plainF h l r).2.1 ∧ 0 ≤ (plainF h l r).2.2 ∧ (plainF h l r).2.2 ≤ r ∧ (plainF h l r).1.length ≤ h.length ∧ (plainF h l r).2.1.length ≤ l.length := by
  by_cases hl : l = []
  · unfold plainF
    rw [if_pos hl]
    exact ⟨V.p1, fun n hn => by simp at hn, Int.le_refl _, V.r0, Nat.le_refl _, Nat.zero_le _⟩
  · obtain ⟨q1, q2⟩ := shortLoop_len l r
    obtain ⟨q3, q4⟩ := shortLoop_rise (l := l) V.r0
    have q5 := q2 hl
    have pl : allPos (shortLoop l r).1 := by
      rcases shortLoop_cases l r with e | ⟨m, _, _, _, e⟩
      · rw [e]; exact V.p2
      · rw [e]; exact fun n hn => V.p2 n (List.mem_of_mem_take hn)
    unfold plainF
    rw [if_neg hl]
    refine ⟨fun n hn => V.p1 n (List.mem_of_mem_take hn), fun n hn => ?_, q3, q4, by show (h.take _).length ≤ _; rw [List.length_take]; omega, by show (List.map _ _).length ≤ _; rw [List.length_map, List.length_range]; exact q1⟩
    obtain ⟨i, _, rfl⟩ := List.mem_map.mp hn
    generalize cutH h (shortLoop l r).1 (shortLoop l r).2 h.length = c
    show 0 ≤ (vat h _ _ ((c : Int) + 1 + i)).getD 0
    rw [show (c : Int) + 1 + i = ((c + i : Nat) : Int) + 1 by omega, vat_fV q5]
    show 0 ≤ fV h _ _ (c + i)
    unfold fV
    split
    · exact gI_nn V.p1 _
    · exact extL_nn pl q3 (by omega)

/-- two tables with the same values have one plain form -/
theorem plain_ext {h l h' l' : List Int} {r r' : Int} (hl : l ≠ []) (hl' : l' ≠ []) (e : ∀ j, fV h l r j = fV h' l' r' j) : plainF h l r = plainF h' l' r' := by
  have l0 : 0 < l.length := List.length_pos_iff.mpr hl
  have l1 : 0 < l'.length := List.length_pos_iff.mpr hl'
  have P := (extL_per (r := r) hl)
  have P' := (extL_per (r := r') hl')
  have fe : fV h l r = fV h' l' r' := funext e
  have big : ∀ j : Nat, h.length ≤ j → h'.length ≤ j → extL l r ((j : Int) - h.length) = extL l' r' ((j : Int) - h'.length) := fun j a b => by
    rw [← fV_loop a, ← fV_loop b, e]
  have Q : Per (fun i => extL l r (i - h.length)) (l.length * l'.length) (r * l'.length) := fun i => by
    show extL l r (i + ((l.length * l'.length : Nat) : Int) - h.length) = extL l r (i - h.length) + _
    rw [← P.mulN, Int.natCast_mul]
    congr 1
    omega
  have Q' : Per (fun i => extL l' r' (i - h'.length)) (l.length * l'.length) (r' * l.length) := fun i => by
    show extL l' r' (i + ((l.length * l'.length : Nat) : Int) - h'.length) = extL l' r' (i - h'.length) + _
    rw [← P'.mulN, Int.natCast_mul, Int.mul_comm (l.length : Int)]
    congr 1
    omega
  generalize hM : h.length + h'.length = M at *
  have sl : r * l'.length = r' * l.length := by
    have a := Q M
    have b := Q' M
    have c := big M (by omega) (by omega)
    have d := big (M + l.length * l'.length) (by omega) (by omega)
    simp only at a b
    rw [Int.natCast_add] at d
    omega
  rw [← sl] at Q'
  have ge : (fun i : Int => extL l r (i - h.length)) = fun i => extL l' r' (i - h'.length) := by
    have key := (Q.shift M).ext (Nat.mul_pos l0 l1) (Q'.shift M) fun k _ => by
      have := big (k + M) (by omega) (by omega)
      rw [Int.natCast_add] at this
      exact this
    refine funext fun i => ?_
    have this : extL l r (i - M + M - h.length) = extL l' r' (i - M + M - h'.length) := key (i - M)
    rwa [show i - (M : Int) + M = i by omega] at this
  obtain ⟨c, s, _, _, A⟩ := plainF_at (h := h) (r := r) hl
  obtain ⟨c2, s2, _, _, B⟩ := plainF_at (h := h') (r := r') hl'
  rw [← fe, ← ge] at B
  exact A.uniq B
/-- a row of numbers that goes on evenly makes a table -/
theorem val_of {f : Nat → Int} {xs : List Int} {c s : Nat} {d : Int} (h0 : ∀ j, 0 ≤ f j) (up : ∀ j, f j ≤ f (j + 1)) (hs : 1 ≤ s) (per : ∀ j, c ≤ j → f (j + s) = f j + d)
    (hx : xs.length = c + s) (hf : ∀ k : Nat, k < c + s → gI xs k = f k) (zc : c ≤ 50000) (zs : s ≤ 50000) (zd : d < 1152921504606846976) :
    Val (xs.take c) (xs.drop c) d ∧ xs.drop c ≠ [] ∧ ∀ j, fV (xs.take c) (xs.drop c) d j = f j := by
  have e1 : (xs.take c).length = c := by rw [List.length_take]; omega
  have e2 : (xs.drop c).length = s := by rw [List.length_drop]; omega
  have g1 : ∀ k : Nat, k < c → gI (xs.take c) k = f k := fun k hk => by rw [gI_take hk, hf k (by omega)]
  have g2 : ∀ k : Nat, k < s → gI (xs.drop c) k = f (c + k) := fun k hk => by rw [gI_drop, hf _ (by omega)]
  have ps : ∀ n ∈ xs, 0 ≤ n := fun n hn => by
    obtain ⟨k, hk, rfl⟩ := List.getElem_of_mem hn
    have := hf k (by omega)
    unfold gI at this
    rw [Int.toNat_natCast, List.getD_eq_getElem?_getD, List.getElem?_eq_getElem hk] at this
    have e : xs[k] = f k := this
    rw [e]
    exact h0 k
  have p1 : allPos (xs.take c) := fun n hn => ps n (List.mem_of_mem_take hn)
  have p2 : allPos (xs.drop c) := fun n hn => ps n (List.mem_of_mem_drop hn)
  generalize xs.take c = h at *
  generalize xs.drop c = l at *
  have hl : l ≠ [] := fun e => by rw [e] at e2; simp at e2; omega
  have d0 : 0 ≤ d := by
    have a := per c (Nat.le_refl _)
    have mono : ∀ k, f c ≤ f (c + k) := fun k => by
      induction k with
      | zero => exact Int.le_refl _
      | succ k ih => exact Int.le_trans ih (up (c + k))
    have := mono s
    omega
  refine ⟨⟨p1, p2, fun i hi => ?_, fun i hi => ?_, d0, fun e => absurd e hl, fun hne _ => ?_, fun _ => ?_, ⟨by omega, zd, by omega, by omega⟩⟩, hl, fun j => ?_⟩
  · rw [g1 i (by omega), show (i : Int) + 1 = ((i + 1 : Nat) : Int) by omega, g1 (i + 1) (by omega)]
    exact up i
  · rw [g2 i (by omega), show (i : Int) + 1 = ((i + 1 : Nat) : Int) by omega, g2 (i + 1) (by omega)]
    exact up (c + i)
  · have hp : 0 < h.length := List.length_pos_iff.mpr hne
    rw [e1, show (c : Int) - 1 = ((c - 1 : Nat) : Int) by omega, g1 _ (by omega)]
    have q := g2 0 hs
    rw [show (0 : Int) = ((0 : Nat) : Int) from rfl, q]
    have := up (c - 1)
    rwa [show c - 1 + 1 = c + 0 by omega] at this
  · rw [e2, show (s : Int) - 1 = ((s - 1 : Nat) : Int) by omega, g2 _ (by omega)]
    have q := g2 0 hs
    rw [show (0 : Int) = ((0 : Nat) : Int) from rfl, q]
    have u := up (c + (s - 1))
    rw [show c + (s - 1) + 1 = c + 0 + s by omega, per (c + 0) (by omega)] at u
    exact u
  · by_cases hj : j < c
    · rw [fV_head (by omega), g1 j hj]
    · rw [fV_loop (by omega), e1]
      have pn : ∀ z k, f (c + k + s * z) = f (c + k) + d * z := fun z k => by
        induction z with
        | zero => simp
        | succ z ih =>
          rw [Nat.mul_succ, show c + k + (s * z + s) = (c + k + s * z) + s by omega, per _ (by omega), ih, Int.natCast_add, Int.mul_add]
          omega
      have P := (extL_per (r := d) hl).mulN ((j - c) / s) ((((j - c) % s : Nat)) : Int)
      have hm : (j - c) % s + s * ((j - c) / s) = j - c := Nat.mod_add_div ..
      have hlt : (j - c) % s < s := Nat.mod_lt _ hs
      rw [e2, extL_small (by omega), g2 _ hlt, ← Int.natCast_mul, ← Int.natCast_add, hm] at P
      rw [show (j : Int) - c = ((j - c : Nat) : Int) by omega, P, ← pn]
      congr 1
      omega
/-- the value behind j others, or none -/
def TV (h l : List Int) (r : Int) (j : Nat) : Option Int := if l = [] then h[j]? else some (fV h l r j)
theorem gI_get {h : List Int} {j : Nat} (c : j < h.length) : h[j]? = some (gI h j) := by
  unfold gI
  rw [Int.toNat_natCast, List.getD_eq_getElem?_getD, List.getElem?_eq_getElem c]
  rfl
theorem vat_TV {h l : List Int} {r : Int} (j : Nat) : vat h l r ((j : Int) + 1) = TV h l r j := by
  unfold TV
  by_cases hl : l = []
  · subst hl
    rw [if_pos rfl]
    unfold vat
    rw [if_neg (by omega)]
    by_cases c : j < h.length
    · rw [if_pos (by omega), gI_get c, show (j : Int) + 1 - 1 = j by omega]
    · rw [if_neg (by omega), if_pos rfl, List.getElem?_eq_none (by omega)]
  · rw [if_neg hl, vat_fV hl]
theorem plainF_nil {h : List Int} {r : Int} : plainF h [] r = (h, [], 0) := by
  unfold plainF
  rw [if_pos rfl]
/-- the plain form is a table with the same values, and stays -/
theorem plainF_val {h l : List Int} {r : Int} (V : Val h l r) : Val (plainF h l r).1 (plainF h l r).2.1 (plainF h l r).2.2 ∧ (∀ j, TV (plainF h l r).1 (plainF h l r).2.1 (plainF h l r).2.2 j = TV h l r j) ∧
    plainF (plainF h l r).1 (plainF h l r).2.1 (plainF h l r).2.2 = plainF h l r ∧ (plainF h l r).1.length ≤ h.length ∧
    (l ≠ [] → (plainF h l r).2.1 ≠ [] ∧ ∃ q : Nat, l.length = (plainF h l r).2.1.length * q ∧ r = (plainF h l r).2.2 * q) := by
  by_cases hl : l = []
  · subst hl
    have r0 := V.e0 rfl
    subst r0
    rw [plainF_nil]
    exact ⟨V, fun j => rfl, plainF_nil, Nat.le_refl _, fun e => absurd rfl e⟩
  · obtain ⟨c, s, hc, hs, A⟩ := plainF_at (h := h) (r := r) hl
    obtain ⟨z1, z2, z3, z4⟩ := V.sm
    have l0 : 0 < l.length := List.length_pos_iff.mpr hl
    have fr : ∀ j, c ≤ j → fV h l r (j + s) = fV h l r j + ((fun i => extL l r (i - h.length)) s - (fun i => extL l r (i - h.length)) 0) := fun j hj => by
      have a := A.eq (j + s) (by omega)
      have b := A.eq j hj
      have p := A.per (j : Int)
      rw [Int.natCast_add] at a
      rw [a, b]
      exact p
    have hG : Per (fun i => extL l r (i - h.length)) l.length r := fun i => by
      have := extL_per (r := r) hl (i - h.length)
      show extL l r (i + l.length - h.length) = _
      rw [show i + (l.length : Int) - h.length = i - h.length + l.length by omega, this]
    obtain ⟨k1, k2⟩ := per_dvd A.s1 A.per A.min hG
    generalize hd : ((fun i => extL l r (i - h.length)) s - (fun i => extL l r (i - h.length)) 0) = d at *
    have d0 : 0 ≤ d := by
      have mono : ∀ k, fV h l r c ≤ fV h l r (c + k) := fun k => by
        induction k with
        | zero => exact Int.le_refl _
        | succ k ih => exact Int.le_trans ih (fV_up V hl (c + k))
      have a := mono s
      have b := fr c (Nat.le_refl _)
      omega
    have q1 : 1 ≤ l.length / s := by
      rcases Nat.eq_zero_or_pos (l.length / s) with e | e
      · rw [e, Nat.mul_zero] at k1; omega
      · exact e
    have dr : d ≤ r := by
      have := Int.mul_le_mul_of_nonneg_left (show (1 : Int) ≤ ((l.length / s : Nat) : Int) by omega) d0
      rw [Int.mul_one] at this
      exact Int.le_trans this (Int.le_of_eq k2.symm)
    have B := val_of (f := fV h l r) (xs := (List.range (c + s)).map (fV h l r)) (c := c) (s := s) (d := d) (fV_nn V) (fV_up V hl) A.s1 fr (by rw [List.length_map, List.length_range]) (fun k hk => gI_map_range hk) (by omega) (by omega) (by omega)
    have t1 : ((List.range (c + s)).map (fV h l r)).take c = (List.range c).map (fV h l r) := by
      rw [← List.map_take, List.take_range]
      congr 2
      omega
    have t2 : ((List.range (c + s)).map (fV h l r)).drop c = (List.range s).map fun i : Nat => (fun i => extL l r (i - h.length)) ((c + i : Nat) : Int) := by
      refine ext_gI (by rw [List.length_drop, List.length_map, List.length_map, List.length_range, List.length_range]; omega) fun k hk => ?_
      rw [List.length_drop, List.length_map, List.length_range] at hk
      rw [tell_gI (by omega), gI_map_range (by omega), A.eq _ (by omega)]
    rw [t1, t2] at B
    have pf := A.pf
    rw [hd] at pf
    obtain ⟨B1, B2, B3⟩ := B
    have e1 : (plainF h l r).1 = (List.range c).map (fV h l r) := by rw [pf]
    have e2 : (plainF h l r).2.1 = (List.range s).map fun i : Nat => (fun i => extL l r (i - h.length)) ((c + i : Nat) : Int) := by rw [pf]
    have e3 : (plainF h l r).2.2 = d := by rw [pf]
    rw [e1, e2, e3]
    refine ⟨B1, fun j => ?_, ?_, by rw [List.length_map, List.length_range]; exact hc, fun _ => ⟨B2, l.length / s, by rw [List.length_map, List.length_range]; exact k1, k2⟩⟩
    · unfold TV
      rw [if_neg B2, if_neg hl, B3]
    · exact plain_ext B2 hl B3
/-- the plain form with these values -/
structure Pl (f : Nat → Option Int) (h l : List Int) (r : Int) : Prop where
  val : Val h l r
  pf : plainF h l r = (h, l, r)
  tv : ∀ j, TV h l r j = f j
theorem Pl.of {h l : List Int} {r : Int} (V : Val h l r) : Pl (TV h l r) (plainF h l r).1 (plainF h l r).2.1 (plainF h l r).2.2 := by
  obtain ⟨a, b, c, _⟩ := plainF_val V
  exact ⟨a, c, b⟩
theorem Pl.uniq {f : Nat → Option Int} {h l h' l' : List Int} {r r' : Int} (a : Pl f h l r) (b : Pl f h' l' r') : h = h' ∧ l = l' ∧ r = r' := by
  have e : ∀ j, TV h l r j = TV h' l' r' j := fun j => (a.tv j).trans (b.tv j).symm
  have nn : ∀ {h l h' l' : List Int} {r r' : Int}, (∀ j, TV h l r j = TV h' l' r' j) → l = [] → l' ≠ [] → False := fun {h l h' l' r r'} e c d => by
    have := e h.length
    unfold TV at this
    rw [if_pos c, if_neg d, List.getElem?_eq_none (Nat.le_refl _)] at this
    cases this
  by_cases c : l = []
  · by_cases d : l' = []
    · subst c; subst d
      refine ⟨List.ext_getElem? fun i => ?_, rfl, (a.val.e0 rfl).trans (b.val.e0 rfl).symm⟩
      have := e i
      unfold TV at this
      rwa [if_pos rfl, if_pos rfl] at this
    · exact (nn e c d).elim
  · by_cases d : l' = []
    · exact (nn (fun j => (e j).symm) d c).elim
    · have := plain_ext c d fun j => by
        have := e j
        unfold TV at this
        rw [if_neg c, if_neg d] at this
        exact Option.some.inj this
      rw [a.pf, b.pf] at this
      cases this
      exact ⟨rfl, rfl, rfl⟩

local macro_rules | `(tactic| walk_at "hp") => `(tactic| first
  | with_reducible assumption
  | (with_reducible refine' ex_tab ?a ?b; (case a => with_reducible assumption); (case b => walk_at "hp")))
local macro_rules | `(tactic| walk_at "w2") => `(tactic| first
  | ((with_reducible refine' r_tabHead ?a ?b ?q); (case a => with_reducible assumption); (case b => walk_at "hp"))
  | ((with_reducible refine' r_tabLoop ?a ?b ?q); (case a => with_reducible assumption); (case b => walk_at "hp"))
  | ((with_reducible refine' r_tabRise ?a ?b ?q); (case a => with_reducible assumption); (case b => walk_at "hp")))
abbrev N__law_table : List Str := ["raw"]
theorem sc__law_table : FnScope N__law_table ["raw"] (defScope s__law_table) := ⟨rfl, rfl, rfl, by decide +kernel, rfl, by decide +kernel, by decide +kernel⟩
theorem ok__law_table {P : Program} {w : World} {K : PySem.W.Frag} {mg : Str → Option Value} {base : Heap} (E : Env P K mg) : Fn P w K mg base CX0 12 "_law_table" (sp1 fun v H Q _ => ∃ h l r, Dp K H v (dRaw h l r) ∧ Val h l r ∧ ∀ x H2, Ex H H2 → TabAt K H2 x (plainF h l r).1 (plainF h l r).2.1 (plainF h l r).2.2 → Q (.ref x) H2) := by
  obtain ⟨fd, F⟩ := E.dd__law_table
  refine Fn.mk0 F E.g__law_table sc__law_table sp1_len (fun _ _ _ _ _ _ us hl => match us, hl with | [_], _ => rfl) (fun cdv A outer s H vs Q X hr h => ?_)
  have nd := sc__law_table.nd
  obtain ⟨v0, rfl, h⟩ := h
  refine ⟨_, (pss_one (ps_ret (pmk (ok_Table3 E) hr (by decide) pass0 rfl (pa_cons (pe_ix (kIx K) (pv 0) (pe_int) (fun _ _ => rfl)) (pa_cons (pe_ix (kIx K) (pv 0) (pe_int) (fun _ _ => rfl)) (pa_cons (pe_ix (kIx K) (pv 0) (pe_int) (fun _ _ => rfl)) pa_nil)))))), ?_⟩
  change (_ : TS) _ [some v0] H
  try dsimp only [cxOf, Cx.nox, Cx.blk]
  obtain ⟨h, l, r, hD, W, k⟩ := h
  obtain ⟨a, th, tl, rfl, s1, s2, s3⟩ := dp_raw hD
  walk_at "w"
  exact mk_tab (b1 := true) (b2 := true) rfl (dp_of_ints s2) (dp_of_ints s3) (.int r) W k
abbrev N__law_same : List Str := ["table", "raw", "one"]
theorem sc__law_same : FnScope N__law_same ["table", "raw"] (defScope s__law_same) := ⟨rfl, rfl, rfl, by decide +kernel, rfl, by decide +kernel, by decide +kernel⟩
theorem ok__law_same {P : Program} {w : World} {K : PySem.W.Frag} {mg : Str → Option Value} {base : Heap} (E : Env P K mg) : Fn P w K mg base CX0 3 "_law_same" (sp2 fun a b H Q _ => ∃ x h l r, a = .ref x ∧ TabAt K H x h l r ∧ Dp K H b (dRaw h l r) ∧ allPos h ∧ allPos l ∧ 0 ≤ r ∧ h.length ≤ 50000 ∧ l.length ≤ 50000 ∧ RetD K (.bool true) H Q) := by
  obtain ⟨fd, F⟩ := E.dd__law_same
  refine Fn.mk0 F E.g__law_same sc__law_same sp2_len (fun _ _ _ _ _ _ us hl => match us, hl with | [_, _], _ => rfl) (fun cdv A outer s H vs Q X hr h => ?_)
  have nd := sc__law_same.nd
  obtain ⟨v0, v1, rfl, h⟩ := h
  refine ⟨_, (pss_cons (ps_if (PW.pt (pw_or (pt_not (kTru K (pe_callB (kIsi K) (by rfl) E.f_isinstance (by decide +kernel) (pa_cons (pv 0) (pa_cons (pe_glob (v := .ref (He.ga K "Table")) (by rfl) E.g_Table rfl) pa_nil))) (by intro _; rfl))) (pw_or (pt_cmpR (kNe K hr) (kFld K (pv 0) rfl) (pe_ix (kIx K) (pv 1) (pe_int) (fun _ _ => rfl)) (nomark _)) (pw_or1 (pt_cmpR (kNe K hr) (kFld K (pv 0) rfl) (pe_ix (kIx K) (pv 1) (pe_int) (fun _ _ => rfl)) (nomark _))))))
   (pss_one (ps_ret (pe_bl)))
   pss_nil)
  (pss_cons (ps_if (PW.pt (pw_or (pt_not (kTru K (pe_callB (kIsi K) (by rfl) E.f_isinstance (by decide +kernel) (pa_cons (kFld K (pv 0) rfl) (pa_cons (pe_bltn (v := .ty "tuple") (by rfl) E.f_tuple (by decide +kernel) rfl) pa_nil))) (by intro _; rfl))) (pw_or1 (pt_not (kTru K (pe_callB (kIsi K) (by rfl) E.f_isinstance (by decide +kernel) (pa_cons (kFld K (pv 0) rfl) (pa_cons (pe_bltn (v := .ty "tuple") (by rfl) E.f_tuple (by decide +kernel) rfl) pa_nil))) (by intro _; rfl))))))
   (pss_one (ps_ret (pe_bl)))
   pss_nil)
  (pss_cons (ps_if (pt_not (kTru K (pe_callB (kAll K rfl) (by rfl) E.f_all (by decide +kernel) (pa_cons (pe_lc (own := [("one", 2)]) (g := gName 2) (tt := tYes) rfl nd (kSeq K (pe_op (kAdd K) (kFld K (pv 0) rfl) (kFld K (pv 0) rfl))) (blkOk_by (N := N__law_same) (sc := defScope s__law_same) (by decide +kernel)) (fun _ _ _ _ _ => pg_name (i := 2) nd rfl (Or.inl rfl)) (fun _ _ _ _ _ => pts_nil) (fun _ _ _ _ _ => pc (ok__law_is_count E) hr (by decide) pass0 rfl (pa_cons (pv 2) pa_nil))) pa_nil)) (by intro _; rfl)))
   (pss_one (ps_ret (pe_bl)))
   pss_nil)
  (pss_one (ps_ret (pe_and (pc (ok__law_is_count E) hr (by decide) pass0 rfl (pa_cons (kFld K (pv 0) rfl) pa_nil)) (pe_one (pe_cmpR (kEq K hr) (kFld K (pv 0) rfl) (pe_ix (kIx K) (pv 1) (pe_int) (fun _ _ => rfl)) (nomark _))))))))), ?_⟩
  change (_ : TS) _ [some v0, some v1, none] H
  try dsimp only [cxOf, Cx.nox, Cx.blk]
  obtain ⟨x, h, l, r, rfl, t, hD, p1, p2, p3, z1, z2, k⟩ := h
  obtain ⟨a, th, tl, rfl, s1, s2, s3⟩ := dp_raw hD
  walk_at "w"
  refine r_isiC (insB_ok E.ins_Table E.c_Table (tab_mine t).choose_spec.choose_spec) E.kit_Table_self ?_
  walk_at "w"
  intro th1 q1
  walk_at "w"
  intro tl1 q2
  walk_at "w"
  intro th2 q3
  walk_at "w"
  intro tl2 q4
  walk_at "w"
  refine i_seqT ?_
  walk_at "w"
  intro th3 q5
  walk_at "w"
  intro tl3 q6
  walk_at "w"
  refine r_addT q5 q6 (by walk_at "sz") fun p5 H5 e5 h5 => ?_
  walk_at "w"
  rw [show vI h ++ vI l = vI (h ++ l) from List.map_append.symm] at h5
  have hp : ∀ n ∈ h ++ l, 0 ≤ n := fun n hn => (List.mem_append.mp hn).elim (p1 n) (p2 n)
  refine lcJ_tup (v := fun _ => .bl true) h5 (by rw [List.length_map, List.length_append]; omega) (fun x => [_, _, some x]) (fun x => rfl) (fun x => rfl) (fun x H2 Q' e2 hx hq => ?_) (fun p H2 n2 e2 hp => ?_)
  · walk_at "w"
    obtain ⟨n, hn, rfl⟩ := List.mem_map.mp hx
    refine ⟨.int n, .int n, fun v H3 e3 d3 => ?_⟩
    rw [show dIsCount (.int n) = true from decide_eq_true (hp n hn)] at d3
    obtain rfl := dp_toBl d3
    exact hq H3 e3
  · walk_at "w"
    refine r_all (bs := (vI (h ++ l)).map fun _ => true) (sq_of hp) (List.map_map ..).symm ?_
    have : ((vI (h ++ l)).map fun _ => true).all id = true := by simp
    rw [this]
    walk_at "w"
    refine ⟨.int r, .int r, fun v H3 e3 d3 => ?_⟩
    rw [show dIsCount (.int r) = true from decide_eq_true p3] at d3
    obtain rfl := dp_toBl d3
    walk_at "w"
    rw [decide_eq_true (rfl : r = r)]
    exact k.bl (by walk_at "ex")

def leO : Option Int → Option Int → Bool
  | _, none => true
  | none, some _ => false
  | some a, some b => decide (a ≤ b)
def topO (a b : Option Int) : Option Int := if leO a b = true then b else a
def lowO (a b : Option Int) : Option Int := if leO a b = true then a else b
def jnO (g : Bool) (a b : Option Int) : Option Int := if g = true then topO a b else lowO a b
abbrev N_at_most : List Str := ["one", "other"]
theorem sc_at_most : FnScope N_at_most ["one", "other"] (defScope s_at_most) := ⟨rfl, rfl, rfl, by decide +kernel, rfl, by decide +kernel, by decide +kernel⟩
theorem ok_at_most {P : Program} {w : World} {K : PySem.W.Frag} {mg : Str → Option Value} {base : Heap} (E : Env P K mg) : Fn P w K mg base CX0 1 "at_most" (sp2 fun a b H Q _ => ∃ o p, a = optV o ∧ b = optV p ∧ Q (.bl (leO o p)) H) := by
  obtain ⟨fd, F⟩ := E.dd_at_most
  refine Fn.mk0 F E.g_at_most sc_at_most sp2_len (fun _ _ _ _ _ _ us hl => match us, hl with | [_, _], _ => rfl) (fun cdv A outer s H vs Q X hr h => ?_)
  have nd := sc_at_most.nd
  obtain ⟨v0, v1, rfl, h⟩ := h
  refine ⟨_, (pss_one (ps_ret (pe_or (pe_cmpR xIs (pv 1) (pe_non) (nomark _)) (pe_one (pe_and (pe_cmpR xIsNot (pv 0) (pe_non) (nomark _)) (pe_one (pe_cmpR op_le (pv 0) (pv 1) (nomark _)))))))), ?_⟩
  change (_ : TS) _ [some v0, some v1] H
  try dsimp only [cxOf, Cx.nox, Cx.blk]
  obtain ⟨o, p, rfl, rfl, k⟩ := h
  cases p with
  | none =>
    simp only [optV]
    walk_at "w"
    cases o <;> exact k
  | some p =>
    cases o with
    | none => simp only [optV]; walk_at "w"; exact k
    | some o => simp only [optV]; walk_at "w"; exact k
abbrev N__law_le : List Str := ["one", "other"]
theorem sc__law_le : FnScope N__law_le ["one", "other"] (defScope s__law_le) := ⟨rfl, rfl, rfl, by decide +kernel, rfl, by decide +kernel, by decide +kernel⟩
theorem ok__law_le {P : Program} {w : World} {K : PySem.W.Frag} {mg : Str → Option Value} {base : Heap} (E : Env P K mg) : Fn P w K mg base CX0 1 "_law_le" (sp2 fun a b H Q _ => ∃ o p, a = optV o ∧ b = optV p ∧ Q (.bl (leO o p)) H) := by
  obtain ⟨fd, F⟩ := E.dd__law_le
  refine Fn.mk0 F E.g__law_le sc__law_le sp2_len (fun _ _ _ _ _ _ us hl => match us, hl with | [_, _], _ => rfl) (fun cdv A outer s H vs Q X hr h => ?_)
  have nd := sc__law_le.nd
  obtain ⟨v0, v1, rfl, h⟩ := h
  refine ⟨_, (pss_one (ps_ret (pe_or (pe_cmpR xIs (pv 1) (pe_non) (nomark _)) (pe_one (pe_and (pe_cmpR xIsNot (pv 0) (pe_non) (nomark _)) (pe_one (pe_cmpR op_le (pv 0) (pv 1) (nomark _)))))))), ?_⟩
  change (_ : TS) _ [some v0, some v1] H
  try dsimp only [cxOf, Cx.nox, Cx.blk]
  obtain ⟨o, p, rfl, rfl, k⟩ := h
  cases p with
  | none =>
    simp only [optV]
    walk_at "w"
    cases o <;> exact k
  | some p =>
    cases o with
    | none => simp only [optV]; walk_at "w"; exact k
    | some o => simp only [optV]; walk_at "w"; exact k
abbrev N_greater_of : List Str := ["one", "other"]
theorem sc_greater_of : FnScope N_greater_of ["one", "other"] (defScope s_greater_of) := ⟨rfl, rfl, rfl, by decide +kernel, rfl, by decide +kernel, by decide +kernel⟩
theorem ok_greater_of {P : Program} {w : World} {K : PySem.W.Frag} {mg : Str → Option Value} {base : Heap} (E : Env P K mg) : Fn P w K mg base CX0 2 "greater_of" (sp2 fun a b H Q _ => ∃ o p, a = optV o ∧ b = optV p ∧ Q (optV (topO o p)) H) := by
  obtain ⟨fd, F⟩ := E.dd_greater_of
  refine Fn.mk0 F E.g_greater_of sc_greater_of sp2_len (fun _ _ _ _ _ _ us hl => match us, hl with | [_, _], _ => rfl) (fun cdv A outer s H vs Q X hr h => ?_)
  have nd := sc_greater_of.nd
  obtain ⟨v0, v1, rfl, h⟩ := h
  refine ⟨_, (pss_one (ps_ret (pe_ifExp (kTru K (pc (ok_at_most E) hr (by decide) pass0 rfl (pa_cons (pv 0) (pa_cons (pv 1) pa_nil))) (by intro _; rfl)) (pv 1) (pv 0)))), ?_⟩
  change (_ : TS) _ [some v0, some v1] H
  try dsimp only [cxOf, Cx.nox, Cx.blk]
  obtain ⟨o, p, rfl, rfl, k⟩ := h
  unfold topO at k
  walk_at "w"
  refine ⟨o, p, rfl, rfl, ?_⟩
  walk_at "w"
  refine w_b2 (fun c => ?_) (fun c => ?_)
  · rw [if_pos c] at k; walk_at "w"; exact k
  · rw [if_neg (by rw [c]; decide)] at k; walk_at "w"; exact k
abbrev N_lesser_of : List Str := ["one", "other"]
theorem sc_lesser_of : FnScope N_lesser_of ["one", "other"] (defScope s_lesser_of) := ⟨rfl, rfl, rfl, by decide +kernel, rfl, by decide +kernel, by decide +kernel⟩
theorem ok_lesser_of {P : Program} {w : World} {K : PySem.W.Frag} {mg : Str → Option Value} {base : Heap} (E : Env P K mg) : Fn P w K mg base CX0 2 "lesser_of" (sp2 fun a b H Q _ => ∃ o p, a = optV o ∧ b = optV p ∧ Q (optV (lowO o p)) H) := by
  obtain ⟨fd, F⟩ := E.dd_lesser_of
  refine Fn.mk0 F E.g_lesser_of sc_lesser_of sp2_len (fun _ _ _ _ _ _ us hl => match us, hl with | [_, _], _ => rfl) (fun cdv A outer s H vs Q X hr h => ?_)
  have nd := sc_lesser_of.nd
  obtain ⟨v0, v1, rfl, h⟩ := h
  refine ⟨_, (pss_one (ps_ret (pe_ifExp (kTru K (pc (ok_at_most E) hr (by decide) pass0 rfl (pa_cons (pv 0) (pa_cons (pv 1) pa_nil))) (by intro _; rfl)) (pv 0) (pv 1)))), ?_⟩
  change (_ : TS) _ [some v0, some v1] H
  try dsimp only [cxOf, Cx.nox, Cx.blk]
  obtain ⟨o, p, rfl, rfl, k⟩ := h
  unfold lowO at k
  walk_at "w"
  refine ⟨o, p, rfl, rfl, ?_⟩
  walk_at "w"
  refine w_b2 (fun c => ?_) (fun c => ?_)
  · rw [if_pos c] at k; walk_at "w"; exact k
  · rw [if_neg (by rw [c]; decide)] at k; walk_at "w"; exact k
theorem lcm_div (i j : Nat) : ((i : Int) / (Int.gcd i j : Int)) * j = ((Nat.lcm i j : Nat) : Int) := by
  show ((i : Int) / ((Nat.gcd i j : Nat) : Int)) * j = _
  rw [← Int.natCast_ediv, ← Int.natCast_mul]
  congr 1
  unfold Nat.lcm
  exact (Nat.div_mul_right_comm (Nat.gcd_dvd_left i j) j)
abbrev N_common_multiple : List Str := ["one", "other"]
theorem sc_common_multiple : FnScope N_common_multiple ["one", "other"] (defScope s_common_multiple) := ⟨rfl, rfl, rfl, by decide +kernel, rfl, by decide +kernel, by decide +kernel⟩
theorem ok_common_multiple {P : Program} {w : World} {K : PySem.W.Frag} {mg : Str → Option Value} {base : Heap} (E : Env P K mg) : Fn P w K mg base CX0 2 "common_multiple" (sp2 fun a b H Q _ => ∃ i j : Nat, a = .int i ∧ b = .int j ∧ 0 < i ∧ i ≤ 50000 ∧ j ≤ 50000 ∧ Q (.int (Nat.lcm i j : Nat)) H) := by
  obtain ⟨fd, F⟩ := E.dd_common_multiple
  refine Fn.mk0 F E.g_common_multiple sc_common_multiple sp2_len (fun _ _ _ _ _ _ us hl => match us, hl with | [_, _], _ => rfl) (fun cdv A outer s H vs Q X hr h => ?_)
  have nd := sc_common_multiple.nd
  obtain ⟨v0, v1, rfl, h⟩ := h
  refine ⟨_, (pss_one (ps_ret (pe_op (kMul K) (pe_op xDiv (pv 0) (pc (ok_common_divisor E) hr (by decide) pass0 rfl (pa_cons (pv 0) (pa_cons (pv 1) pa_nil)))) (pv 1)))), ?_⟩
  change (_ : TS) _ [some v0, some v1] H
  try dsimp only [cxOf, Cx.nox, Cx.blk]
  obtain ⟨i, j, rfl, rfl, hi, zi, zj, k⟩ := h
  rw [← lcm_div] at k
  walk_at "w"
  refine ⟨_, _, rfl, rfl, by omega, by omega, ?_⟩
  have g0 : (0 : Int) < Int.gcd i j := by
    have := Int.gcd_pos_of_ne_zero_left (j : Int) (show (i : Int) ≠ 0 by omega)
    omega
  have g1 : (Int.gcd i j : Int) ≤ i := Int.le_of_dvd (by omega) (Int.gcd_dvd_left ..)
  have h1 : (i : Int) / (Int.gcd i j : Int) ≤ i := Int.ediv_le_self _ (by omega)
  have h2 : 0 ≤ (i : Int) / (Int.gcd i j : Int) := Int.ediv_nonneg (by omega) (by omega)
  walk_at "w"
  exact k
/-- the counts ahead of the first never -/
def cnts : List (Option Int) → List Int
  | some a :: r => a :: cnts r
  | _ => []
theorem cnts_snoc : ∀ {xs : List (Option Int)} {i : Nat} {a : Int}, (cnts (xs.take i)).length = i → xs[i]? = some (some a) → cnts (xs.take (i + 1)) = cnts (xs.take i) ++ [a] ∧ (cnts (xs.take (i + 1))).length = i + 1
  | [], _, _, _, e => by simp at e
  | none :: r, 0, a, _, e => by simp at e
  | some b :: r, 0, a, _, e => by
    simp at e
    subst e
    simp [cnts]
  | none :: r, i + 1, a, h, _ => by simp [cnts] at h
  | some b :: r, i + 1, a, h, e => by
    simp only [List.take_succ_cons, cnts, List.length_cons] at h
    have := cnts_snoc (xs := r) (i := i) (a := a) (by omega) (by simpa using e)
    simp only [List.take_succ_cons, cnts, List.length_cons, List.cons_append]
    exact ⟨congrArg _ this.1, by omega⟩
theorem cnts_stop : ∀ {xs : List (Option Int)} {i : Nat}, (cnts (xs.take i)).length = i → xs[i]? = some none → cnts xs = cnts (xs.take i)
  | [], _, _, e => by simp at e
  | none :: r, 0, _, _ => rfl
  | some b :: r, 0, _, e => by simp at e
  | none :: r, i + 1, h, _ => by simp [cnts] at h
  | some b :: r, i + 1, h, e => by
    simp only [List.take_succ_cons, cnts, List.length_cons] at h
    have := cnts_stop (xs := r) (i := i) (by omega) (by simpa using e)
    simp only [List.take_succ_cons, cnts]
    rw [this]
abbrev N_until_never : List Str := ["values", "told", "value"]
theorem sc_until_never : FnScope N_until_never ["values"] (defScope s_until_never) := ⟨rfl, rfl, rfl, by decide +kernel, rfl, by decide +kernel, by decide +kernel⟩
theorem ok_until_never {P : Program} {w : World} {K : PySem.W.Frag} {mg : Str → Option Value} {base : Heap} (E : Env P K mg) : Fn P w K mg base CX0 1 "until_never" (sp1 fun v H Q _ => ∃ a xs, v = .ref a ∧ SqL K H a (xs.map optV) ∧ xs.length ≤ 60000 ∧ ∀ p H', H p = none → Ex H H' → H' p = some (.lst (vI (cnts xs))) → Q (.ref p) H') := by
  obtain ⟨fd, F⟩ := E.dd_until_never
  refine Fn.mk0 F E.g_until_never sc_until_never sp1_len (fun _ _ _ _ _ _ us hl => match us, hl with | [_], _ => rfl) (fun cdv A outer s H vs Q X hr h => ?_)
  have nd := sc_until_never.nd
  obtain ⟨v0, rfl, h⟩ := h
  refine ⟨_, (pss_cons (ps_set (i := 1) nd rfl (.inl rfl) (pe_lst (pa_nil)))
  (pss_cut (ps_for PassesOwn.never rfl (kSeq K (pv 0)) (pg_name (i := 2) nd rfl (.inl rfl))
   (pss_cons (ps_if (pt_cmpR xIs (pv 2) (pe_non) (nomark _))
   (pss_one (ps_break))
   pss_nil)
  (pss_one (ps_expr (kBM K (pe_bm PySem.F.plainAttrs_list PySem.F.slot_list_append PySem.F.type_list_append mt_append (pv 1) (pa_cons (pv 2) pa_nil)))))))
  (pss_one (ps_ret (pv 1))))), ?_⟩
  change (_ : TS) _ [some v0, none, none] H
  try dsimp only [cxOf, Cx.nox, Cx.blk]
  obtain ⟨a, xs, rfl, hx, hz, k⟩ := h
  walk_at "w"
  intro p H1 n1 e1 h1
  walk_at "w"
  refine w_cut (M := fun σ' H' => ∃ v, σ' = [some (.ref a), some (.ref p), v] ∧ Ex H H' ∧ H' p = some (.lst (vI (cnts xs)))) ?_ ?_
  · walk_at "w"
    refine i_seqL ?_
    walk_at "w"
    refine for_list (xs := xs.map optV) (Pv := fun i σ' H' => ∃ v, σ' = [some (.ref a), some (.ref p), v] ∧ Ex H H' ∧ H' p = some (.lst (vI (cnts (xs.take i)))) ∧ (cnts (xs.take i)).length = i) ⟨_, rfl, e1, h1, rfl⟩ (fun _ _ H' _ q => by obtain ⟨_, _, e, _⟩ := q; exact ex_l e hx) ?_ ?_
    · rintro i y σ' H' hi ⟨v, rfl, e, g, hl⟩
      rw [List.getElem?_map] at hi
      obtain ⟨o, ho, rfl⟩ : ∃ o, xs[i]? = some o ∧ optV o = y := by
        cases q : xs[i]? with
        | none => rw [q] at hi; cases hi
        | some o => rw [q] at hi; exact ⟨o, rfl, Option.some.inj hi⟩
      have hlt := (List.getElem?_eq_some_iff.mp ho).1
      cases o with
      | none =>
        simp only [optV]
        walk_at "w"
        exact ⟨_, rfl, e, by rw [cnts_stop hl ho]; exact g⟩
      | some c =>
        simp only [optV]
        obtain ⟨q1, q2⟩ := cnts_snoc hl ho
        walk_at "w"
        have hs : SqL K H' p (vI (cnts (xs.take i))) := sq_of g
        walk_at "w"
        refine r_app (K := K) g (sz_lt (by rw [List.length_map]; omega)) ?_
        walk_at "w"
        refine ⟨_, rfl, Ex.mut e n1, ?_, q2⟩
        rw [q1, show vI (cnts (xs.take i) ++ [c]) = vI (cnts (xs.take i)) ++ [V.int c] from List.map_append ..]
        exact upd_same
    · rintro σ' H' ⟨v, rfl, e, g, hl⟩
      walk_at "w"
      rw [List.length_map, List.take_length] at g
      exact ⟨_, rfl, e, g⟩
  rintro σ' H' ⟨v, rfl, e, g⟩
  walk_at "w"
  exact k p H' n1 e g

theorem fr_tab {K : PySem.W.Frag} {a x : Addr} {H H' : Hp} {h l : List Int} {r : Int} (f : Fr a H H') (s : SrcAt H a) (t : TabAt K H x h l r) : TabAt K H' x h l r := by
  obtain ⟨dx, th, tl, h1, h2, h3⟩ := t
  refine ⟨dx, th, tl, f x _ ?_ h1, fr_t f s h2, fr_t f s h3⟩
  rintro rfl
  obtain ⟨d, sd, c, q, _⟩ := s
  rw [h1] at q
  cases q
theorem valueAt_nn {h l : List Int} {r : Int} (ph : allPos h) (pl : allPos l) (hr : 0 ≤ r) (o : Option Int) : ∀ i, valueAt h l r o = some i → 0 ≤ i := by
  intro i e
  cases o with
  | none =>
    have e : endOf l r = some i := e
    unfold endOf at e
    split at e
    · cases e
    · cases e; exact gI_nn pl _
  | some p =>
    have e : vat h l r p = some i := e
    unfold vat at e
    split at e
    · cases e; exact Int.le_refl _
    · split at e
      · cases e; exact gI_nn ph _
      · split at e
        · cases e
        · rename_i c1 c2 _
          cases e
          exact Int.add_nonneg (gI_nn pl _) (Int.mul_nonneg hr (Int.ediv_nonneg (by omega) (by omega)))
theorem dp_toOpt {K : PySem.W.Frag} {H : Hp} {v : V} {o : Option Int} (h : Dp K H v (dOpt o)) : v = optV o := by
  cases o with
  | none => exact dp_toNon h
  | some i => exact dp_toInt h
theorem w_lstRg {K : PySem.W.Frag} {n : Int} {σ : L2.St} {H : Hp} {Q : VK} (ok : RgOk 0 n) (q : ∀ p H1, H p = none → Ex H H1 → H1 p = some (.lst (rgV 0 n)) → Q (.ref p) H1) : tLstRg (tRg1 (tC (.int n))) σ H Q := ⟨n, rfl, ok, fun p hp => q p _ hp (Ex.new hp) upd_same⟩
theorem src_fr {x y : Addr} {H H' : Hp} (n : x ≠ y) (f : Fr y H H') (q : SrcAt H x) : SrcAt H' x := by
  obtain ⟨d, s, c, w1, w2⟩ := q
  exact ⟨d, s, c, f _ _ n w1, w2⟩
theorem l_fr {K : PySem.W.Frag} {a x : Addr} {H0 H H' : Hp} {xs : List V} (f : Fr x H H') (s0 : SqL K H0 a xs) (n : H0 x = none) (s : SqL K H a xs) : SqL K H' a xs := by
  rcases s0 with s0 | s0
  · have hne : a ≠ x := by
      rintro rfl
      rcases s0 with q | ⟨o', q⟩ <;> rw [n] at q <;> cases q
    rcases s with s | s
    · rcases s with q | ⟨o', q⟩
      · exact .inl (.inl (f _ _ hne q))
      · exact .inl (.inr ⟨o', f _ _ hne q⟩)
    · exact .inr s
  · exact .inr s0

abbrev N_formed : List Str := ["values", "many", "rise", "cut"]
theorem sc_formed : FnScope N_formed ["values", "many", "rise"] (defScope s_formed) := ⟨rfl, rfl, rfl, by decide +kernel, rfl, by decide +kernel, by decide +kernel⟩
theorem ok_formed {P : Program} {w : World} {K : PySem.W.Frag} {mg : Str → Option Value} {base : Heap} (E : Env P K mg) : Fn P w K mg base CX0 4 "formed" (sp3 fun v m r H Q _ => ∃ (a : Addr) (xs : List Int) (c s : Nat) (d : Int), v = .ref a ∧ m = .int s ∧ r = .int d ∧ SqL K H a (vI xs) ∧ xs.length = c + s ∧ 0 ≤ d ∧ RSm (xs.take c) (xs.drop c) d ∧ RetD K (dPl (xs.take c) (xs.drop c) d) H Q) := by
  obtain ⟨fd, F⟩ := E.dd_formed
  refine Fn.mk0 F E.g_formed sc_formed sp3_len (fun _ _ _ _ _ _ us hl => match us, hl with | [_, _, _], _ => rfl) (fun cdv A outer s H vs Q X hr h => ?_)
  have nd := sc_formed.nd
  obtain ⟨v0, v1, v2, rfl, h⟩ := h
  refine ⟨_, (pss_cons (ps_set (i := 3) nd rfl (.inl rfl) (pe_op xSub (pe_callB (kLen K) (by rfl) E.f_len (by decide +kernel) (pa_cons (pv 0) pa_nil)) (pv 1)))
  (pss_one (ps_ret (pc (ok_plain_form E) hr (by decide) pass0 rfl (pa_cons (pe_callTy (kTup K) (by rfl) E.f_tuple (by decide +kernel) (pa_cons (pe_slice (kSl K) (pv 0) po_none (po_some (pv 3))) pa_nil)) (pa_cons (pe_callTy (kTup K) (by rfl) E.f_tuple (by decide +kernel) (pa_cons (pe_slice (kSl K) (pv 0) (po_some (pv 3)) po_none) pa_nil)) (pa_cons (pv 2) pa_nil))))))), ?_⟩
  change (_ : TS) _ [some v0, some v1, some v2, none] H
  try dsimp only [cxOf, Cx.nox, Cx.blk]
  obtain ⟨a, xs, c, s, d, rfl, rfl, rfl, hx, hl, hd, hR, k⟩ := h
  obtain ⟨z1, z2, z3, z4⟩ := id hR
  rw [List.length_take] at z3
  rw [List.length_drop] at z4
  have ec : (xs.length : Int) - s = c := by omega
  walk_at "w"
  rw [ec]
  walk_at "w"
  intro p1 H1 n1 e1 h1
  walk_at "w"
  intro p2 H2 e2 s2
  walk_at "w"
  intro p3 H3 n3 e3 h3
  walk_at "w"
  intro p4 H4 e4 s4
  rw [Int.toNat_natCast] at s2 s4
  walk_at "w"
  exact ⟨_, _, d, dp_of_ints (by walk_at "hp"), dp_of_ints s4, .int d, hd, hR, fun v H5 e5 d5 => k v H5 (by walk_at "ex") d5⟩
/-- the greater (lesser) one of two tables' values -/
def JV (g : Bool) (f1 f2 : Nat → Option Int) (j : Nat) : Option Int := jnO g (f1 j) (f2 j)
abbrev spJoinV (K : PySem.W.Frag) : Sp := sp4 fun a b c u H Q _ => ∃ (h1 l1 h2 l2 : List Int) (r1 r2 : Int) (g : Bool) (n : Nat), Dp K H a (dRaw h1 l1 r1) ∧ Dp K H b (dRaw h2 l2 r2) ∧ c = .bl g ∧ u = .int n ∧ n ≤ 60000 ∧ RSm h1 l1 r1 ∧ RSm h2 l2 r2 ∧
  ∀ p H', H p = none → Ex H H' → H' p = some (.lst ((List.range n).map fun j => optV (JV g (TV h1 l1 r1) (TV h2 l2 r2) j))) → Q (.ref p) H'
abbrev N_joined_values : List Str := ["first", "second", "greatest", "upto", "told", "place", "one", "other"]
theorem sc_joined_values : FnScope N_joined_values ["first", "second", "greatest", "upto"] (defScope s_joined_values) := ⟨rfl, rfl, rfl, by decide +kernel, rfl, by decide +kernel, by decide +kernel⟩
theorem ok_joined_values {P : Program} {w : World} {K : PySem.W.Frag} {mg : Str → Option Value} {base : Heap} (E : Env P K mg) : Fn P w K mg base CX0 3 "joined_values" (spJoinV K) := by
  obtain ⟨fd, F⟩ := E.dd_joined_values
  refine Fn.mk0 F E.g_joined_values sc_joined_values sp4_len (fun _ _ _ _ _ _ us hl => match us, hl with | [_, _, _, _], _ => rfl) (fun cdv A outer s H vs Q X hr h => ?_)
  have nd := sc_joined_values.nd
  obtain ⟨v0, v1, v2, v3, rfl, h⟩ := h
  refine ⟨_, (pss_cons (ps_set (i := 4) nd rfl (.inl rfl) (pe_lst (pa_nil)))
  (pss_cons (ps_for PassesOwn.never rfl (pi_range2 (by rfl) E.f_range (pa_cons (pe_int) (pa_cons (pe_op (kAdd K) (pv 3) (pe_int)) pa_nil))) (pg_name (i := 5) nd rfl (.inl rfl))
   (pss_cons (ps_par (i := 6) (j := 7) rfl nd rfl rfl (by decide) rfl rfl (pa_cons (pc (ok_value_at E) hr (by decide) pass0 rfl (pa_cons (pv 0) (pa_cons (pv 5) pa_nil))) (pa_cons (pc (ok_value_at E) hr (by decide) pass0 rfl (pa_cons (pv 1) (pa_cons (pv 5) pa_nil))) pa_nil)) rfl)
  (pss_one (ps_expr (kBM K (pe_bm PySem.F.plainAttrs_list PySem.F.slot_list_append PySem.F.type_list_append mt_append (pv 4) (pa_cons (pe_ifExp (kTru K (pv 2) (by intro _; rfl)) (pc (ok_greater_of E) hr (by decide) pass0 rfl (pa_cons (pv 6) (pa_cons (pv 7) pa_nil))) (pc (ok_lesser_of E) hr (by decide) pass0 rfl (pa_cons (pv 6) (pa_cons (pv 7) pa_nil)))) pa_nil)))))))
  (pss_one (ps_ret (pv 4))))), ?_⟩
  change (_ : TS) _ [some v0, some v1, some v2, some v3, none, none, none, none] H
  try dsimp only [cxOf, Cx.nox, Cx.blk]
  obtain ⟨h1, l1, h2, l2, r1, r2, g, n, d1, d2, rfl, rfl, hn, R1, R2, k⟩ := h
  obtain ⟨a1, th1, tl1, rfl, s1, s2, s3⟩ := dp_raw d1
  obtain ⟨a2, th2, tl2, rfl, t1, t2, t3⟩ := dp_raw d2
  walk_at "w"
  intro p H1 n1 e1 g1
  walk_at "w"
  refine for_range (lo := 1) (Pv := fun i σ' H' => ∃ x y z, σ' = [some (.ref a1), some (.ref a2), some (.bl g), some (.int n), some (.ref p), x, y, z] ∧ Ex H H' ∧ H' p = some (.lst ((List.range i).map fun j => optV (JV g (TV h1 l1 r1) (TV h2 l2 r2) j)))) ⟨_, _, _, rfl, e1, g1⟩ ?_ ?_
  · rintro i σ' H' hi ⟨x, y, z, rfl, e, gp⟩
    walk_at "w"
    refine ⟨h1, l1, r1, some (1 + (i : Int)), dp_of_raw (ex_t e s1) (ex_t e s2) (ex_t e s3), dp_of_opt (p := some (1 + (i : Int))), fun m hm => by cases hm; omega, R1, fun v H2 e2 q2 => ?_⟩
    rw [show valueAt h1 l1 r1 (some (1 + (i : Int))) = TV h1 l1 r1 i by rw [show (1 : Int) + i = i + 1 by omega]; exact vat_TV i] at q2
    obtain rfl := dp_toOpt q2
    walk_at "w"
    have e' := e.trans e2
    refine ⟨h2, l2, r2, some (1 + (i : Int)), dp_of_raw (ex_t e' t1) (ex_t e' t2) (ex_t e' t3), dp_of_opt (p := some (1 + (i : Int))), fun m hm => by cases hm; omega, R2, fun v H3 e3 q3 => ?_⟩
    rw [show valueAt h2 l2 r2 (some (1 + (i : Int))) = TV h2 l2 r2 i by rw [show (1 : Int) + i = i + 1 by omega]; exact vat_TV i] at q3
    obtain rfl := dp_toOpt q3
    walk_at "w"
    refine ⟨_, _, rfl, ?_⟩
    try dsimp only [List.set]
    have gp3 := e3 _ _ (e2 _ _ gp)
    have hs : SqL K H3 p _ := sq_of gp3
    walk_at "w"
    have fin : ∀ v, v = optV (JV g (TV h1 l1 r1) (TV h2 l2 r2) i) → ∃ x y z, [some (V.ref a1), some (V.ref a2), some (.bl g), some (.int n), some (.ref p), some (.int (1 + (i : Int))), some (optV (TV h1 l1 r1 i)), some (optV (TV h2 l2 r2 i))] = [some (.ref a1), some (.ref a2), some (.bl g), some (.int n), some (.ref p), x, y, z] ∧ Ex H (upd H3 p (.lst ((List.range i).map (fun j => optV (JV g (TV h1 l1 r1) (TV h2 l2 r2) j)) ++ [v]))) ∧ upd H3 p (.lst ((List.range i).map (fun j => optV (JV g (TV h1 l1 r1) (TV h2 l2 r2) j)) ++ [v])) p = some (.lst ((List.range (i + 1)).map fun j => optV (JV g (TV h1 l1 r1) (TV h2 l2 r2) j))) := fun v hv => by
      subst hv
      refine ⟨_, _, _, rfl, Ex.mut (e'.trans e3) n1, ?_⟩
      rw [List.range_succ, List.map_append]
      exact upd_same
    cases g with
    | true =>
      walk_at "w"
      refine ⟨_, _, rfl, rfl, ?_⟩
      walk_at "w"
      refine r_app (K := K) gp3 (sz_lt (by rw [List.length_map, List.length_range]; omega)) ?_
      walk_at "w"
      exact fin _ rfl
    | false =>
      walk_at "w"
      refine ⟨_, _, rfl, rfl, ?_⟩
      walk_at "w"
      refine r_app (K := K) gp3 (sz_lt (by rw [List.length_map, List.length_range]; omega)) ?_
      walk_at "w"
      exact fin _ rfl
  · rintro σ' H' ⟨x, y, z, rfl, e, gp⟩
    walk_at "w"
    rw [show ((n : Int) + 1 - 1).toNat = n by omega] at gp
    exact k p H' n1 e gp

theorem topO_some (x y : Int) : topO (some x) (some y) = some (max x y) := by
  unfold topO leO
  by_cases h : x ≤ y
  · rw [if_pos (decide_eq_true h), Int.max_eq_right h]
  · rw [if_neg (by simpa using h), Int.max_eq_left (by omega)]
theorem lowO_some (x y : Int) : lowO (some x) (some y) = some (min x y) := by
  unfold lowO leO
  by_cases h : x ≤ y
  · rw [if_pos (decide_eq_true h), Int.min_eq_left h]
  · rw [if_neg (by simpa using h), Int.min_eq_right (by omega)]
theorem topO_none (x : Option Int) : topO x none = none ∧ topO none x = none := by cases x <;> exact ⟨rfl, rfl⟩
theorem lowO_none (x : Option Int) : lowO x none = x ∧ lowO none x = x := by cases x <;> exact ⟨rfl, rfl⟩
theorem jnO_some (g : Bool) (x y : Int) : jnO g (some x) (some y) = some (if g = true then max x y else min x y) := by
  unfold jnO
  cases g
  · exact lowO_some x y
  · exact topO_some x y
theorem leO_some {x y : Int} : leO (some x) (some y) = true ↔ x ≤ y := by unfold leO; exact decide_eq_true_iff
/-- values that do not fall and are no less than 0 -/
structure Gd (f : Nat → Option Int) : Prop where
  up : ∀ j, leO (f j) (f (j + 1)) = true
  nn : ∀ j v, f j = some v → 0 ≤ v
theorem jnO_mono {g : Bool} {a b c d : Option Int} (h1 : leO a c = true) (h2 : leO b d = true) : leO (jnO g a b) (jnO g c d) = true := by
  cases a with
  | none =>
    cases c with
    | some c => cases h1
    | none =>
      cases b with
      | none =>
        cases d with
        | some d => cases h2
        | none => cases g <;> rfl
      | some b =>
        cases d with
        | none => cases g <;> rfl
        | some d =>
          cases g
          · exact h2
          · rfl
  | some a =>
    cases b with
    | none =>
      cases d with
      | some d => cases h2
      | none =>
        cases c with
        | none => cases g <;> rfl
        | some c => cases g; exact h1; rfl
    | some b =>
      rw [jnO_some]
      cases c with
      | none =>
        cases d with
        | none => cases g <;> rfl
        | some d =>
          cases g
          · rw [leO_some] at h2
            show leO _ (some d) = true
            rw [leO_some, if_neg (by decide)]
            omega
          · rfl
      | some c =>
        rw [leO_some] at h1
        cases d with
        | none =>
          cases g
          · show leO _ (some c) = true
            rw [leO_some, if_neg (by decide)]
            omega
          · rfl
        | some d =>
          rw [leO_some] at h2
          rw [jnO_some, leO_some]
          cases g
          · rw [if_neg (by decide), if_neg (by decide)]; omega
          · rw [if_pos rfl, if_pos rfl]; omega
theorem jnO_val {g : Bool} {a b : Option Int} {v : Int} (h : jnO g a b = some v) : a = some v ∨ b = some v := by
  unfold jnO topO lowO at h
  cases g
  · rw [if_neg (by decide)] at h
    split at h
    · exact .inl h
    · exact .inr h
  · rw [if_pos rfl] at h
    split at h
    · exact .inr h
    · exact .inl h
theorem Gd.join {f1 f2 : Nat → Option Int} (g : Bool) (a : Gd f1) (b : Gd f2) : Gd (JV g f1 f2) :=
  ⟨fun j => jnO_mono (a.up j) (b.up j), fun j v h => (jnO_val h).elim (a.nn j v) (b.nn j v)⟩
theorem Gd.of {h l : List Int} {r : Int} (V : Val h l r) : Gd (TV h l r) := by
  by_cases hl : l = []
  · subst hl
    refine ⟨fun j => ?_, fun j v e => ?_⟩
    · unfold TV
      rw [if_pos rfl, if_pos rfl]
      by_cases c : j + 1 < h.length
      · rw [gI_get c, gI_get (show j < h.length by omega), leO_some]
        exact V.r1 j c
      · rw [List.getElem?_eq_none (show h.length ≤ j + 1 by omega)]
        cases h[j]? <;> rfl
    · unfold TV at e
      rw [if_pos rfl] at e
      exact V.p1 v (List.mem_of_getElem? e)
  · refine ⟨fun j => ?_, fun j v e => ?_⟩
    · unfold TV
      rw [if_neg hl, if_neg hl, leO_some]
      exact fV_up V hl j
    · unfold TV at e
      rw [if_neg hl] at e
      cases e
      exact fV_nn V j
theorem gd_none {f : Nat → Option Int} (a : Gd f) {n : Nat} (h : f n = none) : ∀ j, n ≤ j → f j = none := fun j hj => by
  obtain ⟨k, rfl⟩ := Nat.exists_eq_add_of_le hj
  clear hj
  induction k with
  | zero => exact h
  | succ k ih =>
    have := a.up (n + k)
    rw [ih] at this
    show f (n + k + 1) = none
    cases e : f (n + k + 1) with
    | none => rfl
    | some v => rw [e] at this; cases this
theorem cnts_get : ∀ {xs : List (Option Int)} {j : Nat}, (∀ i, xs[i]? = some none → ∀ k, i ≤ k → k < xs.length → xs[k]? = some none) → (cnts xs)[j]? = (xs[j]?).join
  | [], j, _ => by simp [cnts]
  | none :: r, j, h => by
    simp only [cnts]
    have := h 0 rfl j (Nat.zero_le _)
    by_cases c : j < (none :: r).length
    · rw [this c]; rfl
    · rw [List.getElem?_eq_none (l := none :: r) (by omega)]; rfl
  | some a :: r, 0, _ => by simp [cnts]
  | some a :: r, j + 1, h => by
    simp only [cnts, List.getElem?_cons_succ]
    exact cnts_get fun i hi k hik hk => by
      have := h (i + 1) (by simpa using hi) (k + 1) (by omega) (by simp; omega)
      simpa using this
theorem cnts_len (xs : List (Option Int)) : (cnts xs).length ≤ xs.length := by
  induction xs with
  | nil => exact Nat.le_refl _
  | cons o r ih =>
    cases o with
    | none => exact Nat.zero_le _
    | some a => exact Nat.succ_le_succ ih
/-- values that end make a table -/
theorem val_end {f : Nat → Option Int} (G : Gd f) {n : Nat} (hn : f n = none) (z : n ≤ 49999) : Val (cnts ((List.range (n + 1)).map f)) [] 0 ∧ (∀ j, TV (cnts ((List.range (n + 1)).map f)) [] 0 j = f j) ∧ (cnts ((List.range (n + 1)).map f)).length ≤ n := by
  have hg : ∀ j, (cnts ((List.range (n + 1)).map f))[j]? = f j := fun j => by
    rw [cnts_get fun i hi k hik hk => by
      rw [List.getElem?_map] at hi ⊢
      rw [List.length_map, List.length_range] at hk
      rw [List.getElem?_range (by omega)] at hi
      rw [List.getElem?_range hk]
      have e : f i = none := Option.some.inj hi
      exact congrArg some (gd_none G e k hik)]
    rw [List.getElem?_map]
    by_cases c : j < n + 1
    · rw [List.getElem?_range c]
      show Option.join (some (f j)) = f j
      cases f j <;> rfl
    · rw [List.getElem?_eq_none (by rw [List.length_range]; omega), gd_none G hn j (by omega)]
      rfl
  generalize cnts ((List.range (n + 1)).map f) = h at *
  have hl : h.length ≤ n := by
    have := hg n
    rw [hn] at this
    exact List.getElem?_eq_none_iff.mp this
  refine ⟨⟨fun v hv => ?_, fun v hv => by simp at hv, fun i hi => ?_, fun i hi => by simp at hi, Int.le_refl _, fun _ => rfl, fun _ q => absurd rfl q, fun q => absurd rfl q, ⟨by decide, by decide, by omega, by decide⟩⟩, fun j => ?_, hl⟩
  · obtain ⟨i, hi, rfl⟩ := List.getElem_of_mem hv
    have := hg i
    rw [List.getElem?_eq_getElem hi] at this
    exact G.nn i _ this.symm
  · have a := hg i
    have b := hg (i + 1)
    rw [gI_get (by omega)] at a
    rw [gI_get hi] at b
    have := G.up i
    rw [← a, ← b, leO_some] at this
    exact this
  · unfold TV
    rw [if_pos rfl]
    exact hg j
/-- values that go on evenly make a table -/
theorem val_on {f : Nat → Option Int} (G : Gd f) {c s : Nat} {d : Int} {xs : List Int} (hs : 1 ≤ s) (hc : ∀ j, f j ≠ none) (per : ∀ j, c ≤ j → f (j + s) = (f j).map (· + d))
    (hx : xs.map some = (List.range (c + s)).map f) (zc : c ≤ 50000) (zs : s ≤ 50000) (zd : d < 1152921504606846976) :
    Val (xs.take c) (xs.drop c) d ∧ xs.drop c ≠ [] ∧ xs.length = c + s ∧ ∀ j, TV (xs.take c) (xs.drop c) d j = f j := by
  have hl : xs.length = c + s := by
    have := congrArg List.length hx
    rwa [List.length_map, List.length_map, List.length_range] at this
  have hv : ∀ j, f j = some ((f j).getD 0) := fun j => by
    cases e : f j with
    | none => exact absurd e (hc j)
    | some v => rfl
  obtain ⟨A, B, C⟩ := val_of (f := fun j => (f j).getD 0) (xs := xs) (c := c) (s := s) (d := d) (fun j => G.nn j _ (hv j)) (fun j => by
    have := G.up j
    rw [hv j, hv (j + 1), leO_some] at this
    exact this) hs (fun j hj => by
    have := per j hj
    rw [hv (j + s), hv j] at this
    exact Option.some.inj this) hl (fun k hk => by
    have := congrArg (fun l => l[k]?) hx
    simp only [List.getElem?_map] at this
    rw [List.getElem?_range hk, gI_get (by omega)] at this
    have e : some (gI xs k) = f k := Option.some.inj this
    rw [hv k] at e
    exact Option.some.inj e) zc zs zd
  refine ⟨A, B, hl, fun j => ?_⟩
  unfold TV
  rw [if_neg B, C, hv j]
  rfl

def slp (l : List Int) (r : Int) (m : Nat) : Int := r * ((m : Int) / l.length)
/-- by how much the flatter one of two tables is greater -/
def lkV (h1 l1 : List Int) (r1 : Int) (h2 l2 : List Int) (r2 : Int) (m : Nat) (j : Nat) : Int :=
  if slp l1 r1 m > slp l2 r2 m then fV h2 l2 r2 j - fV h1 l1 r1 j else fV h1 l1 r1 j - fV h2 l2 r2 j
/-- the least number of rounds behind which the steeper one is ahead -/
structure Steps (lk : Nat → Int) (S m : Nat) (ap : Int) (s : Nat) : Prop where
  z : ap = 0 → s = 0
  up : ap ≠ 0 → ∀ k, k < m → lk (S + k) ≤ s * ap
  lo : s = 0 ∨ ∃ k, k < m ∧ ((s : Int) - 1) * ap < lk (S + k)
theorem ceil_ok {x ap : Int} (hx : 0 < x) (ha : 0 < ap) : x ≤ (x + ap - 1) / ap * ap ∧ ((x + ap - 1) / ap - 1) * ap < x ∧ 1 ≤ (x + ap - 1) / ap := by
  have e := Int.emod_add_mul_ediv (x + ap - 1) ap
  have h0 := Int.emod_nonneg (x + ap - 1) (show ap ≠ 0 by omega)
  have h1 := Int.emod_lt_of_pos (x + ap - 1) ha
  have h2 : 1 ≤ (x + ap - 1) / ap := Int.le_ediv_of_mul_le ha (by omega)
  generalize (x + ap - 1) / ap = q at *
  rw [Int.mul_comm] at e
  refine ⟨by omega, ?_, h2⟩
  rw [Int.sub_mul]
  omega
theorem steps_go {lk : Nat → Int} {S i : Nat} {ap : Int} {s : Nat} (ha : 0 < ap) (up : ∀ k, k < i → lk (S + k) ≤ s * ap) (lo : s = 0 ∨ ∃ k, k < i ∧ ((s : Int) - 1) * ap < lk (S + k)) (hx : 0 < lk (S + i)) :
    ∃ s' : Nat, (s' : Int) = max (s : Int) ((lk (S + i) + ap - 1) / ap) ∧ (∀ k, k < i + 1 → lk (S + k) ≤ s' * ap) ∧ (s' = 0 ∨ ∃ k, k < i + 1 ∧ ((s' : Int) - 1) * ap < lk (S + k)) := by
  obtain ⟨c1, c2, c3⟩ := ceil_ok hx ha
  generalize (lk (S + i) + ap - 1) / ap = q at *
  rcases Int.le_total q s with h | h
  · refine ⟨s, (Int.max_eq_left h).symm, fun k hk => ?_, lo.imp id fun ⟨k, a, b⟩ => ⟨k, by omega, b⟩⟩
    by_cases e : k = i
    · subst e
      exact Int.le_trans c1 (Int.mul_le_mul_of_nonneg_right h (by omega))
    · exact up k (by omega)
  · refine ⟨q.toNat, by rw [Int.toNat_of_nonneg (by omega), Int.max_eq_right h], fun k hk => ?_, .inr ⟨i, by omega, by rw [Int.toNat_of_nonneg (by omega)]; exact c2⟩⟩
    rw [Int.toNat_of_nonneg (by omega)]
    by_cases e : k = i
    · subst e; exact c1
    · exact Int.le_trans (up k (by omega)) (Int.mul_le_mul_of_nonneg_right h (by omega))
theorem steps_stay {lk : Nat → Int} {S i : Nat} {ap : Int} {s : Nat} (ha : 0 < ap) (up : ∀ k, k < i → lk (S + k) ≤ s * ap) (lo : s = 0 ∨ ∃ k, k < i ∧ ((s : Int) - 1) * ap < lk (S + k)) (hx : ¬ 0 < lk (S + i)) :
    (∀ k, k < i + 1 → lk (S + k) ≤ s * ap) ∧ (s = 0 ∨ ∃ k, k < i + 1 ∧ ((s : Int) - 1) * ap < lk (S + k)) := by
  refine ⟨fun k hk => ?_, lo.imp id fun ⟨k, a, b⟩ => ⟨k, by omega, b⟩⟩
  by_cases e : k = i
  · subst e
    have := Int.mul_nonneg (show (0 : Int) ≤ s by omega) (show 0 ≤ ap by omega)
    omega
  · exact up k (by omega)
theorem slp_le {l : List Int} {r : Int} {m : Nat} (r0 : 0 ≤ r) (r1 : r ≤ 1000000000000) (hm : m ≤ 50000) : 0 ≤ slp l r m ∧ slp l r m ≤ 50000000000000000 := by
  unfold slp
  have a : 0 ≤ (m : Int) / l.length := Int.ediv_nonneg (by omega) (by omega)
  have b : (m : Int) / l.length ≤ m := Int.ediv_le_self _ (by omega)
  refine ⟨Int.mul_nonneg r0 a, ?_⟩
  have := Int.mul_le_mul r1 (show (m : Int) / l.length ≤ 50000 by omega) a (by omega)
  omega
abbrev N_later_start : List Str := ["first", "second", "start", "many", "greatest", "steps", "slopes", "ahead", "behind", "apart", "place", "lack"]
theorem sc_later_start : FnScope N_later_start ["first", "second", "start", "many", "greatest"] (defScope s_later_start) := ⟨rfl, rfl, rfl, by decide +kernel, rfl, by decide +kernel, by decide +kernel⟩
theorem ok_later_start {P : Program} {w : World} {K : PySem.W.Frag} {mg : Str → Option Value} {base : Heap} (E : Env P K mg) : Fn P w K mg base CX0 3 "later_start" (sp5 fun a b u v w H Q _ => ∃ (h1 l1 h2 l2 : List Int) (r1 r2 : Int) (S m : Nat) (g : Bool), Dp K H a (dRaw h1 l1 r1) ∧ Dp K H b (dRaw h2 l2 r2) ∧ u = .int S ∧ v = .int m ∧ w = .bl g ∧ l1 ≠ [] ∧ l2 ≠ [] ∧ 0 ≤ r1 ∧ r1 ≤ 1000000000000 ∧ 0 ≤ r2 ∧ r2 ≤ 1000000000000 ∧ RSm h1 l1 r1 ∧ RSm h2 l2 r2 ∧ S ≤ 50000 ∧ m ≤ 50000 ∧ ∀ (s : Nat) H', Ex H H' → Steps (lkV h1 l1 r1 h2 l2 r2 m) S m ((slp l1 r1 m - slp l2 r2 m).natAbs : Int) s → Q (.int ((S : Int) + s * m)) H') := by
  obtain ⟨fd, F⟩ := E.dd_later_start
  refine Fn.mk0 F E.g_later_start sc_later_start sp5_len (fun _ _ _ _ _ _ us hl => match us, hl with | [_, _, _, _, _], _ => rfl) (fun cdv A outer s H vs Q X hr h => ?_)
  have nd := sc_later_start.nd
  obtain ⟨v0, v1, v2, v3, v4, rfl, h⟩ := h
  refine ⟨_, (pss_cons (ps_set (i := 5) nd rfl (.inl rfl) (pe_int))
  (pss_cons (ps_set (i := 6) nd rfl (.inl rfl) (pe_tup (pa_cons (pe_op (kMul K) (pe_ix (kIx K) (pv 0) (pe_int) (fun _ _ => rfl)) (pe_op xDiv (pv 3) (pe_callB (kLen K) (by rfl) E.f_len (by decide +kernel) (pa_cons (pe_ix (kIx K) (pv 0) (pe_int) (fun _ _ => rfl)) pa_nil)))) (pa_cons (pe_op (kMul K) (pe_ix (kIx K) (pv 1) (pe_int) (fun _ _ => rfl)) (pe_op xDiv (pv 3) (pe_callB (kLen K) (by rfl) E.f_len (by decide +kernel) (pa_cons (pe_ix (kIx K) (pv 1) (pe_int) (fun _ _ => rfl)) pa_nil)))) pa_nil))))
  (pss_cons (ps_if (pt_cmpR (kEq K hr) (pe_ix (kIx K) (pv 6) (pe_int) (fun _ _ => rfl)) (pe_ix (kIx K) (pv 6) (pe_int) (fun _ _ => rfl)) (nomark _))
   (pss_one (ps_ret (pv 2)))
   pss_nil)
  (pss_cut (ps_asg (pe_ifExp (pt_cmpR (kEq K hr) (pe_cmpR op_gt (pe_ix (kIx K) (pv 6) (pe_int) (fun _ _ => rfl)) (pe_ix (kIx K) (pv 6) (pe_int) (fun _ _ => rfl)) (nomark _)) (pv 4) (nomark _)) (pe_tup (pa_cons (pv 0) (pa_cons (pv 1) pa_nil))) (pe_tup (pa_cons (pv 1) (pa_cons (pv 0) pa_nil)))) (kGtup K rfl (pgs_cons (pg_name (i := 7) nd rfl (.inl rfl)) (pgs_cons (pg_name (i := 8) nd rfl (.inl rfl)) (pgs_nil)))))
  (pss_cons (ps_set (i := 9) nd rfl (.inl rfl) (pe_callB xAbs (by rfl) E.f_abs (by decide +kernel) (pa_cons (pe_op xSub (pe_ix (kIx K) (pv 6) (pe_int) (fun _ _ => rfl)) (pe_ix (kIx K) (pv 6) (pe_int) (fun _ _ => rfl))) pa_nil)))
  (pss_cons (ps_for PassesOwn.never rfl (pi_range2 (by rfl) E.f_range (pa_cons (pe_op (kAdd K) (pv 2) (pe_int)) (pa_cons (pe_op (kAdd K) (pe_op (kAdd K) (pv 2) (pv 3)) (pe_int)) pa_nil))) (pg_name (i := 10) nd rfl (.inl rfl))
   (pss_cons (ps_set (i := 11) nd rfl (.inl rfl) (pe_op xSub (pc (ok_value_at E) hr (by decide) pass0 rfl (pa_cons (pv 8) (pa_cons (pv 10) pa_nil))) (pc (ok_value_at E) hr (by decide) pass0 rfl (pa_cons (pv 7) (pa_cons (pv 10) pa_nil)))))
  (pss_cons (ps_if (pt_not (kTru K (pv 4) (by intro _; rfl)))
   (pss_one (ps_set (i := 11) nd rfl (.inl rfl) (pe_un un_neg (pv 11))))
   pss_nil)
  (pss_one (ps_if (pt_cmpR op_gt (pv 11) (pe_int) (nomark _))
   (pss_one (ps_set (i := 5) nd rfl (.inl rfl) (pe_callB (xMax2 rfl) (by rfl) E.f_max (by decide +kernel) (pa_cons (pv 5) (pa_cons (pe_op xDiv (pe_op xSub (pe_op (kAdd K) (pv 11) (pv 9)) (pe_int)) (pv 9)) pa_nil)))))
   pss_nil)))))
  (pss_one (ps_ret (pe_op (kAdd K) (pv 2) (pe_op (kMul K) (pv 5) (pv 3))))))))))), ?_⟩
  change (_ : TS) _ [some v0, some v1, some v2, some v3, some v4, none, none, none, none, none, none, none] H
  try dsimp only [cxOf, Cx.nox, Cx.blk]
  obtain ⟨h1, l1, h2, l2, r1, r2, S, m, g, d1, d2, rfl, rfl, rfl, hl1, hl2, p1, q1, p2, q2, R1, R2, zS, zm, k⟩ := h
  obtain ⟨a1, th1, tl1, rfl, s1, s2, s3⟩ := dp_raw d1
  obtain ⟨a2, th2, tl2, rfl, t1, t2, t3⟩ := dp_raw d2
  have l10 : 0 < l1.length := List.length_pos_iff.mpr hl1
  have l20 : 0 < l2.length := List.length_pos_iff.mpr hl2
  obtain ⟨_, _, _, zl1⟩ := id R1
  obtain ⟨_, _, _, zl2⟩ := id R2
  obtain ⟨b1, b2⟩ := slp_le (l := l1) p1 q1 zm
  obtain ⟨b3, b4⟩ := slp_le (l := l2) p2 q2 zm
  walk_at "w"
  intro pp H1 n1 e1 g1
  rw [show r1 * ((m : Int) / l1.length) = slp l1 r1 m from rfl, show r2 * ((m : Int) / l2.length) = slp l2 r2 m from rfl] at g1
  have gs : SqT K H1 pp [.int (slp l1 r1 m), .int (slp l2 r2 m)] := st_of g1
  walk_at "w"
  by_cases c : slp l1 r1 m = slp l2 r2 m
  · walk_at "w"
    have := k 0 H1 e1 ⟨fun _ => rfl, fun h => absurd (by rw [c, Int.sub_self]; rfl) h, .inl rfl⟩
    rwa [show (S : Int) + ((0 : Nat) : Int) * m = S by simp] at this
  · walk_at "w"
    have ha : (0 : Int) < ((slp l1 r1 m - slp l2 r2 m).natAbs : Int) := by omega
    have ha2 : ((slp l1 r1 m - slp l2 r2 m).natAbs : Int) < 4611686018427387904 := by omega
    refine w_cut (M := fun σ' H' => ∃ (aa bb : Addr) (hA lA hB lB : List Int) (rA rB : Int), σ' = [some (.ref a1), some (.ref a2), some (.int S), some (.int m), some (.bl g), some (.int 0), some (.ref pp), some (.ref aa), some (.ref bb), none, none, none] ∧ Ex H1 H' ∧ Dp K H' (.ref aa) (dRaw hA lA rA) ∧ Dp K H' (.ref bb) (dRaw hB lB rB) ∧ lA ≠ [] ∧ lB ≠ [] ∧ RSm hA lA rA ∧ RSm hB lB rB ∧ ∀ j, (if g = true then fV hB lB rB j - fV hA lA rA j else -(fV hB lB rB j - fV hA lA rA j)) = lkV h1 l1 r1 h2 l2 r2 m j) ?_ ?_
    · walk_at "w"
      refine w_ite (fun q => ?_) (fun q => ?_)
      · walk_at "w"
        intro p2 H2 n2 e2 g2
        walk_at "w"
        refine ⟨a1, a2, h1, l1, h2, l2, r1, r2, rfl, e2, dp_of_raw (ex_t (e1.trans e2) s1) (ex_t (e1.trans e2) s2) (ex_t (e1.trans e2) s3), dp_of_raw (ex_t (e1.trans e2) t1) (ex_t (e1.trans e2) t2) (ex_t (e1.trans e2) t3), hl1, hl2, R1, R2, fun j => ?_⟩
        unfold lkV
        by_cases c2 : slp l1 r1 m > slp l2 r2 m
        · rw [decide_eq_true c2] at q
          subst q
          rw [if_pos rfl, if_pos c2]
        · rw [decide_eq_false c2] at q
          subst q
          rw [if_neg (by decide), if_neg c2]
          omega
      · walk_at "w"
        intro p2 H2 n2 e2 g2
        walk_at "w"
        refine ⟨a2, a1, h2, l2, h1, l1, r2, r1, rfl, e2, dp_of_raw (ex_t (e1.trans e2) t1) (ex_t (e1.trans e2) t2) (ex_t (e1.trans e2) t3), dp_of_raw (ex_t (e1.trans e2) s1) (ex_t (e1.trans e2) s2) (ex_t (e1.trans e2) s3), hl2, hl1, R2, R1, fun j => ?_⟩
        unfold lkV
        by_cases c2 : slp l1 r1 m > slp l2 r2 m
        · rw [decide_eq_true c2] at q
          cases g with
          | true => exact absurd rfl q
          | false =>
            rw [if_neg (by decide), if_pos c2]
            omega
        · rw [decide_eq_false c2] at q
          cases g with
          | true => rw [if_pos rfl, if_neg c2]
          | false => exact absurd rfl q
    rintro σ' H2 ⟨aa, bb, hA, lA, hB, lB, rA, rB, rfl, e2, dA, dB, hlA, hlB, RA, RB, hlk⟩
    have e12 := e1.trans e2
    clear s1 s2 s3 t1 t2 t3 d1 d2
    have gs2 := ex_t e2 gs
    walk_at "w"
    generalize hap : ((slp l1 r1 m - slp l2 r2 m).natAbs : Int) = ap at *
    refine for_range (lo := (S : Int) + 1) (Pv := fun i σ' H' => ∃ (s : Nat) (x y : Option V), σ' = [some (.ref a1), some (.ref a2), some (.int S), some (.int m), some (.bl g), some (.int s), some (.ref pp), some (.ref aa), some (.ref bb), some (.int ap), x, y] ∧ Ex H2 H' ∧ (∀ k, k < i → lkV h1 l1 r1 h2 l2 r2 m (S + k) ≤ s * ap) ∧ (s = 0 ∨ ∃ k, k < i ∧ ((s : Int) - 1) * ap < lkV h1 l1 r1 h2 l2 r2 m (S + k)))
      ⟨0, _, _, rfl, Ex.refl _, fun k hk => by omega, .inl rfl⟩ ?_ ?_
    · rintro i σ' H' hi ⟨s, x, y, rfl, e, hu, hlo⟩
      walk_at "w"
      refine ⟨hB, lB, rB, some ((S : Int) + 1 + (i : Int)), dp_ex e dB, dp_of_opt (p := some _), fun n hn => by cases hn; omega, RB, fun v H3 e3 q3 => ?_⟩
      rw [show valueAt hB lB rB (some ((S : Int) + 1 + (i : Int))) = some (fV hB lB rB (S + i)) by rw [show (S : Int) + 1 + i = ((S + i : Nat) : Int) + 1 by omega]; exact vat_fV hlB _] at q3
      obtain rfl := dp_toOpt q3
      walk_at "w"
      refine ⟨hA, lA, rA, some ((S : Int) + 1 + (i : Int)), dp_ex (e.trans e3) dA, dp_of_opt (p := some _), fun n hn => by cases hn; omega, RA, fun v H4 e4 q4 => ?_⟩
      rw [show valueAt hA lA rA (some ((S : Int) + 1 + (i : Int))) = some (fV hA lA rA (S + i)) by rw [show (S : Int) + 1 + i = ((S + i : Nat) : Int) + 1 by omega]; exact vat_fV hlA _] at q4
      obtain rfl := dp_toOpt q4
      simp only [optV]
      walk_at "w"
      have E4 := (e.trans e3).trans e4
      have lkE := hlk (S + i)
      generalize lkV h1 l1 r1 h2 l2 r2 m = lk at *
      cases g with
      | true =>
        rw [if_pos rfl] at lkE
        walk_at "w"
        rw [lkE]
        by_cases c3 : 0 < lk (S + i)
        · obtain ⟨s', w1, w2, w3⟩ := steps_go ha hu hlo c3
          walk_at "w"
          rw [← w1]
          exact ⟨s', _, _, rfl, E4, w2, w3⟩
        · obtain ⟨w2, w3⟩ := steps_stay ha hu hlo c3
          walk_at "w"
          exact ⟨s, _, _, rfl, E4, w2, w3⟩
      | false =>
        rw [if_neg (by decide)] at lkE
        walk_at "w"
        rw [lkE]
        by_cases c3 : 0 < lk (S + i)
        · obtain ⟨s', w1, w2, w3⟩ := steps_go ha hu hlo c3
          walk_at "w"
          rw [← w1]
          exact ⟨s', _, _, rfl, E4, w2, w3⟩
        · obtain ⟨w2, w3⟩ := steps_stay ha hu hlo c3
          walk_at "w"
          exact ⟨s, _, _, rfl, E4, w2, w3⟩
    · rintro σ' H' ⟨s, x, y, rfl, e, hu, hlo⟩
      walk_at "w"
      refine k s H' (e12.trans e) ⟨fun h => absurd h (by omega), fun _ k hk => hu k (by omega), hlo.imp id fun ⟨k, a, b⟩ => ⟨k, by omega, b⟩⟩

theorem slp_mul {l : List Int} {r : Int} {m q : Nat} (hl : l ≠ []) (d : l.length ∣ m) : slp l r (m * q) = slp l r m * q := by
  have l0 : 0 < l.length := List.length_pos_iff.mpr hl
  obtain ⟨p, rfl⟩ := d
  unfold slp
  have e1 : ((l.length * p * q : Nat) : Int) / l.length = ((p * q : Nat) : Int) := by rw [Nat.mul_assoc, Int.natCast_mul, Int.mul_ediv_cancel_left _ (by omega)]
  have e2 : ((l.length * p : Nat) : Int) / l.length = (p : Int) := by rw [Int.natCast_mul, Int.mul_ediv_cancel_left _ (by omega)]
  rw [e1, e2, Int.natCast_mul, Int.mul_assoc]
theorem fV_per {h l : List Int} {r : Int} {m : Nat} (hl : l ≠ []) (d : l.length ∣ m) {j : Nat} (hj : h.length ≤ j) : fV h l r (j + m) = fV h l r j + slp l r m := by
  have l0 : 0 < l.length := List.length_pos_iff.mpr hl
  obtain ⟨p, rfl⟩ := d
  have P := (extL_per (r := r) hl).mulN p ((j : Int) - h.length)
  rw [fV_loop (by omega), fV_loop hj]
  unfold slp
  rw [Int.natCast_mul, Int.mul_ediv_cancel_left _ (by omega), ← P]
  congr 1
  rw [Int.natCast_add, Int.natCast_mul]
  omega
theorem fV_perN {h l : List Int} {r : Int} {m : Nat} (hl : l ≠ []) (d : l.length ∣ m) {j : Nat} (hj : h.length ≤ j) : ∀ t : Nat, fV h l r (j + m * t) = fV h l r j + slp l r m * t
  | 0 => by simp
  | t + 1 => by
    rw [Nat.mul_succ, show j + (m * t + m) = (j + m * t) + m by omega, fV_per hl d (by omega), fV_perN hl d hj t, Int.natCast_add, Int.mul_add]
    omega
section
variable {P : Nat}
/-- a pace of growth: by a in P places -/
def Slo (P : Nat) (f : Nat → Option Int) (a : Int) : Prop := ∃ c, ∀ j, c ≤ j → ∃ v, f j = some v ∧ f (j + P) = some (v + a)
theorem Slo.uniq {f : Nat → Option Int} {a b : Int} (x : Slo P f a) (y : Slo P f b) : a = b := by
  obtain ⟨c, hc⟩ := x
  obtain ⟨d, hd⟩ := y
  obtain ⟨u, h1, h2⟩ := hc (c + d) (by omega)
  obtain ⟨v, h3, h4⟩ := hd (c + d) (by omega)
  rw [h1] at h3
  cases h3
  rw [h2] at h4
  have := Option.some.inj h4
  omega
theorem Slo.tab {h l : List Int} {r : Int} (hl : l ≠ []) (d : l.length ∣ P) : Slo P (TV h l r) (slp l r P) := ⟨h.length, fun j hj => ⟨fV h l r j, by unfold TV; rw [if_neg hl], by unfold TV; rw [if_neg hl, fV_per hl d hj]⟩⟩
/-- from N on the steeper one is not less -/
def Sr (P N : Nat) (f g : Nat → Option Int) : Prop := ∀ a b, Slo P f a → Slo P g b → b < a → ∀ j, N ≤ j → ∀ u v, f j = some u → g j = some v → v ≤ u
/-- ended at N, or going on for ever -/
def Knd (P N : Nat) (f : Nat → Option Int) : Prop := (∀ j, N ≤ j → f j = none) ∨ ((∃ a, Slo P f a) ∧ ∀ j, f j ≠ none)
theorem jn_none {g : Bool} {a b : Option Int} (h : jnO g a b ≠ none) : g = true → a ≠ none ∧ b ≠ none := fun e => by
  subst e
  cases a with
  | none => exact absurd (topO_none b).2 h
  | some a =>
    cases b with
    | none => exact absurd (topO_none (some a)).1 h
    | some b => exact ⟨fun e => (by cases e), fun e => (by cases e)⟩
theorem jn_ex {g : Bool} {f1 f2 : Nat → Option Int} {N : Nat} (G1 : Gd f1) (G2 : Gd f2) (K1 : Knd P N f1) (K2 : Knd P N f2) (s12 : Sr P N f1 f2) (s21 : Sr P N f2 f1) :
    Knd P N (JV g f1 f2) ∧ ∀ a, Slo P (JV g f1 f2) a → ∀ j, N ≤ j → ∀ u, JV g f1 f2 j = some u → (f1 j = some u ∧ Slo P f1 a) ∨ (f2 j = some u ∧ Slo P f2 a) := by
  rcases K1 with E1 | ⟨⟨a1, S1⟩, n1⟩
  · rcases K2 with E2 | ⟨⟨a2, S2⟩, n2⟩
    · have e : ∀ j, N ≤ j → JV g f1 f2 j = none := fun j hj => by unfold JV; rw [E1 j hj, E2 j hj]; cases g <;> rfl
      exact ⟨.inl e, fun a _ j hj u h => by rw [e j hj] at h; cases h⟩
    · cases g with
      | true =>
        have e : ∀ j, N ≤ j → JV true f1 f2 j = none := fun j hj => by unfold JV; rw [E1 j hj]; exact (topO_none _).2
        exact ⟨.inl e, fun a _ j hj u h => by rw [e j hj] at h; cases h⟩
      | false =>
        have e : ∀ j, N ≤ j → JV false f1 f2 j = f2 j := fun j hj => by unfold JV; rw [E1 j hj]; exact (lowO_none _).2
        have sl : Slo P (JV false f1 f2) a2 := by
          obtain ⟨c, hc⟩ := S2
          exact ⟨c + N, fun j hj => by rw [e j (by omega), e (j + P) (by omega)]; exact hc j (by omega)⟩
        refine ⟨.inr ⟨⟨a2, sl⟩, fun j h => ?_⟩, fun a h j hj u hu => .inr ⟨by rw [← e j hj]; exact hu, (h.uniq sl) ▸ S2⟩⟩
        have : JV false f1 f2 (j + N) = none := gd_none (G1.join false G2) h (j + N) (by omega)
        rw [e _ (by omega)] at this
        exact n2 _ this
  · rcases K2 with E2 | ⟨⟨a2, S2⟩, n2⟩
    · cases g with
      | true =>
        have e : ∀ j, N ≤ j → JV true f1 f2 j = none := fun j hj => by unfold JV; rw [E2 j hj]; exact (topO_none _).1
        exact ⟨.inl e, fun a _ j hj u h => by rw [e j hj] at h; cases h⟩
      | false =>
        have e : ∀ j, N ≤ j → JV false f1 f2 j = f1 j := fun j hj => by unfold JV; rw [E2 j hj]; exact (lowO_none _).1
        have sl : Slo P (JV false f1 f2) a1 := by
          obtain ⟨c, hc⟩ := S1
          exact ⟨c + N, fun j hj => by rw [e j (by omega), e (j + P) (by omega)]; exact hc j (by omega)⟩
        refine ⟨.inr ⟨⟨a1, sl⟩, fun j h => ?_⟩, fun a h j hj u hu => .inl ⟨by rw [← e j hj]; exact hu, (h.uniq sl) ▸ S1⟩⟩
        have : JV false f1 f2 (j + N) = none := gd_none (G1.join false G2) h (j + N) (by omega)
        rw [e _ (by omega)] at this
        exact n1 _ this
    · have hv1 : ∀ j, ∃ v, f1 j = some v := fun j => by
        cases e : f1 j with
        | none => exact absurd e (n1 j)
        | some v => exact ⟨v, rfl⟩
      have hv2 : ∀ j, ∃ v, f2 j = some v := fun j => by
        cases e : f2 j with
        | none => exact absurd e (n2 j)
        | some v => exact ⟨v, rfl⟩
      have hJ : ∀ j, ∃ u v, f1 j = some u ∧ f2 j = some v ∧ JV g f1 f2 j = some (if g = true then max u v else min u v) := fun j => by
        obtain ⟨u, hu⟩ := hv1 j
        obtain ⟨v, hv⟩ := hv2 j
        exact ⟨u, v, hu, hv, by unfold JV; rw [hu, hv]; exact jnO_some g u v⟩
      have hne : ∀ j, JV g f1 f2 j ≠ none := fun j h => by
        obtain ⟨u, v, _, _, e⟩ := hJ j
        rw [e] at h
        cases h
      have one : ∀ {a : Int}, Slo P f1 a → (∀ j, N ≤ j → JV g f1 f2 j = f1 j) → Slo P (JV g f1 f2) a := fun {a} S e => by
        obtain ⟨c, hc⟩ := S
        exact ⟨c + N, fun j hj => by rw [e j (by omega), e (j + P) (by omega)]; exact hc j (by omega)⟩
      have two : ∀ {a : Int}, Slo P f2 a → (∀ j, N ≤ j → JV g f1 f2 j = f2 j) → Slo P (JV g f1 f2) a := fun {a} S e => by
        obtain ⟨c, hc⟩ := S
        exact ⟨c + N, fun j hj => by rw [e j (by omega), e (j + P) (by omega)]; exact hc j (by omega)⟩
      rcases Int.lt_trichotomy a1 a2 with h | h | h
      · have ge : ∀ j, N ≤ j → ∀ u v, f1 j = some u → f2 j = some v → u ≤ v := fun j hj u v hu hv => s21 a2 a1 S2 S1 h j hj v u hv hu
        cases g with
        | true =>
          have e : ∀ j, N ≤ j → JV true f1 f2 j = f2 j := fun j hj => by
            obtain ⟨u, v, hu, hv, hj'⟩ := hJ j
            rw [hj', hv, if_pos rfl, Int.max_eq_right (ge j hj u v hu hv)]
          exact ⟨.inr ⟨⟨a2, two S2 e⟩, hne⟩, fun a hs j hj u hu => .inr ⟨by rw [← e j hj]; exact hu, (hs.uniq (two S2 e)) ▸ S2⟩⟩
        | false =>
          have e : ∀ j, N ≤ j → JV false f1 f2 j = f1 j := fun j hj => by
            obtain ⟨u, v, hu, hv, hj'⟩ := hJ j
            rw [hj', hu, if_neg (by decide), Int.min_eq_left (ge j hj u v hu hv)]
          exact ⟨.inr ⟨⟨a1, one S1 e⟩, hne⟩, fun a hs j hj u hu => .inl ⟨by rw [← e j hj]; exact hu, (hs.uniq (one S1 e)) ▸ S1⟩⟩
      · subst h
        have sl : Slo P (JV g f1 f2) a1 := by
          obtain ⟨c, hc⟩ := S1
          obtain ⟨d, hd⟩ := S2
          refine ⟨c + d, fun j hj => ?_⟩
          obtain ⟨u, h1, h2⟩ := hc j (by omega)
          obtain ⟨v, h3, h4⟩ := hd j (by omega)
          refine ⟨if g = true then max u v else min u v, by unfold JV; rw [h1, h3]; exact jnO_some g u v, ?_⟩
          unfold JV
          rw [h2, h4, jnO_some]
          cases g
          · rw [if_neg (by decide), if_neg (by decide)]; congr 1; omega
          · rw [if_pos rfl, if_pos rfl]; congr 1; omega
        refine ⟨.inr ⟨⟨a1, sl⟩, hne⟩, fun a hs j hj u hu => ?_⟩
        rw [hs.uniq sl]
        exact (jnO_val hu).imp (fun e => ⟨e, S1⟩) fun e => ⟨e, S2⟩
      · have ge : ∀ j, N ≤ j → ∀ u v, f1 j = some u → f2 j = some v → v ≤ u := fun j hj u v hu hv => s12 a1 a2 S1 S2 h j hj u v hu hv
        cases g with
        | true =>
          have e : ∀ j, N ≤ j → JV true f1 f2 j = f1 j := fun j hj => by
            obtain ⟨u, v, hu, hv, hj'⟩ := hJ j
            rw [hj', hu, if_pos rfl, Int.max_eq_left (ge j hj u v hu hv)]
          exact ⟨.inr ⟨⟨a1, one S1 e⟩, hne⟩, fun a hs j hj u hu => .inl ⟨by rw [← e j hj]; exact hu, (hs.uniq (one S1 e)) ▸ S1⟩⟩
        | false =>
          have e : ∀ j, N ≤ j → JV false f1 f2 j = f2 j := fun j hj => by
            obtain ⟨u, v, hu, hv, hj'⟩ := hJ j
            rw [hj', hv, if_neg (by decide), Int.min_eq_right (ge j hj u v hu hv)]
          exact ⟨.inr ⟨⟨a2, two S2 e⟩, hne⟩, fun a hs j hj u hu => .inr ⟨by rw [← e j hj]; exact hu, (hs.uniq (two S2 e)) ▸ S2⟩⟩
/-- what is put together is sorted against a third one -/
theorem Sr.joinL {g : Bool} {f1 f2 f3 : Nat → Option Int} {N : Nat} (G1 : Gd f1) (G2 : Gd f2) (K1 : Knd P N f1) (K2 : Knd P N f2) (s12 : Sr P N f1 f2) (s21 : Sr P N f2 f1) (s13 : Sr P N f1 f3) (s23 : Sr P N f2 f3) : Sr P N (JV g f1 f2) f3 := by
  intro a b ha hb hab j hj u v hu hv
  rcases (jn_ex G1 G2 K1 K2 s12 s21).2 a ha j hj u hu with ⟨e, s⟩ | ⟨e, s⟩
  · exact s13 a b s hb hab j hj u v e hv
  · exact s23 a b s hb hab j hj u v e hv
theorem Sr.joinR {g : Bool} {f1 f2 f3 : Nat → Option Int} {N : Nat} (G1 : Gd f1) (G2 : Gd f2) (K1 : Knd P N f1) (K2 : Knd P N f2) (s12 : Sr P N f1 f2) (s21 : Sr P N f2 f1) (s31 : Sr P N f3 f1) (s32 : Sr P N f3 f2) : Sr P N f3 (JV g f1 f2) := by
  intro a b ha hb hab j hj u v hu hv
  rcases (jn_ex G1 G2 K1 K2 s12 s21).2 b hb j hj v hv with ⟨e, s⟩ | ⟨e, s⟩
  · exact s31 a b ha s hab j hj u v hu e
  · exact s32 a b ha s hab j hj u v hu e
theorem lkV_swap {h1 l1 h2 l2 : List Int} {r1 r2 : Int} {m : Nat} (h : slp l1 r1 m ≠ slp l2 r2 m) : lkV h1 l1 r1 h2 l2 r2 m = lkV h2 l2 r2 h1 l1 r1 m := by
  funext j
  unfold lkV
  by_cases c : slp l1 r1 m > slp l2 r2 m
  · rw [if_pos c, if_neg (by omega)]
  · rw [if_neg c, if_pos (by omega)]
/-- with enough rounds the flatter one is no more greater -/
theorem join_one {N : Nat} {h1 l1 h2 l2 : List Int} {r1 r2 : Int} {S m s : Nat} (hl1 : l1 ≠ []) (hl2 : l2 ≠ []) (z1 : h1.length ≤ S) (z2 : h2.length ≤ S) (zS : S ≤ N + 2 * P) (d1 : l1.length ∣ m) (d2 : l2.length ∣ m) (dm : m ∣ P)
    (hP : 0 < P) (s12 : Sr P N (TV h1 l1 r1) (TV h2 l2 r2)) (c : slp l1 r1 m > slp l2 r2 m) (st : Steps (lkV h1 l1 r1 h2 l2 r2 m) S m ((slp l1 r1 m - slp l2 r2 m).natAbs : Int) s) :
    S + s * m ≤ N + 2 * P ∧ ∀ j, S + s * m ≤ j → fV h2 l2 r2 j ≤ fV h1 l1 r1 j := by
  obtain ⟨q, hq⟩ := dm
  have m0 : 0 < m := Nat.pos_of_ne_zero fun e => by rw [e, Nat.zero_mul] at hq; omega
  have q0 : 0 < q := Nat.pos_of_ne_zero fun e => by rw [e, Nat.mul_zero] at hq; omega
  have m12 : m ≤ P := by
    rw [hq]
    exact Nat.le_mul_of_pos_right m q0
  have dv1 : l1.length ∣ P := hq ▸ Nat.dvd_trans d1 (Nat.dvd_mul_right m q)
  have dv2 : l2.length ∣ P := hq ▸ Nat.dvd_trans d2 (Nat.dvd_mul_right m q)
  obtain ⟨z, up, lo⟩ := st
  have eap : ((slp l1 r1 m - slp l2 r2 m).natAbs : Int) = slp l1 r1 m - slp l2 r2 m := by omega
  have lk : ∀ j, lkV h1 l1 r1 h2 l2 r2 m j = fV h2 l2 r2 j - fV h1 l1 r1 j := fun j => by unfold lkV; rw [if_pos c]
  have lkP : ∀ j t, S ≤ j → lkV h1 l1 r1 h2 l2 r2 m (j + m * t) = lkV h1 l1 r1 h2 l2 r2 m j - (slp l1 r1 m - slp l2 r2 m) * t := fun j t hj => by
    rw [lk, lk, fV_perN hl1 d1 (by omega), fV_perN hl2 d2 (by omega), Int.sub_mul]
    omega
  have big : ∀ j, N ≤ j → fV h2 l2 r2 j ≤ fV h1 l1 r1 j := fun j hj => by
    refine s12 _ _ (Slo.tab hl1 dv1) (Slo.tab hl2 dv2) ?_ j hj _ _ (by unfold TV; rw [if_neg hl1]) (by unfold TV; rw [if_neg hl2])
    rw [hq, slp_mul hl1 d1, slp_mul hl2 d2]
    exact Int.mul_lt_mul_of_pos_right c (by omega)
  rw [eap] at up lo
  refine ⟨?_, fun j hj => ?_⟩
  · rcases lo with e | ⟨k, hk, hlt⟩
    · rw [e]; omega
    · by_cases e : s = 0
      · rw [e]; omega
      · have := lkP (S + k) (s - 1) (by omega)
        rw [show ((s - 1 : Nat) : Int) = (s : Int) - 1 by omega, Int.mul_comm] at this
        have hb : S + k + m * (s - 1) < N := by
          rcases Nat.lt_or_ge (S + k + m * (s - 1)) N with h | h
          · exact h
          · have := big _ h
            have := lk (S + k + m * (s - 1))
            omega
        obtain ⟨t, rfl⟩ : ∃ t, s = t + 1 := ⟨s - 1, by omega⟩
        rw [show t + 1 - 1 = t by omega] at hb
        rw [Nat.add_mul, Nat.mul_comm t m]
        omega
  · have hk : (j - S) % m < m := Nat.mod_lt _ m0
    have hm : (j - S) % m + m * ((j - S) / m) = j - S := Nat.mod_add_div ..
    have ht : s ≤ (j - S) / m := (Nat.le_div_iff_mul_le m0).mpr (by omega)
    have e := lkP (S + (j - S) % m) ((j - S) / m) (by omega)
    rw [show S + (j - S) % m + m * ((j - S) / m) = j by omega, lk] at e
    have u := up (by omega) ((j - S) % m) hk
    have w := Int.mul_le_mul_of_nonneg_left (show (s : Int) ≤ (((j - S) / m : Nat) : Int) by omega) (show 0 ≤ slp l1 r1 m - slp l2 r2 m by omega)
    rw [Int.mul_comm] at u
    omega
/-- from where on two tables put together go on evenly -/
theorem join_main {N : Nat} {h1 l1 h2 l2 : List Int} {r1 r2 : Int} {S m s : Nat} (g : Bool) (hl1 : l1 ≠ []) (hl2 : l2 ≠ []) (z1 : h1.length ≤ S) (z2 : h2.length ≤ S) (zS : S ≤ N + 2 * P) (d1 : l1.length ∣ m) (d2 : l2.length ∣ m) (dm : m ∣ P)
    (hP : 0 < P) (s12 : Sr P N (TV h1 l1 r1) (TV h2 l2 r2)) (s21 : Sr P N (TV h2 l2 r2) (TV h1 l1 r1)) (st : Steps (lkV h1 l1 r1 h2 l2 r2 m) S m ((slp l1 r1 m - slp l2 r2 m).natAbs : Int) s) :
    S + s * m ≤ N + 2 * P ∧ (∀ j, S + s * m ≤ j → JV g (TV h1 l1 r1) (TV h2 l2 r2) (j + m) = (JV g (TV h1 l1 r1) (TV h2 l2 r2) j).map (· + (if g = true then max (slp l1 r1 m) (slp l2 r2 m) else min (slp l1 r1 m) (slp l2 r2 m)))) ∧ ∀ j, JV g (TV h1 l1 r1) (TV h2 l2 r2) j ≠ none := by
  have J : ∀ j, JV g (TV h1 l1 r1) (TV h2 l2 r2) j = some (if g = true then max (fV h1 l1 r1 j) (fV h2 l2 r2 j) else min (fV h1 l1 r1 j) (fV h2 l2 r2 j)) := fun j => by
    unfold JV TV
    rw [if_neg hl1, if_neg hl2]
    exact jnO_some g _ _
  refine and_assoc.mp ⟨?_, fun j h => by rw [J] at h; cases h⟩
  rcases Int.lt_trichotomy (slp l1 r1 m) (slp l2 r2 m) with c | c | c
  · rw [lkV_swap (by omega), show (slp l1 r1 m - slp l2 r2 m).natAbs = (slp l2 r2 m - slp l1 r1 m).natAbs by omega] at st
    obtain ⟨a, b⟩ := join_one hl2 hl1 z2 z1 zS d2 d1 dm hP s21 c st
    refine ⟨a, fun j hj => ?_⟩
    have p := b j hj
    have q := b (j + m) (by omega)
    rw [J, J, fV_per hl1 d1 (by omega), fV_per hl2 d2 (by omega)]
    show some _ = some _
    congr 1
    rw [fV_per hl1 d1 (by omega), fV_per hl2 d2 (by omega)] at q
    dsimp only
    cases g
    · rw [if_neg (by decide), if_neg (by decide), if_neg (by decide)]; omega
    · rw [if_pos rfl, if_pos rfl, if_pos rfl]; omega
  · have s0 := st.z (by rw [c, Int.sub_self]; rfl)
    subst s0
    refine ⟨by omega, fun j hj => ?_⟩
    rw [J, J, fV_per hl1 d1 (by omega), fV_per hl2 d2 (by omega)]
    show some _ = some _
    congr 1
    dsimp only
    cases g
    · rw [if_neg (by decide), if_neg (by decide), if_neg (by decide)]; omega
    · rw [if_pos rfl, if_pos rfl, if_pos rfl]; omega
  · obtain ⟨a, b⟩ := join_one hl1 hl2 z1 z2 zS d1 d2 dm hP s12 c st
    refine ⟨a, fun j hj => ?_⟩
    have p := b j hj
    have q := b (j + m) (by omega)
    rw [J, J, fV_per hl1 d1 (by omega), fV_per hl2 d2 (by omega)]
    rw [fV_per hl1 d1 (by omega), fV_per hl2 d2 (by omega)] at q
    show some _ = some _
    congr 1
    dsimp only
    cases g
    · rw [if_neg (by decide), if_neg (by decide), if_neg (by decide)]; omega
    · rw [if_pos rfl, if_pos rfl, if_pos rfl]; omega
end

section
variable {P : Nat}
/-- a table of the family: N bounds its head, its loop goes around in P -/
structure Cl (P N : Nat) (h l : List Int) (r : Int) : Prop where
  val : Val h l r
  zh : h.length ≤ N + 2 * P
  dv : l ≠ [] → l.length ∣ P
  sb : slp l r P ≤ 10000000000
  kd : l = [] → h.length ≤ N
theorem Cl.zl {N : Nat} {h l : List Int} {r : Int} (hP : 0 < P) (C : Cl P N h l r) : l.length ≤ P := by
  by_cases c : l = []
  · subst c; exact Nat.zero_le _
  · exact Nat.le_of_dvd hP (C.dv c)
theorem slp_ge {l : List Int} {r : Int} (hP : 0 < P) (hl : l ≠ []) (d : l.length ∣ P) (h0 : 0 ≤ r) : r ≤ slp l r P := by
  obtain ⟨q, hq⟩ := d
  have l0 : 0 < l.length := List.length_pos_iff.mpr hl
  have q0 : 0 < q := Nat.pos_of_ne_zero fun e => by rw [e, Nat.mul_zero] at hq; omega
  unfold slp
  rw [hq, Int.natCast_mul, Int.mul_ediv_cancel_left _ (by omega)]
  have := Int.mul_le_mul_of_nonneg_left (show (1 : Int) ≤ (q : Int) by omega) h0
  rwa [Int.mul_one] at this
theorem Cl.br {N : Nat} {h l : List Int} {r : Int} (hP : 0 < P) (C : Cl P N h l r) : r ≤ 10000000000 := by
  by_cases c : l = []
  · rw [C.val.e0 c]; decide
  · exact Int.le_trans (slp_ge hP c (C.dv c) C.val.r0) C.sb
theorem Cl.knd {N : Nat} {h l : List Int} {r : Int} (C : Cl P N h l r) : Knd P N (TV h l r) := by
  by_cases c : l = []
  · refine .inl fun j hj => ?_
    have := C.kd c
    unfold TV
    rw [if_pos c, List.getElem?_eq_none (by omega)]
  · exact .inr ⟨⟨_, Slo.tab c (C.dv c)⟩, fun j h => by unfold TV at h; rw [if_neg c] at h; cases h⟩
theorem cl_plain {N : Nat} {h l : List Int} {r : Int} (V : Val h l r) (zh : h.length ≤ N + 2 * P) (hl : l ≠ []) (d : l.length ∣ P) (sb : slp l r P ≤ 10000000000) :
    Cl P N (plainF h l r).1 (plainF h l r).2.1 (plainF h l r).2.2 := by
  obtain ⟨a, b, c, e, f⟩ := plainF_val V
  obtain ⟨f1, q, f2, f3⟩ := f hl
  have dd : (plainF h l r).2.1.length ∣ P := Nat.dvd_trans ⟨q, f2⟩ d
  refine ⟨a, by omega, fun _ => dd, ?_, fun q => absurd q f1⟩
  obtain ⟨p, hp⟩ := d
  have l0 : 0 < l.length := List.length_pos_iff.mpr hl
  have l1 : 0 < (plainF h l r).2.1.length := List.length_pos_iff.mpr f1
  have e1 : slp l r P = r * p := by
    unfold slp
    rw [hp, Int.natCast_mul, Int.mul_ediv_cancel_left _ (by omega)]
  have e2 : slp (plainF h l r).2.1 (plainF h l r).2.2 P = (plainF h l r).2.2 * (q * p : Nat) := by
    unfold slp
    rw [hp, f2, Nat.mul_assoc, Int.natCast_mul, Int.mul_ediv_cancel_left _ (by omega)]
  rw [e2, Int.natCast_mul, ← Int.mul_assoc, ← f3, ← e1]
  exact sb
theorem cl_self {N : Nat} {h l : List Int} {r : Int} (V : Val h l r) (zh : h.length ≤ N) (d : l ≠ [] → l.length ∣ P) (sb : slp l r P ≤ 10000000000) : Cl P N h l r := ⟨V, by omega, d, sb, fun _ => zh⟩
theorem cl_plain2 {N : Nat} {h l : List Int} {r : Int} (C : Cl P N h l r) : Cl P N (plainF h l r).1 (plainF h l r).2.1 (plainF h l r).2.2 := by
  by_cases c : l = []
  · subst c
    have r0 := C.val.e0 rfl
    subst r0
    rw [plainF_nil]
    exact C
  · exact cl_plain C.val C.zh c (C.dv c) C.sb
/-- what ends -/
theorem join_end {N : Nat} {f : Nat → Option Int} (G : Gd f) {n : Nat} (hn : f n = none) (zn : n ≤ N + 2 * P) (zP : P ≤ 2000) (zN : N ≤ 40000) (hN : ∀ j, N ≤ j → f j = none) :
    Cl P N (cnts ((List.range (n + 1)).map f)) [] 0 ∧ Pl f (cnts ((List.range (n + 1)).map f)) [] 0 := by
  obtain ⟨V, T, z⟩ := val_end G hn (by omega)
  refine ⟨⟨V, by omega, fun e => absurd rfl e, by show (0 : Int) * _ ≤ _; rw [Int.zero_mul]; decide, fun _ => ?_⟩, ⟨V, plainF_nil, T⟩⟩
  have := T N
  rw [hN N (Nat.le_refl _)] at this
  exact List.getElem?_eq_none_iff.mp this
/-- what goes on -/
theorem join_go {N : Nat} {f : Nat → Option Int} (G : Gd f) {xs : List Int} {S m : Nat} {d : Int} (m0 : 1 ≤ m) (dm : m ∣ P) (hc : ∀ j, f j ≠ none) (per : ∀ j, S ≤ j → f (j + m) = (f j).map (· + d))
    (hx : xs.map some = (List.range (S + m)).map f) (zS : S ≤ N + 2 * P) (hP : 0 < P) (zP : P ≤ 2000) (zN : N ≤ 40000) (d0 : 0 ≤ d) (sb : d * ((P / m : Nat) : Int) ≤ 10000000000) :
    RSm (xs.take S) (xs.drop S) d ∧ xs.length = S + m ∧ Cl P N (plainF (xs.take S) (xs.drop S) d).1 (plainF (xs.take S) (xs.drop S) d).2.1 (plainF (xs.take S) (xs.drop S) d).2.2 ∧
      Pl f (plainF (xs.take S) (xs.drop S) d).1 (plainF (xs.take S) (xs.drop S) d).2.1 (plainF (xs.take S) (xs.drop S) d).2.2 := by
  have zm : m ≤ P := Nat.le_of_dvd hP dm
  obtain ⟨q, hq⟩ := dm
  have q0 : 0 < q := Nat.pos_of_ne_zero fun e => by rw [e, Nat.mul_zero] at hq; omega
  have hdiv : P / m = q := by rw [hq, Nat.mul_div_cancel_left _ m0]
  rw [hdiv] at sb
  have zd : d ≤ 10000000000 := by
    have := Int.mul_le_mul_of_nonneg_left (show (1 : Int) ≤ (q : Int) by omega) d0
    rw [Int.mul_one] at this
    omega
  obtain ⟨V, ne, hl, T⟩ := val_on G m0 hc per hx (by omega) (by omega) (by omega)
  have e2 : (xs.drop S).length = m := by rw [List.length_drop]; omega
  have e1 : (xs.take S).length = S := by rw [List.length_take]; omega
  obtain ⟨a, b, c, _⟩ := plainF_val V
  refine ⟨V.sm, hl, cl_plain V (by omega) ne (e2 ▸ ⟨q, hq⟩) ?_, ⟨a, c, fun j => (b j).trans (T j)⟩⟩
  unfold slp
  rw [e2, hq, Int.natCast_mul, Int.mul_ediv_cancel_left _ (by omega)]
  exact sb
end

theorem len0 (l : List Int) : decide ((l.length : Int) = 0) = decide (l = []) := by
  cases l with
  | nil => rfl
  | cons x y =>
    have a : ¬ (((x :: y).length : Int) = 0) := by rw [List.length_cons]; omega
    have b : ¬ (x :: y = []) := fun h => by cases h
    rw [decide_eq_false a, decide_eq_false b]
theorem dp_two {K : PySem.W.Frag} {H : Hp} {ys : List V} {b1 b2 : Bool} (h : DpAll K H ys [.bool b1, .bool b2]) : ys = [.bl b1, .bl b2] := by
  cases h with
  | cons a r =>
    cases r with
    | cons b r =>
      cases r
      obtain rfl := dp_toBl a
      obtain rfl := dp_toBl b
      rfl
theorem dp_two_i {K : PySem.W.Frag} {H : Hp} {ys : List V} {b1 b2 : Int} (h : DpAll K H ys [.int b1, .int b2]) : ys = [.int b1, .int b2] := by
  cases h with
  | cons a r =>
    cases r with
    | cons b r =>
      cases r
      obtain rfl := dp_toInt a
      obtain rfl := dp_toInt b
      rfl
theorem tv_nil {h l : List Int} {r : Int} {j : Nat} (c : l = []) (hj : h.length ≤ j) : TV h l r j = none := by
  unfold TV
  rw [if_pos c, List.getElem?_eq_none hj]
theorem tv_some {h l : List Int} {r : Int} {j : Nat} (c : l ≠ []) : TV h l r j = some (fV h l r j) := by
  unfold TV
  rw [if_neg c]
theorem slp_self {l : List Int} {r : Int} (c : l ≠ []) : slp l r l.length = r := by
  have l0 : 0 < l.length := List.length_pos_iff.mpr c
  unfold slp
  rw [Int.ediv_self (by omega), Int.mul_one]
theorem slp_12 {l : List Int} {r : Int} : r * ((12 / l.length : Nat) : Int) = slp l r 12 := by
  unfold slp
  rw [Int.natCast_ediv]

theorem gI_map {l : List Int} {f : Int → Int} {i : Nat} (h : i < l.length) : gI (l.map f) i = f (gI l i) := by
  unfold gI
  rw [Int.toNat_natCast, List.getD_eq_getElem?_getD, List.getD_eq_getElem?_getD, List.getElem?_map, List.getElem?_eq_getElem h]
  rfl
theorem val_add {h l : List Int} {r r' m : Int} (V : Val h l r) (m0 : 0 ≤ m) (r0 : 0 ≤ r') (r1 : r' < 1152921504606846976) (e0 : l = [] → r' = 0) (ll : l ≠ [] → gI l (l.length - 1) ≤ gI l 0 + r') : Val h (l.map (· + m)) r' := by
  obtain ⟨z1, z2, z3, z4⟩ := V.sm
  have g0 : l ≠ [] → gI (l.map (· + m)) 0 = gI l 0 + m := fun c => gI_map (i := 0) (List.length_pos_iff.mpr c)
  refine ⟨V.p1, fun n hn => ?_, V.r1, fun i hi => ?_, r0, fun e => e0 (List.map_eq_nil_iff.mp e), fun c d => ?_, fun d => ?_, ⟨by omega, r1, z3, by rw [List.length_map]; exact z4⟩⟩
  · obtain ⟨k, hk, rfl⟩ := List.mem_map.mp hn
    have := V.p2 k hk
    omega
  · rw [List.length_map] at hi
    have := V.r2 i hi
    rw [show (i : Int) + 1 = ((i + 1 : Nat) : Int) by omega] at this ⊢
    rw [gI_map hi, gI_map (by omega)]
    omega
  · have c' : l ≠ [] := fun e => d (by rw [e]; rfl)
    rw [g0 c']
    have := V.hl c c'
    omega
  · have c' : l ≠ [] := fun e => d (by rw [e]; rfl)
    have l0 : 0 < l.length := List.length_pos_iff.mpr c'
    have := ll c'
    rw [g0 c', List.length_map, show (l.length : Int) - 1 = ((l.length - 1 : Nat) : Int) by omega, gI_map (by omega)]
    rw [show (l.length : Int) - 1 = ((l.length - 1 : Nat) : Int) by omega] at this
    omega
theorem val_half {h l : List Int} {r : Int} (V : Val h l r) (hl : l ≠ []) (rb : r + 1 < 1152921504606846976) : Val (h.map (· / 2)) l (r + 1) := by
  obtain ⟨z1, z2, z3, z4⟩ := V.sm
  have r0 := V.r0
  refine ⟨fun n hn => ?_, V.p2, fun i hi => ?_, V.r2, by omega, fun e => absurd e hl, fun c d => ?_, fun d => by have := V.ll d; omega, ⟨by omega, rb, by rw [List.length_map]; exact z3, z4⟩⟩
  · obtain ⟨k, hk, rfl⟩ := List.mem_map.mp hn
    have := V.p1 k hk
    omega
  · rw [List.length_map] at hi
    have := V.r1 i hi
    rw [show (i : Int) + 1 = ((i + 1 : Nat) : Int) by omega] at this ⊢
    rw [gI_map hi, gI_map (by omega)]
    omega
  · have c' : h ≠ [] := fun e => c (by rw [e]; rfl)
    have l0 : 0 < h.length := List.length_pos_iff.mpr c'
    have := V.hl c' d
    rw [List.length_map, show (h.length : Int) - 1 = ((h.length - 1 : Nat) : Int) by omega, gI_map (by omega)]
    rw [show (h.length : Int) - 1 = ((h.length - 1 : Nat) : Int) by omega] at this
    have := gI_nn V.p1 ((h.length - 1 : Nat) : Int)
    omega
def addV (m : Int) : V → V
  | .int n => .int (n + m)
  | x => x
def halfV : V → V
  | .int n => .int (n / 2)
  | x => x
theorem map_addV (l : List Int) (m : Int) : (vI l).map (addV m) = vI (l.map (· + m)) := by
  show (l.map V.int).map (addV m) = (l.map (· + m)).map V.int
  rw [List.map_map, List.map_map]
  rfl
theorem map_halfV (l : List Int) : (vI l).map halfV = vI (l.map (· / 2)) := by
  show (l.map V.int).map halfV = (l.map (· / 2)).map V.int
  rw [List.map_map, List.map_map]
  rfl

theorem leO_refl (a : Option Int) : leO a a = true := by
  cases a with
  | none => rfl
  | some v => exact leO_some.mpr (Int.le_refl _)
theorem leO_trans {a b c : Option Int} (h : leO a b = true) (h' : leO b c = true) : leO a c = true := by
  cases c with
  | none => cases a <;> rfl
  | some c =>
    cases b with
    | none => cases h'
    | some b =>
      cases a with
      | none => cases h
      | some a =>
        rw [leO_some] at h h' ⊢
        omega
theorem gd_mono {f : Nat → Option Int} (G : Gd f) {i j : Nat} (h : i ≤ j) : leO (f i) (f j) = true := by
  obtain ⟨d, rfl⟩ := Nat.exists_eq_add_of_le h
  clear h
  induction d with
  | zero => exact leO_refl _
  | succ d ih => exact leO_trans ih (G.up (i + d))
theorem fV_mono {h l : List Int} {r : Int} (V : Val h l r) (hl : l ≠ []) {i j : Nat} (c : i ≤ j) : fV h l r i ≤ fV h l r j := by
  have := gd_mono (Gd.of V) c
  rw [tv_some hl, tv_some hl, leO_some] at this
  exact this
/-- a settled table: the loop has one value -/
theorem settled {h l : List Int} (V : Val h l 0) (hl : l ≠ []) {j : Nat} (c : h.length ≤ j) : fV h l 0 j = gI l (l.length - 1) := by
  have l0 : 0 < l.length := List.length_pos_iff.mpr hl
  have e1 : fV h l 0 (h.length + (l.length - 1)) = gI l (l.length - 1) := by
    rw [fV_loop (by omega), show (((h.length + (l.length - 1) : Nat) : Int) - h.length) = ((l.length - 1 : Nat) : Int) by omega, extL_small (by omega)]
    congr 1
    omega
  have e0 : fV h l 0 h.length = gI l 0 := by
    rw [fV_loop (Nat.le_refl _), show ((h.length : Int) - h.length) = ((0 : Nat) : Int) by omega, extL_small l0]
    rfl
  have P : ∀ t : Nat, fV h l 0 (h.length + l.length * t) = gI l 0 := fun t => by
    rw [fV_perN hl (Nat.dvd_refl _) (Nat.le_refl _), e0, slp_self hl]
    omega
  have ll := V.ll hl
  have lo := fV_mono V hl (show h.length ≤ h.length + (l.length - 1) by omega)
  rw [e0, e1] at lo
  have hi := fV_mono V hl (show j ≤ h.length + l.length * j by
    have : j ≤ l.length * j := Nat.le_mul_of_pos_left j l0
    omega)
  have lw := fV_mono V hl c
  rw [P] at hi
  rw [e0] at lw
  omega
/-- values at greater places are no less; never is the greatest place -/
theorem at_mono {h l : List Int} {r : Int} (V : Val h l r) {p q : Option Int} (hp : ∀ i, p = some i → 0 ≤ i) (c : leO p q = true) : leO (valueAt h l r p) (valueAt h l r q) = true := by
  have z : ∀ h l r, vat h l r 0 = some 0 := fun h l r => by unfold vat; rw [if_pos rfl]
  cases p with
  | none =>
    cases q with
    | none => exact leO_refl _
    | some q => cases c
  | some i =>
    have i0 := hp i rfl
    cases q with
    | some k =>
      rw [leO_some] at c
      show leO (vat h l r i) (vat h l r k) = true
      by_cases ci : i = 0
      · subst ci
        rw [z]
        have nn := valueAt_nn V.p1 V.p2 V.r0 (some k)
        cases e : vat h l r k with
        | none => rfl
        | some v => exact leO_some.mpr (nn v e)
      · obtain ⟨a, rfl⟩ : ∃ a : Nat, i = (a : Int) + 1 := ⟨(i - 1).toNat, by omega⟩
        obtain ⟨b, rfl⟩ : ∃ b : Nat, k = (b : Int) + 1 := ⟨(k - 1).toNat, by omega⟩
        rw [vat_TV, vat_TV]
        exact gd_mono (Gd.of V) (by omega)
    | none =>
      show leO (vat h l r i) (endOf l r) = true
      unfold endOf
      split
      · cases vat h l r i <;> rfl
      · rename_i cc
        have hl : l ≠ [] := fun e => cc (.inl e)
        have r0 : r = 0 := by
          have := V.r0
          have : ¬ r > 0 := fun e => cc (.inr e)
          omega
        subst r0
        by_cases ci : i = 0
        · subst ci
          rw [z]
          exact leO_some.mpr (gI_nn V.p2 _)
        · obtain ⟨a, rfl⟩ : ∃ a : Nat, i = (a : Int) + 1 := ⟨(i - 1).toNat, by omega⟩
          rw [vat_TV, tv_some hl, leO_some, ← settled V hl (show h.length ≤ a + h.length by omega)]
          exact fV_mono V hl (by omega)
/-- the values of one table at the values of another one -/
def CV (h1 l1 : List Int) (r1 : Int) (g : Nat → Option Int) (j : Nat) : Option Int := valueAt h1 l1 r1 (g j)
theorem Gd.comp {h l : List Int} {r : Int} {g : Nat → Option Int} (V : Val h l r) (G : Gd g) : Gd (CV h l r g) :=
  ⟨fun j => at_mono V (G.nn j) (G.up j), fun j => valueAt_nn V.p1 V.p2 V.r0 (g j)⟩
/-- behind its head an ended or settled table has its end -/
theorem tv_end {h l : List Int} {r : Int} (V : Val h l r) (c : l = [] ∨ r = 0) {j : Nat} (hj : h.length ≤ j) : TV h l r j = endOf l r := by
  unfold endOf
  rcases c with c | c
  · rw [if_pos (.inl c)]
    exact tv_nil c hj
  · subst c
    by_cases hl : l = []
    · rw [if_pos (.inl hl)]
      exact tv_nil hl hj
    · rw [if_neg (by rintro (e | e); exact hl e; omega), tv_some hl, settled V hl hj]
/-- the loop goes on at numbers, too -/
theorem vat_add {h l : List Int} {r v : Int} (hl : l ≠ []) {e : Nat} (d : l.length ∣ e) (hv : (h.length : Int) < v) : vat h l r (v + e) = (vat h l r v).map (· + slp l r e) := by
  obtain ⟨a, rfl⟩ : ∃ a : Nat, v = (a : Int) + 1 := ⟨(v - 1).toNat, by omega⟩
  rw [show (a : Int) + 1 + e = ((a + e : Nat) : Int) + 1 by omega, vat_fV hl, vat_fV hl, fV_per hl d (by omega)]
  rfl
theorem vat_over {h : List Int} {r v : Int} (hv : (h.length : Int) < v) : vat h [] r v = none := by
  unfold vat
  rw [if_neg (by omega), if_neg (by omega), if_pos rfl]
/-- a steady table goes beyond every bound -/
theorem grows {h l : List Int} {r : Int} (V : Val h l r) (hl : l ≠ []) (hr : 0 < r) (b : Nat) : (b : Int) < fV h l r (h.length + l.length * (b + 1)) := by
  rw [fV_perN hl (Nat.dvd_refl _) (Nat.le_refl _), slp_self hl]
  have := fV_nn V h.length
  have := Int.mul_le_mul_of_nonneg_right (show (1 : Int) ≤ r by omega) (show (0 : Int) ≤ ((b + 1 : Nat) : Int) by omega)
  omega
/-- the steps of one loop through another one -/
theorem turns_ok {L1 : Nat} {r2 : Int} (h1 : 0 < L1) (h2 : 0 < r2) : ∃ t e : Nat, 0 < t ∧ t ∣ L1 ∧ ((L1 : Int) / (Int.gcd L1 r2 : Int)) = t ∧ r2 * t = ((L1 * e : Nat) : Int) ∧ r2 * t / L1 = e := by
  obtain ⟨n, rfl⟩ := Int.eq_ofNat_of_zero_le (show 0 ≤ r2 by omega)
  have hn : 0 < n := by omega
  have g0 : 0 < Nat.gcd L1 n := Nat.gcd_pos_of_pos_left n h1
  refine ⟨L1 / Nat.gcd L1 n, n / Nat.gcd L1 n, Nat.div_pos (Nat.le_of_dvd h1 (Nat.gcd_dvd_left ..)) g0, Nat.div_dvd_of_dvd (Nat.gcd_dvd_left ..), ?_, ?_, ?_⟩
  · show (L1 : Int) / ((Nat.gcd L1 n : Nat) : Int) = _
    rw [← Int.natCast_ediv]
  · rw [← Int.natCast_mul]
    congr 1
    rw [← Nat.mul_div_assoc _ (Nat.gcd_dvd_left ..), ← Nat.mul_div_assoc _ (Nat.gcd_dvd_right ..), Nat.mul_comm]
  · have e : (n : Int) * ((L1 / Nat.gcd L1 n : Nat) : Int) = ((L1 * (n / Nat.gcd L1 n) : Nat) : Int) := by
      rw [← Int.natCast_mul]
      congr 1
      rw [← Nat.mul_div_assoc _ (Nat.gcd_dvd_left ..), ← Nat.mul_div_assoc _ (Nat.gcd_dvd_right ..), Nat.mul_comm]
    rw [e, Int.natCast_mul, Int.mul_ediv_cancel_left _ (by omega)]

theorem vals_some {f : Nat → Option Int} (n : Nat) (hc : ∀ j, j < n → f j ≠ none) : (List.range n).map (fun j => optV (f j)) = vI ((List.range n).map fun j => (f j).getD 0) ∧ ((List.range n).map fun j => (f j).getD 0).map some = (List.range n).map f := by
  have hv : ∀ j, j < n → f j = some ((f j).getD 0) := fun j hj => by
    cases e : f j with
    | none => exact absurd e (hc j hj)
    | some v => rfl
  constructor
  · show _ = List.map V.int _
    rw [List.map_map]
    refine List.map_congr_left fun j hj => ?_
    rw [hv j (List.mem_range.mp hj)]
    rfl
  · rw [List.map_map]
    exact List.map_congr_left fun j hj => (hv j (List.mem_range.mp hj)).symm
theorem go_on {f : Nat → Option Int} (G : Gd f) {xs : List Int} {S m : Nat} {d : Int} (m0 : 1 ≤ m) (hc : ∀ j, f j ≠ none) (per : ∀ j, S ≤ j → f (j + m) = (f j).map (· + d))
    (hx : xs.map some = (List.range (S + m)).map f) (zS : S ≤ 50000) (zm : m ≤ 50000) (zd : d < 1152921504606846976) :
    RSm (xs.take S) (xs.drop S) d ∧ xs.length = S + m ∧ Pl f (plainF (xs.take S) (xs.drop S) d).1 (plainF (xs.take S) (xs.drop S) d).2.1 (plainF (xs.take S) (xs.drop S) d).2.2 ∧
      (plainF (xs.take S) (xs.drop S) d).1.length ≤ S ∧ (plainF (xs.take S) (xs.drop S) d).2.1.length ∣ m ∧ (plainF (xs.take S) (xs.drop S) d).2.2 ≤ d := by
  obtain ⟨V, ne, hl, T⟩ := val_on G m0 hc per hx zS zm zd
  have e2 : (xs.drop S).length = m := by rw [List.length_drop]; omega
  have e1 : (xs.take S).length = S := by rw [List.length_take]; omega
  obtain ⟨a, b, c, z, q⟩ := plainF_val V
  obtain ⟨n1, q, q1, q2⟩ := q ne
  refine ⟨V.sm, hl, ⟨a, c, fun j => (b j).trans (T j)⟩, by omega, ⟨q, by omega⟩, ?_⟩
  have q0 : 0 < q := Nat.pos_of_ne_zero fun e => by rw [e, Nat.mul_zero] at q1; omega
  have := Int.mul_le_mul_of_nonneg_left (show (1 : Int) ≤ (q : Int) by omega) a.r0
  rw [Int.mul_one] at this
  omega
theorem cnts_full {f : Nat → Option Int} {n : Nat} (hc : ∀ j, j < n → f j ≠ none) (hn : f n = none) : cnts ((List.range (n + 1)).map f) = (List.range n).map fun j => (f j).getD 0 := by
  have h1 : ∀ i, i ≤ n → (cnts (((List.range (n + 1)).map f).take i)).length = i ∧ cnts (((List.range (n + 1)).map f).take i) = (List.range i).map fun j => (f j).getD 0 := fun i hi => by
    induction i with
    | zero => exact ⟨rfl, rfl⟩
    | succ i ih =>
      obtain ⟨a, b⟩ := ih (by omega)
      have g : ((List.range (n + 1)).map f)[i]? = some (some ((f i).getD 0)) := by
        rw [List.getElem?_map, List.getElem?_range (by omega)]
        cases e : f i with
        | none => exact absurd e (hc i (by omega))
        | some v => exact congrArg some e
      obtain ⟨c, d⟩ := cnts_snoc a g
      exact ⟨d, by rw [c, b, List.range_succ, List.map_append]; rfl⟩
  obtain ⟨a, b⟩ := h1 n (Nat.le_refl _)
  rw [← b]
  refine cnts_stop a ?_
  rw [List.getElem?_map, List.getElem?_range (by omega), ← hn]
  rfl
/-- the first place from m on with a value above b -/
structure Beyond (f : Nat → Int) (m b p : Nat) : Prop where
  ge : m ≤ p
  hi : (b : Int) < f p
  lo : ∀ j, m ≤ j → j < p → f j ≤ b
theorem Beyond.le {f : Nat → Int} {m b p q : Nat} (B : Beyond f m b p) (h : m ≤ q) (hq : (b : Int) < f q) : p ≤ q := by
  by_cases c : q < p
  · have := B.lo q h c
    omega
  · omega
theorem tv_head {h l : List Int} {r : Int} {j : Nat} (c : j < h.length) : TV h l r j = some (gI h j) := by
  rw [← vat_TV]
  unfold vat
  rw [if_neg (by omega), if_pos (by omega), show (j : Int) + 1 - 1 = j by omega]
/-- what first * second is -/
structure Cmp (h1 l1 : List Int) (r1 : Int) (h2 l2 : List Int) (r2 : Int) (h l : List Int) (r : Int) : Prop where
  pl : Pl (CV h1 l1 r1 (TV h2 l2 r2)) h l r
  zh : h.length ≤ h2.length + l2.length * (h1.length + 1)
  dv : l ≠ [] → l.length = 1 ∨ (l1 ≠ [] ∧ l2 ≠ [] ∧ l.length ∣ l2.length * l1.length)
  br : r ≤ r1 * r2
theorem head_vals {h1 l1 h2 l2 : List Int} {r1 r2 : Int} (V2 : Val h2 l2 r2) (c : l2 = [] ∨ r2 = 0) : h2.map (fun n => optV (vat h1 l1 r1 n)) ++ [optV (valueAt h1 l1 r1 (endOf l2 r2))] = (List.range (h2.length + 1)).map fun j => optV (CV h1 l1 r1 (TV h2 l2 r2) j) := by
  have e : h2.map (fun n => optV (vat h1 l1 r1 n)) = (List.range h2.length).map fun j => optV (CV h1 l1 r1 (TV h2 l2 r2) j) := by
    refine List.ext_getElem (by rw [List.length_map, List.length_map, List.length_range]) fun i a b => ?_
    rw [List.length_map] at a
    rw [List.getElem_map, List.getElem_map, List.getElem_range]
    unfold CV
    rw [tv_head a]
    have := gI_get a
    rw [List.getElem?_eq_getElem a] at this
    rw [Option.some.inj this]
    rfl
  rw [e, List.range_succ, List.map_append]
  refine congrArg _ ?_
  show _ = [optV (CV h1 l1 r1 (TV h2 l2 r2) h2.length)]
  unfold CV
  rw [tv_end V2 c (Nat.le_refl _)]
/-- a second table that ends or settles -/
theorem cmp_none {h1 l1 h2 l2 : List Int} {r1 r2 : Int} (V1 : Val h1 l1 r1) (V2 : Val h2 l2 r2) (c : l2 = [] ∨ r2 = 0) (z : h2.length ≤ 40000) (e : valueAt h1 l1 r1 (endOf l2 r2) = none) :
    Cmp h1 l1 r1 h2 l2 r2 (cnts ((List.range (h2.length + 1)).map (CV h1 l1 r1 (TV h2 l2 r2)))) [] 0 := by
  have hn : CV h1 l1 r1 (TV h2 l2 r2) h2.length = none := by
    unfold CV
    rw [tv_end V2 c (Nat.le_refl _)]
    exact e
  obtain ⟨V, T, zl⟩ := val_end (Gd.comp V1 (Gd.of V2)) hn (by omega)
  exact ⟨⟨V, plainF_nil, T⟩, Nat.le_trans zl (Nat.le_add_right ..), fun e => absurd rfl e, Int.mul_nonneg V1.r0 V2.r0⟩
theorem cmp_set {h1 l1 h2 l2 : List Int} {r1 r2 : Int} {xs : List Int} (V1 : Val h1 l1 r1) (V2 : Val h2 l2 r2) (c : l2 = [] ∨ r2 = 0) (z : h2.length ≤ 40000) (e : valueAt h1 l1 r1 (endOf l2 r2) ≠ none)
    (hx : xs = (List.range (h2.length + 1)).map fun j => (CV h1 l1 r1 (TV h2 l2 r2) j).getD 0) :
    RSm (xs.take h2.length) (xs.drop h2.length) 0 ∧ xs.length = h2.length + 1 ∧ vI xs = (List.range (h2.length + 1)).map (fun j => optV (CV h1 l1 r1 (TV h2 l2 r2) j)) ∧
      Cmp h1 l1 r1 h2 l2 r2 (plainF (xs.take h2.length) (xs.drop h2.length) 0).1 (plainF (xs.take h2.length) (xs.drop h2.length) 0).2.1 (plainF (xs.take h2.length) (xs.drop h2.length) 0).2.2 := by
  have G := Gd.comp V1 (Gd.of V2)
  have he : ∀ j, h2.length ≤ j → CV h1 l1 r1 (TV h2 l2 r2) j = valueAt h1 l1 r1 (endOf l2 r2) := fun j hj => by
    unfold CV
    rw [tv_end V2 c hj]
  have hc : ∀ j, CV h1 l1 r1 (TV h2 l2 r2) j ≠ none := fun j h => by
    have := gd_none G h (j + h2.length) (by omega)
    rw [he _ (by omega)] at this
    exact e this
  obtain ⟨v1, v2⟩ := vals_some (h2.length + 1) fun j _ => hc j
  rw [← hx] at v1 v2
  obtain ⟨a, b, p, q, s, t⟩ := go_on G (Nat.le_refl 1) hc (d := 0) (fun j hj => by
    rw [he _ hj, he _ (by omega)]
    cases valueAt h1 l1 r1 (endOf l2 r2) with
    | none => rfl
    | some v => exact congrArg some (Int.add_zero v).symm) v2 (by omega) (by decide) (by decide)
  exact ⟨a, b, v1.symm, p, by omega, fun _ => .inl (Nat.dvd_one.mp s), Int.le_trans t (Int.mul_nonneg V1.r0 V2.r0)⟩
/-- a first table that ends -/
theorem cmp_cut {h1 l2 h2 : List Int} {r1 r2 : Int} {p : Nat} (V1 : Val h1 [] r1) (V2 : Val h2 l2 r2) (c : l2 ≠ []) (c2 : 0 < r2) (z : h2.length + l2.length * (h1.length + 1) ≤ 40000) (B : Beyond (fV h2 l2 r2) 0 h1.length p) :
    p ≤ 40000 ∧ (∀ j, j < p → CV h1 [] r1 (TV h2 l2 r2) j ≠ none) ∧ Cmp h1 [] r1 h2 l2 r2 ((List.range p).map fun j => (CV h1 [] r1 (TV h2 l2 r2) j).getD 0) [] 0 := by
  have zp := B.le (Nat.zero_le _) (grows V2 c c2 h1.length)
  have hn : CV h1 [] r1 (TV h2 l2 r2) p = none := by
    unfold CV
    rw [tv_some c]
    exact vat_over B.hi
  have hc : ∀ j, j < p → CV h1 [] r1 (TV h2 l2 r2) j ≠ none := fun j hj h => by
    have := B.lo j (Nat.zero_le _) hj
    have nn := fV_nn V2 j
    unfold CV at h
    rw [tv_some c] at h
    change vat h1 [] r1 _ = none at h
    unfold vat at h
    by_cases q : fV h2 l2 r2 j = 0
    · rw [if_pos q] at h; cases h
    · rw [if_neg q, if_pos this] at h; cases h
  obtain ⟨V, T, zl⟩ := val_end (Gd.comp V1 (Gd.of V2)) hn (by omega)
  rw [cnts_full hc hn] at V T zl
  exact ⟨by omega, hc, ⟨V, plainF_nil, T⟩, by omega, fun e => absurd rfl e, Int.mul_nonneg V1.r0 V2.r0⟩
/-- both go on -/
theorem cmp_go {h1 l1 h2 l2 : List Int} {r1 r2 : Int} {p t e : Nat} {xs : List Int} (V1 : Val h1 l1 r1) (V2 : Val h2 l2 r2) (c1 : l1 ≠ []) (c2 : l2 ≠ []) (hr : 0 < r2) (z : h2.length + l2.length * (h1.length + l1.length + 1) ≤ 40000)
    (z1 : r1 ≤ 1000000) (z2 : r2 ≤ 1000000) (B : Beyond (fV h2 l2 r2) h2.length h1.length p) (t0 : 0 < t) (dt : t ∣ l1.length) (he : r2 * t = ((l1.length * e : Nat) : Int))
    (hx : xs = (List.range (p + l2.length * t)).map fun j => (CV h1 l1 r1 (TV h2 l2 r2) j).getD 0) :
    RSm (xs.take p) (xs.drop p) (r1 * e) ∧ xs.length = p + l2.length * t ∧ vI xs = (List.range (p + l2.length * t)).map (fun j => optV (CV h1 l1 r1 (TV h2 l2 r2) j)) ∧ p ≤ 40000 ∧ l2.length * t ≤ 40000 ∧ 0 ≤ r1 * e ∧
      Cmp h1 l1 r1 h2 l2 r2 (plainF (xs.take p) (xs.drop p) (r1 * e)).1 (plainF (xs.take p) (xs.drop p) (r1 * e)).2.1 (plainF (xs.take p) (xs.drop p) (r1 * e)).2.2 := by
  have G := Gd.comp V1 (Gd.of V2)
  have zp := B.le (Nat.le_add_right ..) (grows V2 c2 hr h1.length)
  have l10 : 0 < l1.length := List.length_pos_iff.mpr c1
  have l20 : 0 < l2.length := List.length_pos_iff.mpr c2
  have zt : t ≤ l1.length := Nat.le_of_dvd l10 dt
  have zz : l2.length * (h1.length + l1.length + 1) = l2.length * (h1.length + 1) + l2.length * l1.length := by
    rw [← Nat.mul_add]
    congr 1
    omega
  have zlt : l2.length * t ≤ l2.length * l1.length := Nat.mul_le_mul_left _ zt
  have er : (e : Int) ≤ r2 := by
    have a : r2 * t ≤ r2 * l1.length := Int.mul_le_mul_of_nonneg_left (by omega) (by omega)
    rw [he, Int.natCast_mul, Int.mul_comm r2] at a
    exact Int.le_of_mul_le_mul_left a (by omega)
  have hc : ∀ j, CV h1 l1 r1 (TV h2 l2 r2) j ≠ none := fun j h => by
    unfold CV at h
    rw [tv_some c2] at h
    change vat h1 l1 r1 _ = none at h
    unfold vat at h
    split at h
    · cases h
    · split at h
      · cases h
      · first
          | cases h
          | (split at h; · (rename_i q; exact c1 q); · cases h)
  have m0 : 1 ≤ l2.length * t := Nat.mul_pos l20 t0
  have sl : slp l2 r2 (l2.length * t) = ((l1.length * e : Nat) : Int) := by
    rw [slp_mul c2 (Nat.dvd_refl _), slp_self c2, he]
  have sl1 : slp l1 r1 (l1.length * e) = r1 * e := by
    rw [slp_mul c1 (Nat.dvd_refl _), slp_self c1]
  have per : ∀ j, p ≤ j → CV h1 l1 r1 (TV h2 l2 r2) (j + l2.length * t) = (CV h1 l1 r1 (TV h2 l2 r2) j).map (· + r1 * e) := fun j hj => by
    have g := B.ge
    unfold CV
    rw [tv_some c2, tv_some c2, fV_per c2 ⟨t, rfl⟩ (by omega), sl]
    show vat h1 l1 r1 _ = (vat h1 l1 r1 _).map _
    have hi : (h1.length : Int) < fV h2 l2 r2 j := Int.lt_of_lt_of_le B.hi (fV_mono V2 c2 hj)
    rw [vat_add c1 ⟨e, rfl⟩ hi, sl1]
  obtain ⟨v1, v2⟩ := vals_some (p + l2.length * t) fun j _ => hc j
  rw [← hx] at v1 v2
  have d0 : 0 ≤ r1 * e := Int.mul_nonneg V1.r0 (by omega)
  have dle : r1 * e ≤ r1 * r2 := Int.mul_le_mul_of_nonneg_left er V1.r0
  have dz : r1 * r2 ≤ 1000000 * 1000000 := Int.mul_le_mul z1 z2 (by omega) (by decide)
  obtain ⟨a, b, q1, q2, q3, q4⟩ := go_on G m0 hc per v2 (by omega) (by omega) (by omega)
  exact ⟨a, b, v1.symm, by omega, by omega, d0, q1, by omega, fun _ => .inr ⟨c1, c2, Nat.dvd_trans q3 (Nat.mul_dvd_mul (Nat.dvd_refl _) dt)⟩, Int.le_trans q4 dle⟩

theorem jn_comm (g : Bool) (a b : Option Int) : jnO g a b = jnO g b a := by
  cases g <;> cases a <;> cases b <;> first | rfl | (rw [jnO_some, jnO_some]; congr 1; first | rw [if_neg (by decide), if_neg (by decide), Int.min_comm] | rw [if_pos rfl, if_pos rfl, Int.max_comm])
theorem jn_idem (g : Bool) (a : Option Int) : jnO g a a = a := by
  cases g <;> cases a <;> first | rfl | (rw [jnO_some]; congr 1; first | rw [if_neg (by decide), Int.min_self] | rw [if_pos rfl, Int.max_self])
theorem jnT_none (a : Option Int) : jnO true a none = none ∧ jnO true none a = none := topO_none a
theorem jnF_none (a : Option Int) : jnO false a none = a ∧ jnO false none a = a := lowO_none a
theorem jnT_some (x y : Int) : jnO true (some x) (some y) = some (max x y) := topO_some x y
theorem jnF_some (x y : Int) : jnO false (some x) (some y) = some (min x y) := lowO_some x y
theorem jn_assoc (g : Bool) (a b c : Option Int) : jnO g (jnO g a b) c = jnO g a (jnO g b c) := by
  cases g <;> cases a <;> cases b <;> cases c <;>
    simp only [(jnT_none _).1, (jnT_none _).2, (jnF_none _).1, (jnF_none _).2, jnT_some, jnF_some] <;> (congr 1; omega)
theorem jn_distT (a b c : Option Int) : jnO true a (jnO false b c) = jnO false (jnO true a b) (jnO true a c) := by
  cases a <;> cases b <;> cases c <;>
    simp only [(jnT_none _).1, (jnT_none _).2, (jnF_none _).1, (jnF_none _).2, jnT_some, jnF_some] <;> (congr 1; omega)
theorem jn_distF (a b c : Option Int) : jnO false a (jnO true b c) = jnO true (jnO false a b) (jnO false a c) := by
  cases a <;> cases b <;> cases c <;>
    simp only [(jnT_none _).1, (jnT_none _).2, (jnF_none _).1, (jnF_none _).2, jnT_some, jnF_some] <;> (congr 1; omega)
theorem jn_absT (a b : Option Int) : jnO true a (jnO false a b) = a := by
  cases a <;> cases b <;>
    simp only [(jnT_none _).1, (jnT_none _).2, (jnF_none _).1, (jnF_none _).2, jnT_some, jnF_some] <;> (congr 1; omega)
theorem jn_absF (a b : Option Int) : jnO false a (jnO true a b) = a := by
  cases a <;> cases b <;>
    simp only [(jnT_none _).1, (jnT_none _).2, (jnF_none _).1, (jnF_none _).2, jnT_some, jnF_some] <;> (congr 1; omega)

theorem leO_anti {a b : Option Int} (h : leO a b = true) (h' : leO b a = true) : a = b := by
  cases a <;> cases b
  · rfl
  · cases h
  · cases h'
  · rw [leO_some] at h h'
    congr 1
    omega
/-- the least count or never that no value exceeds -/
structure IsEnd (f : Nat → Option Int) (e : Option Int) : Prop where
  up : ∀ j, leO (f j) e = true
  lo : ∀ b, (∀ j, leO (f j) b = true) → leO e b = true
theorem IsEnd.uniq {f : Nat → Option Int} {a b : Option Int} (x : IsEnd f a) (y : IsEnd f b) : a = b := leO_anti (x.lo b y.up) (y.lo a x.up)
theorem leO_none {a : Option Int} : leO a none = true := by cases a <;> rfl
theorem end_of_tab {h l : List Int} {r : Int} (V : Val h l r) : IsEnd (TV h l r) (endOf l r) := by
  by_cases c : l = [] ∨ r = 0
  · refine ⟨fun j => ?_, fun b hb => ?_⟩
    · rw [← tv_end V c (show h.length ≤ j + h.length by omega)]
      exact gd_mono (Gd.of V) (by omega)
    · rw [← tv_end V c (Nat.le_refl _)]
      exact hb _
  · have hl : l ≠ [] := fun e => c (.inl e)
    have hr : 0 < r := by
      have := V.r0
      have : ¬ r = 0 := fun e => c (.inr e)
      omega
    have e : endOf l r = none := by
      unfold endOf
      rw [if_pos (.inr hr)]
    rw [e]
    refine ⟨fun j => leO_none, fun b hb => ?_⟩
    cases b with
    | none => rfl
    | some b =>
      have := grows V hl hr b.toNat
      have hh := hb (h.length + l.length * (b.toNat + 1))
      rw [tv_some hl, leO_some] at hh
      omega
theorem jn_le {g : Bool} {a b c : Option Int} : (leO (jnO g a b) c = true ↔ if g = true then leO a c = true ∧ leO b c = true else leO a c = true ∨ leO b c = true) := by
  cases c with
  | none => cases g <;> simp [leO_none]
  | some c =>
    cases g
    · cases a <;> cases b
      · simp [jnO, lowO, leO]
      · rw [(jnF_none _).2]; simp [leO]
      · rw [(jnF_none _).1]; simp [leO]
      · rw [jnO_some]
        simp only [leO_some]
        simp
        omega
    · cases a <;> cases b
      · simp [jnO, topO, leO]
      · rw [(jnT_none _).2]; simp [leO]
      · rw [(jnT_none _).1]; simp [leO]
      · rw [jnO_some]
        simp only [leO_some]
        simp
        omega
/-- ends go through both and either -/
theorem IsEnd.join {f g : Nat → Option Int} {a b : Option Int} (w : Bool) (F : Gd f) (G : Gd g) (x : IsEnd f a) (y : IsEnd g b) : IsEnd (JV w f g) (jnO w a b) := by
  refine ⟨fun j => jnO_mono (x.up j) (y.up j), fun c hc => ?_⟩
  cases w with
  | true =>
    have := fun j => (jn_le.mp (hc j))
    simp only [if_true] at this
    exact jn_le.mpr (by rw [if_pos rfl]; exact ⟨x.lo c fun j => (this j).1, y.lo c fun j => (this j).2⟩)
  | false =>
    refine jn_le.mpr ?_
    rw [if_neg (by decide)]
    by_cases q : ∀ j, leO (f j) c = true
    · exact .inl (x.lo c q)
    · refine .inr (y.lo c fun j => ?_)
      obtain ⟨i, hi⟩ := Classical.not_forall.mp q
      have := jn_le.mp (hc (i + j))
      rw [if_neg (by decide)] at this
      rcases this with h | h
      · exact absurd (leO_trans (gd_mono F (show i ≤ i + j by omega)) h) hi
      · exact leO_trans (gd_mono G (show j ≤ i + j by omega)) h
theorem leO_not {a b : Option Int} (h : ¬ leO a b = true) : leO b a = true := by
  cases a with
  | none => exact leO_none
  | some a =>
    cases b with
    | none => exact absurd rfl h
    | some b =>
      rw [leO_some] at h ⊢
      omega
/-- ends go through behind -/
theorem IsEnd.comp {h l : List Int} {r : Int} {g : Nat → Option Int} {e : Option Int} (V : Val h l r) (G : Gd g) (x : IsEnd g e) : IsEnd (CV h l r g) (valueAt h l r e) := by
  refine ⟨fun j => at_mono V (G.nn j) (x.up j), fun b hb => ?_⟩
  by_cases q : ∃ j, g j = e
  · obtain ⟨j, hj⟩ := q
    have := hb j
    unfold CV at this
    rwa [hj] at this
  · have e0 : e = none := by
      cases e with
      | none => rfl
      | some v =>
        have lt : ∀ j, leO (g j) (some (v - 1)) = true := fun j => by
          have h1 := x.up j
          cases gj : g j with
          | none => rw [gj] at h1; cases h1
          | some u =>
            rw [gj, leO_some] at h1
            rw [leO_some]
            have : u ≠ v := fun e => q ⟨j, by rw [gj, e]⟩
            omega
        have := x.lo _ lt
        rw [leO_some] at this
        omega
    subst e0
    refine (end_of_tab V).lo b fun j => ?_
    obtain ⟨i, hi⟩ : ∃ i, leO (some ((j : Int) + 1)) (g i) = true := by
      refine Classical.byContradiction fun n => ?_
      have : ∀ i, leO (g i) (some ((j : Int) + 1)) = true := fun i => leO_not fun h => n ⟨i, h⟩
      have := x.lo _ this
      cases this
    have := at_mono V (p := some ((j : Int) + 1)) (fun i hi => by cases hi; omega) hi
    rw [show valueAt h l r (some ((j : Int) + 1)) = TV h l r j from vat_TV j] at this
    exact leO_trans this (hb i)
/-- numbers of taken pieces: counts and never -/
def Cnt (p : Option Int) : Prop := ∀ i, p = some i → 0 ≤ i
theorem at_cases {p : Option Int} (hp : Cnt p) : p = none ∨ p = some 0 ∨ ∃ j : Nat, p = some ((j : Int) + 1) := by
  cases p with
  | none => exact .inl rfl
  | some i =>
    have := hp i rfl
    by_cases c : i = 0
    · subst c; exact .inr (.inl rfl)
    · exact .inr (.inr ⟨(i - 1).toNat, by congr 1; omega⟩)
theorem vat_zero (h l : List Int) (r : Int) : valueAt h l r (some 0) = some 0 := by
  show vat h l r 0 = _
  unfold vat
  rw [if_pos rfl]
/-- what is put together, at each place and at never -/
theorem join_at {w : Bool} {h1 l1 h2 l2 h l : List Int} {r1 r2 r : Int} (V1 : Val h1 l1 r1) (V2 : Val h2 l2 r2) (P : Pl (JV w (TV h1 l1 r1) (TV h2 l2 r2)) h l r) {p : Option Int} (hp : Cnt p) :
    valueAt h l r p = jnO w (valueAt h1 l1 r1 p) (valueAt h2 l2 r2 p) := by
  rcases at_cases hp with rfl | rfl | ⟨j, rfl⟩
  · have := end_of_tab P.val
    rw [show TV h l r = JV w (TV h1 l1 r1) (TV h2 l2 r2) from funext P.tv] at this
    exact this.uniq (IsEnd.join w (Gd.of V1) (Gd.of V2) (end_of_tab V1) (end_of_tab V2))
  · rw [vat_zero, vat_zero, vat_zero, jn_idem]
  · show vat _ _ _ _ = jnO w (vat _ _ _ _) (vat _ _ _ _)
    rw [vat_TV, vat_TV, vat_TV, P.tv]
    rfl
theorem comp_at {h1 l1 h2 l2 h l : List Int} {r1 r2 r : Int} (V1 : Val h1 l1 r1) (V2 : Val h2 l2 r2) (P : Pl (CV h1 l1 r1 (TV h2 l2 r2)) h l r) {p : Option Int} (hp : Cnt p) :
    valueAt h l r p = valueAt h1 l1 r1 (valueAt h2 l2 r2 p) := by
  rcases at_cases hp with rfl | rfl | ⟨j, rfl⟩
  · have := end_of_tab P.val
    rw [show TV h l r = CV h1 l1 r1 (TV h2 l2 r2) from funext P.tv] at this
    exact this.uniq (IsEnd.comp V1 (Gd.of V2) (end_of_tab V2))
  · rw [vat_zero, vat_zero, vat_zero]
  · show vat _ _ _ _ = valueAt h1 l1 r1 (vat _ _ _ _)
    rw [vat_TV, vat_TV, P.tv]
    rfl
/-- a table goes through both and either -/
theorem at_jn {w : Bool} {h l : List Int} {r : Int} (V : Val h l r) {p q : Option Int} (hp : Cnt p) (hq : Cnt q) : valueAt h l r (jnO w p q) = jnO w (valueAt h l r p) (valueAt h l r q) := by
  have key : ∀ {a b : Option Int}, leO a b = true → jnO w a b = if w = true then b else a := fun {a b} h => by
    unfold jnO topO lowO
    rw [if_pos h, if_pos h]
  by_cases c : leO p q = true
  · rw [key c, key (at_mono V hp c)]
    cases w <;> rfl
  · have c2 := leO_not c
    rw [jn_comm w p q, jn_comm w (valueAt h l r p), key c2, key (at_mono V hq c2)]
    cases w <;> rfl

abbrev N_first_beyond : List Str := ["raw", "least", "bound", "place", "value"]
theorem sc_first_beyond : FnScope N_first_beyond ["raw", "least", "bound"] (defScope s_first_beyond) := ⟨rfl, rfl, rfl, by decide +kernel, rfl, by decide +kernel, by decide +kernel⟩
theorem ok_first_beyond {P : Program} {w : World} {K : PySem.W.Frag} {mg : Str → Option Value} {base : Heap} (E : Env P K mg) : Fn P w K mg base CX0 3 "first_beyond" (sp3 fun a b c H Q _ => ∃ (h l : List Int) (r : Int) (m n : Nat), Dp K H a (dRaw h l r) ∧ b = .int m ∧ c = .int n ∧ l ≠ [] ∧ 0 < r ∧ Val h l r ∧ ∀ (p : Nat) H', Ex H H' → Beyond (fV h l r) m n p → Q (.int p) H') := by
  obtain ⟨fd, F⟩ := E.dd_first_beyond
  refine Fn.mk0 F E.g_first_beyond sc_first_beyond sp3_len (fun _ _ _ _ _ _ us hl => match us, hl with | [_, _, _], _ => rfl) (fun cdv A outer s H vs Q X hr h => ?_)
  have nd := sc_first_beyond.nd
  obtain ⟨v0, v1, v2, rfl, h⟩ := h
  refine ⟨_, (pss_cons (ps_set (i := 3) nd rfl (.inl rfl) (pv 1))
  (pss_one (ps_while PassesOwn.never (pt_val pe_bl)
   (pss_cons (ps_set (i := 4) nd rfl (.inl rfl) (pc (ok_value_at E) hr (by decide) pass0 rfl (pa_cons (pv 0) (pa_cons (pe_op (kAdd K) (pv 3) (pe_int)) pa_nil))))
  (pss_cons (ps_if (PW.pt (pw_or (pt_cmpR xIs (pv 4) (pe_non) (nomark _)) (pw_or1 (pt_cmpR op_gt (pv 4) (pv 2) (nomark _)))))
   (pss_one (ps_ret (pv 3)))
   pss_nil)
  (pss_one (ps_set (i := 3) nd rfl (.inl rfl) (pe_op (kAdd K) (pv 3) (pe_int))))))))), ?_⟩
  change (_ : TS) _ [some v0, some v1, some v2, none, none] H
  try dsimp only [cxOf, Cx.nox, Cx.blk]
  obtain ⟨h, l, r, m, n, d, rfl, rfl, hl, hr, W, k⟩ := h
  obtain ⟨a1, th, tl, rfl, s1, s2, s3⟩ := dp_raw d
  have B := grows W hl hr n
  generalize hM : h.length + l.length * (n + 1) = M at *
  walk_at "w"
  refine ⟨fun w σ' H' => ∃ (p : Nat) (x : Option V), σ' = [some (.ref a1), some (.int m), some (.int n), some (.int p), x] ∧ Ex H H' ∧ m ≤ p ∧ (∀ j, m ≤ j → j < p → fV h l r j ≤ n) ∧ w = M - p, ⟨M - m, m, _, rfl, Ex.refl _, Nat.le_refl _, fun j h1 h2 => by omega, rfl⟩, ?_⟩
  rintro w σ' H' ⟨p, x, rfl, e, hp, hlo, rfl⟩
  walk_at "w"
  refine ⟨_, fun σ2 H2 h2 => h2, ?_⟩
  walk_at "w"
  refine ⟨h, l, r, some ((p : Int) + 1), dp_of_raw (ex_t e s1) (ex_t e s2) (ex_t e s3), dp_of_opt (p := some _), fun i hi => by cases hi; omega, W.sm, fun v H2 e2 q2 => ?_⟩
  rw [show valueAt h l r (some ((p : Int) + 1)) = some (fV h l r p) from vat_fV hl _] at q2
  obtain rfl := dp_toOpt q2
  simp only [optV]
  walk_at "w"
  by_cases c : (n : Int) < fV h l r p
  · walk_at "w"
    exact k p _ (e.trans e2) ⟨hp, c, hlo⟩
  · walk_at "w"
    have c2 : p < M := by
      by_cases q : p < M
      · exact q
      · have := fV_mono W hl (show M ≤ p by omega)
        omega
    refine ⟨M - (p + 1), by omega, p + 1, _, rfl, e.trans e2, by omega, fun j h1 h2 => ?_, rfl⟩
    by_cases q : j = p
    · subst q; omega
    · exact hlo j h1 (by omega)
abbrev spBeh (K : PySem.W.Frag) : Sp := sp2 fun a b H Q _ => ∃ (h1 l1 h2 l2 : List Int) (r1 r2 : Int), Dp K H a (dRaw h1 l1 r1) ∧ Dp K H b (dRaw h2 l2 r2) ∧ Val h1 l1 r1 ∧ Val h2 l2 r2 ∧ h2.length + l2.length * (h1.length + l1.length + 1) ≤ 40000 ∧ r1 ≤ 1000000 ∧ r2 ≤ 1000000 ∧
  ∀ v H' h l r, Ex H H' → Dp K H' v (dRaw h l r) → Cmp h1 l1 r1 h2 l2 r2 h l r → Q v H'
theorem atI_last {α : Type} (xs : List α) (y : α) : atI (xs ++ [y]) (-1) = some y := by
  refine atI_neg (by decide) (by rw [List.length_append]; show -((xs.length + 1 : Nat) : Int) ≤ -1; omega) ?_
  rw [List.length_append, show ((-1 : Int) + ((xs.length + [y].length : Nat) : Int)).toNat = xs.length by show ((-1 : Int) + ((xs.length + 1 : Nat) : Int)).toNat = _; omega, List.getElem?_append_right (Nat.le_refl _), Nat.sub_self]
  rfl
def valV (h l : List Int) (r : Int) : V → V
  | .int n => optV (vat h l r n)
  | _ => .non
abbrev N_behind_raw : List Str := ["first", "second", "head", "loop", "rise", "last", "values", "own_head", "own_loop", "own_rise", "cut", "start", "turns", "many", "value", "place"]
theorem sc_behind_raw : FnScope N_behind_raw ["first", "second"] (defScope s_behind_raw) := ⟨rfl, rfl, rfl, by decide +kernel, rfl, by decide +kernel, by decide +kernel⟩
theorem ok_behind_raw {P : Program} {w : World} {K : PySem.W.Frag} {mg : Str → Option Value} {base : Heap} (E : Env P K mg) : Fn P w K mg base CX0 5 "behind_raw" (spBeh K) := by
  obtain ⟨fd, F⟩ := E.dd_behind_raw
  refine Fn.mk0 F E.g_behind_raw sc_behind_raw sp2_len (fun _ _ _ _ _ _ us hl => match us, hl with | [_, _], _ => rfl) (fun cdv A outer s H vs Q X hr h => ?_)
  have nd := sc_behind_raw.nd
  obtain ⟨v0, v1, rfl, h⟩ := h
  refine ⟨_, (pss_cons (ps_asg (pv 1) (kGtup K rfl (pgs_cons (pg_name (i := 2) nd rfl (.inl rfl)) (pgs_cons (pg_name (i := 3) nd rfl (.inl rfl)) (pgs_cons (pg_name (i := 4) nd rfl (.inl rfl)) (pgs_nil))))))
  (pss_cons (ps_if (PW.pt (pw_or (pt_cmpR (kEq K hr) (pe_callB (kLen K) (by rfl) E.f_len (by decide +kernel) (pa_cons (pv 3) pa_nil)) (pe_int) (nomark _)) (pw_or1 (pt_cmpR (kEq K hr) (pv 4) (pe_int) (nomark _)))))
   (pss_cons (ps_set (i := 5) nd rfl (.inl rfl) (pc (ok_end_of E) hr (by decide) pass0 rfl (pa_cons (pv 1) pa_nil)))
  (pss_cons (ps_setLc (i := 6) (own := [("value", 14)]) (g := gName 14) (tt := tYes) rfl nd rfl rfl (sw_true rfl rfl rfl (by decide +kernel)) (kSeq K (pv 2)) (blkOk_by (N := N_behind_raw) (sc := defScope s_behind_raw) (by decide +kernel)) (fun _ _ _ _ _ => pg_name (i := 14) nd rfl (Or.inl rfl)) (fun _ _ _ _ _ => pts_nil) (fun _ _ _ _ _ => pc (ok_value_at E) hr (by decide) pass0 rfl (pa_cons (pv 0) (pa_cons (pv 14) pa_nil))))
  (pss_cons (ps_set (i := 6) nd rfl (.inl rfl) (pe_op (kAdd K) (pv 6) (pe_lst (pa_cons (pc (ok_value_at E) hr (by decide) pass0 rfl (pa_cons (pv 0) (pa_cons (pv 5) pa_nil))) pa_nil))))
  (pss_cons (ps_if (pt_cmpR xIs (pe_ix (kIx K) (pv 6) (pe_un un_neg (pe_int)) (fun _ _ => rfl)) (pe_non) (nomark _))
   (pss_one (ps_ret (pe_tup (pa_cons (pe_callTy (kTup K) (by rfl) E.f_tuple (by decide +kernel) (pa_cons (pc (ok_until_never E) hr (by decide) pass0 rfl (pa_cons (pv 6) pa_nil)) pa_nil)) (pa_cons (pe_tup pa_nil) (pa_cons (pe_int) pa_nil))))))
   pss_nil)
  (pss_one (ps_ret (pc (ok_formed E) hr (by decide) pass0 rfl (pa_cons (pv 6) (pa_cons (pe_int) (pa_cons (pe_int) pa_nil))))))))))
   pss_nil)
  (pss_cons (ps_asg (pv 0) (kGtup K rfl (pgs_cons (pg_name (i := 7) nd rfl (.inl rfl)) (pgs_cons (pg_name (i := 8) nd rfl (.inl rfl)) (pgs_cons (pg_name (i := 9) nd rfl (.inl rfl)) (pgs_nil))))))
  (pss_cons (ps_if (pt_cmpR (kEq K hr) (pe_callB (kLen K) (by rfl) E.f_len (by decide +kernel) (pa_cons (pv 8) pa_nil)) (pe_int) (nomark _))
   (pss_cons (ps_set (i := 10) nd rfl (.inl rfl) (pc (ok_first_beyond E) hr (by decide) pass0 rfl (pa_cons (pv 1) (pa_cons (pe_int) (pa_cons (pe_callB (kLen K) (by rfl) E.f_len (by decide +kernel) (pa_cons (pv 7) pa_nil)) pa_nil)))))
  (pss_one (ps_ret (pe_tup (pa_cons (pe_callTy (kTup K) (by rfl) E.f_tuple (by decide +kernel) (pa_cons (pe_lc (own := [("place", 15)]) (g := gName 15) (tt := tYes) rfl nd (pi_range1 (by rfl) E.f_range (pa_cons (pv 10) pa_nil)) (blkOk_by (N := N_behind_raw) (sc := defScope s_behind_raw) (by decide +kernel)) (fun _ _ _ _ _ => pg_name (i := 15) nd rfl (Or.inl rfl)) (fun _ _ _ _ _ => pts_nil) (fun _ _ _ _ _ => pc (ok_value_at E) hr (by decide) pass0 rfl (pa_cons (pv 0) (pa_cons (pc (ok_value_at E) hr (by decide) pass0 rfl (pa_cons (pv 1) (pa_cons (pe_op (kAdd K) (pv 15) (pe_int)) pa_nil))) pa_nil)))) pa_nil)) (pa_cons (pe_tup pa_nil) (pa_cons (pe_int) pa_nil)))))))
   pss_nil)
  (pss_cons (ps_set (i := 11) nd rfl (.inl rfl) (pc (ok_first_beyond E) hr (by decide) pass0 rfl (pa_cons (pv 1) (pa_cons (pe_callB (kLen K) (by rfl) E.f_len (by decide +kernel) (pa_cons (pv 2) pa_nil)) (pa_cons (pe_callB (kLen K) (by rfl) E.f_len (by decide +kernel) (pa_cons (pv 7) pa_nil)) pa_nil)))))
  (pss_cons (ps_set (i := 12) nd rfl (.inl rfl) (pe_op xDiv (pe_callB (kLen K) (by rfl) E.f_len (by decide +kernel) (pa_cons (pv 8) pa_nil)) (pc (ok_common_divisor E) hr (by decide) pass0 rfl (pa_cons (pe_callB (kLen K) (by rfl) E.f_len (by decide +kernel) (pa_cons (pv 8) pa_nil)) (pa_cons (pv 4) pa_nil)))))
  (pss_cons (ps_set (i := 13) nd rfl (.inl rfl) (pe_op (kMul K) (pe_callB (kLen K) (by rfl) E.f_len (by decide +kernel) (pa_cons (pv 3) pa_nil)) (pv 12)))
  (pss_cons (ps_setLc (i := 6) (own := [("place", 15)]) (g := gName 15) (tt := tYes) rfl nd rfl rfl (sw_true rfl rfl rfl (by decide +kernel)) (pi_range1 (by rfl) E.f_range (pa_cons (pe_op (kAdd K) (pv 11) (pv 13)) pa_nil)) (blkOk_by (N := N_behind_raw) (sc := defScope s_behind_raw) (by decide +kernel)) (fun _ _ _ _ _ => pg_name (i := 15) nd rfl (Or.inl rfl)) (fun _ _ _ _ _ => pts_nil) (fun _ _ _ _ _ => pc (ok_value_at E) hr (by decide) pass0 rfl (pa_cons (pv 0) (pa_cons (pc (ok_value_at E) hr (by decide) pass0 rfl (pa_cons (pv 1) (pa_cons (pe_op (kAdd K) (pv 15) (pe_int)) pa_nil))) pa_nil))))
  (pss_one (ps_ret (pc (ok_formed E) hr (by decide) pass0 rfl (pa_cons (pv 6) (pa_cons (pv 13) (pa_cons (pe_op (kMul K) (pv 9) (pe_op xDiv (pe_op (kMul K) (pv 4) (pv 12)) (pe_callB (kLen K) (by rfl) E.f_len (by decide +kernel) (pa_cons (pv 8) pa_nil)))) pa_nil)))))))))))))), ?_⟩
  change (_ : TS) _ [some v0, some v1, none, none, none, none, none, none, none, none, none, none, none, none, none, none] H
  try dsimp only [cxOf, Cx.nox, Cx.blk]
  obtain ⟨h1, l1, h2, l2, r1, r2, d1, d2, V1, V2, zz, z1, z2, k⟩ := h
  obtain ⟨a1, th1, tl1, rfl, s1, s2, s3⟩ := dp_raw d1
  obtain ⟨a2, th2, tl2, rfl, t1, t2, t3⟩ := dp_raw d2
  have zz' : h2.length + l2.length * (h1.length + 1) ≤ 40000 := Nat.le_trans (Nat.add_le_add_left (Nat.mul_le_mul_left _ (by omega)) _) zz
  have zh2 : h2.length ≤ 40000 := Nat.le_trans (Nat.le_add_right ..) zz
  walk_at "w"
  by_cases c : l2 = [] ∨ r2 = 0
  · rcases Decidable.em (l2 = []) with q | q
    case' inl =>
      have q0 : l2.length = 0 := by rw [q]; rfl
      rw [if_pos (show decide ((l2.length : Int) = 0) = true from decide_eq_true (by omega)), if_pos rfl]
      walk_at "w"
      refine ⟨h2, l2, r2, dp_of_raw t1 t2 t3, fun v H1 e1 q1 => ?_⟩
      obtain rfl := dp_toOpt q1
    case' inr =>
      have q0 : 0 < l2.length := List.length_pos_iff.mpr q
      have q1 : r2 = 0 := c.resolve_left q
      rw [if_neg (show ¬ decide ((l2.length : Int) = 0) = true from fun h => by have := of_decide_eq_true h; omega)]
      walk_at "w"
      refine ⟨h2, l2, r2, dp_of_raw t1 t2 t3, fun v H1 e1 q1 => ?_⟩
      obtain rfl := dp_toOpt q1
    all_goals
      walk_at "w"
      refine i_seqT ?_
      walk_at "w"
      refine lcJ_tup (v := valV h1 l1 r1) (ex_t e1 t2) (by rw [List.length_map]; omega) (fun x => [_, _, _, _, _, _, _, _, _, _, _, _, _, _, some x, _]) (fun x => rfl) (fun x => rfl) (fun x H2 Q' e2 hx hq => ?_) (fun p2 H2 n2 e2 g2 => ?_)
      · obtain ⟨n, hn, rfl⟩ := List.mem_map.mp hx
        walk_at "w"
        have e12 := e1.trans e2
        refine ⟨h1, l1, r1, some n, dp_of_raw (ex_t e12 s1) (ex_t e12 s2) (ex_t e12 s3), dp_of_opt (p := some n), fun i hi => by cases hi; exact V2.p1 n hn, V1.sm, fun v H4 e4 q4 => ?_⟩
        obtain rfl := dp_toOpt q4
        exact hq _ e4
      · rw [List.map_map] at g2
        walk_at "w"
        have e12 := e1.trans e2
        refine ⟨h1, l1, r1, endOf l2 r2, dp_of_raw (ex_t e12 s1) (ex_t e12 s2) (ex_t e12 s3), dp_of_opt, valueAt_nn V2.p1 V2.p2 V2.r0 none, V1.sm, fun v H4 e4 q4 => ?_⟩
        obtain rfl := dp_toOpt q4
        walk_at "w"
        intro p5 H5 n5 e5 h5
        refine r_addL (e5 _ _ (e4 _ _ g2)) h5 (sz_of (show _ + 1 ≤ _ by rw [List.length_map]; omega)) fun p9 H9 n9 e9 h9 => ?_
        have hv := head_vals (h1 := h1) (l1 := l1) (r1 := r1) V2 c
        have hL : SqL K H9 p9 (h2.map (fun n => optV (vat h1 l1 r1 n)) ++ [optV (valueAt h1 l1 r1 (endOf l2 r2))]) := sq_of h9
        have hA : SqL K H9 p9 ((List.range (h2.length + 1)).map fun j => optV (CV h1 l1 r1 (TV h2 l2 r2) j)) := hv ▸ hL
        have e09 : Ex H H9 := ((e12.trans e4).trans e5).trans e9
        walk_at "w"
        refine r_ixL hL (atI_last _ _) ?_
        walk_at "w"
        by_cases ce : valueAt h1 l1 r1 (endOf l2 r2) = none
        · rw [ce]
          simp only [optV]
          walk_at "w"
          refine ⟨p9, (List.range (h2.length + 1)).map (CV h1 l1 r1 (TV h2 l2 r2)), rfl, by rw [List.map_map]; exact hA, by rw [List.length_map, List.length_range]; omega, fun p10 H10 n10 e10 h10 => ?_⟩
          walk_at "w"
          intro p11 H11 e11 s11
          walk_at "w"
          intro p12 H12 n12 e12 h12
          walk_at "w"
          intro p13 H13 n13 e13 h13
          exact k _ _ _ [] 0 (e09.trans (by walk_at "ex")) (dp_of_raw (st_of h13) (ex_t e13 (ex_t e12 s11)) (ex_t e13 (st_of h12))) (cmp_none V1 V2 c zh2 ce)
        · obtain ⟨w1, w2, w3, w4⟩ := cmp_set (xs := (List.range (h2.length + 1)).map fun j => (CV h1 l1 r1 (TV h2 l2 r2) j).getD 0) V1 V2 c zh2 ce rfl
          obtain ⟨vv, cv⟩ : ∃ vv, valueAt h1 l1 r1 (endOf l2 r2) = some vv := by
            cases q : valueAt h1 l1 r1 (endOf l2 r2) with
            | none => exact absurd q ce
            | some vv => exact ⟨vv, rfl⟩
          rw [cv]
          simp only [optV]
          walk_at "w"
          rw [← w3] at hA
          exact ⟨p9, _, h2.length, 1, 0, rfl, rfl, rfl, hA, w2, Int.le_refl _, w1, fun v H10 e10 d10 => k v H10 _ _ _ (e09.trans e10) d10 w4⟩
  · have c2 : l2 ≠ [] := fun e => c (.inl e)
    have hr : 0 < r2 := by
      have := V2.r0
      have : ¬ r2 = 0 := fun e => c (.inr e)
      omega
    have l20 : 0 < l2.length := List.length_pos_iff.mpr c2
    have hr0 : r2 ≠ 0 := by omega
    walk_at "w"
    by_cases c1 : l1 = []
    · subst c1
      have q0 : ([] : List Int).length = 0 := rfl
      rw [if_pos (show decide ((([] : List Int).length : Int) = 0) = true from rfl)]
      walk_at "w"
      refine ⟨h2, l2, r2, 0, h1.length, dp_of_raw t1 t2 t3, rfl, rfl, c2, hr, V2, fun p H1 e1 B => ?_⟩
      obtain ⟨zp, hc, C⟩ := cmp_cut V1 V2 c2 hr zz' B
      walk_at "w"
      refine lcJ_r0 (v := fun j => optV (CV h1 [] r1 (TV h2 l2 r2) j)) (by omega) (fun x => [_, _, _, _, _, _, _, _, _, _, _, _, _, _, _, some x]) (fun x => rfl) (fun x => rfl) (fun j H2 Q' e2 hj hq => ?_) (fun p2 H2 n2 e2 g2 => ?_)
      · walk_at "w"
        have e12 := e1.trans e2
        refine ⟨h2, l2, r2, some ((j : Int) + 1), dp_of_raw (ex_t e12 t1) (ex_t e12 t2) (ex_t e12 t3), dp_of_opt (p := some _), fun i hi => by cases hi; omega, V2.sm, fun v H3 e3 q3 => ?_⟩
        obtain rfl := dp_toOpt q3
        walk_at "w"
        have e13 := e12.trans e3
        refine ⟨h1, [], r1, valueAt h2 l2 r2 (some ((j : Int) + 1)), dp_of_raw (ex_t e13 s1) (ex_t e13 s2) (ex_t e13 s3), dp_of_opt, valueAt_nn V2.p1 V2.p2 V2.r0 _, V1.sm, fun v H4 e4 q4 => ?_⟩
        obtain rfl := dp_toOpt q4
        rw [show valueAt h2 l2 r2 (some ((j : Int) + 1)) = TV h2 l2 r2 j from vat_TV j]
        exact hq _ (e3.trans e4)
      · rw [Int.toNat_natCast, (vals_some p hc).1] at g2
        walk_at "w"
        intro p5 H5 e5 s5
        walk_at "w"
        intro p6 H6 n6 e6 h6
        walk_at "w"
        intro p7 H7 n7 e7 h7
        exact k _ _ _ [] 0 (by walk_at "ex") (dp_of_raw (st_of h7) (ex_t e7 (ex_t e6 s5)) (ex_t e7 (st_of h6))) C
    · have l10 : 0 < l1.length := List.length_pos_iff.mpr c1
      walk_at "w"
      refine ⟨h2, l2, r2, h2.length, h1.length, dp_of_raw t1 t2 t3, rfl, rfl, c2, hr, V2, fun p H1 e1 B => ?_⟩
      walk_at "w"
      refine ⟨l1.length, r2, rfl, rfl, by omega, by omega, ?_⟩
      obtain ⟨t, e, t0, dt, ht, he, he2⟩ := turns_ok l10 hr
      have g0 : (0 : Int) < Int.gcd l1.length r2 := by
        have := Int.gcd_pos_of_ne_zero_left r2 (show (l1.length : Int) ≠ 0 by omega)
        omega
      have zl1 : l1.length ≤ 40000 := by
        have := Nat.le_mul_of_pos_left (h1.length + l1.length + 1) l20
        omega
      have g1 : (Int.gcd l1.length r2 : Int) ≤ l1.length := Int.le_of_dvd (by omega) (Int.gcd_dvd_left ..)
      have C := fun xs => cmp_go (xs := xs) V1 V2 c1 c2 hr zz z1 z2 B t0 dt he
      obtain ⟨w1, w2, w3, w4, w5, w6, w7⟩ := C _ rfl
      have zt : t ≤ l1.length := Nat.le_of_dvd l10 dt
      have zl2 : l2.length ≤ 40000 := by
        have := Nat.le_mul_of_pos_right l2.length (show 0 < h1.length + l1.length + 1 by omega)
        omega
      have r10 := V1.r0
      have er : (e : Int) ≤ r2 := by
        have a : r2 * t ≤ r2 * l1.length := Int.mul_le_mul_of_nonneg_left (by omega) (by omega)
        rw [he, Int.natCast_mul, Int.mul_comm r2] at a
        exact Int.le_of_mul_le_mul_left a (by omega)
      walk_at "w"
      rw [ht]
      walk_at "w"
      rw [← Int.natCast_mul]
      generalize hm : l2.length * t = m at *
      refine lcJ_r0 (n := p + m) (v := fun j => optV (CV h1 l1 r1 (TV h2 l2 r2) j)) (by omega) (fun x => [_, _, _, _, _, _, _, _, _, _, _, _, _, _, _, some x]) (fun x => rfl) (fun x => rfl) (fun j H2 Q' e2 hj hq => ?_) (fun p2 H2 n2 e2 g2 => ?_)
      · walk_at "w"
        have e12 := e1.trans e2
        refine ⟨h2, l2, r2, some ((j : Int) + 1), dp_of_raw (ex_t e12 t1) (ex_t e12 t2) (ex_t e12 t3), dp_of_opt (p := some _), fun i hi => by cases hi; omega, V2.sm, fun v H3 e3 q3 => ?_⟩
        obtain rfl := dp_toOpt q3
        walk_at "w"
        have e13 := e12.trans e3
        refine ⟨h1, l1, r1, valueAt h2 l2 r2 (some ((j : Int) + 1)), dp_of_raw (ex_t e13 s1) (ex_t e13 s2) (ex_t e13 s3), dp_of_opt, valueAt_nn V2.p1 V2.p2 V2.r0 _, V1.sm, fun v H4 e4 q4 => ?_⟩
        obtain rfl := dp_toOpt q4
        rw [show valueAt h2 l2 r2 (some ((j : Int) + 1)) = TV h2 l2 r2 j from vat_TV j]
        exact hq _ (e3.trans e4)
      · rw [← w3] at g2
        walk_at "w"
        rw [he2]
        exact ⟨p2, _, p, m, r1 * e, rfl, rfl, rfl, sq_of g2, w2, w6, w1, fun v H3 e3 d3 => k v H3 _ _ _ ((e1.trans e2).trans e3) d3 w7⟩

theorem steps_goQ {lk : Nat → Int} {S i : Nat} {ap q : Int} {s : Nat} (ha : 0 < ap) (up : ∀ k, k < i → lk (S + k) ≤ s * ap) (lo : s = 0 ∨ ∃ k, k < i ∧ ((s : Int) - 1) * ap < lk (S + k)) (c1 : lk (S + i) ≤ q * ap) (c2 : (q - 1) * ap < lk (S + i)) (c3 : 1 ≤ q) :
    ∃ s' : Nat, (s' : Int) = max (s : Int) q ∧ (∀ k, k < i + 1 → lk (S + k) ≤ s' * ap) ∧ (s' = 0 ∨ ∃ k, k < i + 1 ∧ ((s' : Int) - 1) * ap < lk (S + k)) := by
  rcases Int.le_total q s with h | h
  · refine ⟨s, (Int.max_eq_left h).symm, fun k hk => ?_, lo.imp id fun ⟨k, a, b⟩ => ⟨k, by omega, b⟩⟩
    by_cases e : k = i
    · subst e
      exact Int.le_trans c1 (Int.mul_le_mul_of_nonneg_right h (by omega))
    · exact up k (by omega)
  · refine ⟨q.toNat, by rw [Int.toNat_of_nonneg (by omega), Int.max_eq_right h], fun k hk => ?_, .inr ⟨i, by omega, by rw [Int.toNat_of_nonneg (by omega)]; exact c2⟩⟩
    rw [Int.toNat_of_nonneg (by omega)]
    by_cases e : k = i
    · subst e; exact c1
    · exact Int.le_trans (up k (by omega)) (Int.mul_le_mul_of_nonneg_right h (by omega))
theorem ceil_okN {x ap : Int} (hx : 0 < x) (ha : 0 < ap) : x ≤ -(-x / ap) * ap ∧ (-(-x / ap) - 1) * ap < x ∧ 1 ≤ -(-x / ap) := by
  have e := Int.emod_add_mul_ediv (-x) ap
  have h0 := Int.emod_nonneg (-x) (show ap ≠ 0 by omega)
  have h1 := Int.emod_lt_of_pos (-x) ha
  have h2 : -x / ap < 0 := Int.ediv_neg_of_neg_of_pos (by omega) ha
  generalize -x / ap = q at *
  rw [Int.mul_comm] at e
  refine ⟨?_, ?_, by omega⟩
  · rw [Int.neg_mul]; omega
  · rw [Int.sub_mul, Int.neg_mul]; omega
abbrev N__law_counts : List Str := ["values", "told", "value"]
theorem sc__law_counts : FnScope N__law_counts ["values"] (defScope s__law_counts) := ⟨rfl, rfl, rfl, by decide +kernel, rfl, by decide +kernel, by decide +kernel⟩
theorem ok__law_counts {P : Program} {w : World} {K : PySem.W.Frag} {mg : Str → Option Value} {base : Heap} (E : Env P K mg) : Fn P w K mg base CX0 1 "_law_counts" (sp1 fun v H Q _ => ∃ a xs, v = .ref a ∧ SqL K H a (xs.map optV) ∧ xs.length ≤ 60000 ∧ ∀ p H', H p = none → Ex H H' → H' p = some (.lst (vI (cnts xs))) → Q (.ref p) H') := by
  obtain ⟨fd, F⟩ := E.dd__law_counts
  refine Fn.mk0 F E.g__law_counts sc__law_counts sp1_len (fun _ _ _ _ _ _ us hl => match us, hl with | [_], _ => rfl) (fun cdv A outer s H vs Q X hr h => ?_)
  have nd := sc__law_counts.nd
  obtain ⟨v0, rfl, h⟩ := h
  refine ⟨_, (pss_cons (ps_set (i := 1) nd rfl (.inl rfl) (pe_lst (pa_nil)))
  (pss_cons (ps_for PassesOwn.never rfl (kSeq K (pv 0)) (pg_name (i := 2) nd rfl (.inl rfl))
   (pss_cons (ps_if (pt_cmpR xIs (pv 2) (pe_non) (nomark _))
   (pss_one (ps_ret (pv 1)))
   pss_nil)
  (pss_one (ps_expr (kBM K (pe_bm PySem.F.plainAttrs_list PySem.F.slot_list_append PySem.F.type_list_append mt_append (pv 1) (pa_cons (pv 2) pa_nil)))))))
  (pss_one (ps_ret (pv 1))))), ?_⟩
  change (_ : TS) _ [some v0, none, none] H
  try dsimp only [cxOf, Cx.nox, Cx.blk]
  obtain ⟨a, xs, rfl, hx, hz, k⟩ := h
  walk_at "w"
  intro p H1 n1 e1 h1
  walk_at "w"
  refine i_seqL ?_
  walk_at "w"
  refine for_list (xs := xs.map optV) (Pv := fun i σ' H' => ∃ v, σ' = [some (.ref a), some (.ref p), v] ∧ Ex H H' ∧ H' p = some (.lst (vI (cnts (xs.take i)))) ∧ (cnts (xs.take i)).length = i) ⟨_, rfl, e1, h1, rfl⟩ (fun _ _ H' _ q => by obtain ⟨_, _, e, _⟩ := q; exact ex_l e hx) ?_ ?_
  · rintro i y σ' H' hi ⟨v, rfl, e, g, hl⟩
    rw [List.getElem?_map] at hi
    obtain ⟨o, ho, rfl⟩ : ∃ o, xs[i]? = some o ∧ optV o = y := by
      cases q : xs[i]? with
      | none => rw [q] at hi; cases hi
      | some o => rw [q] at hi; exact ⟨o, rfl, Option.some.inj hi⟩
    have hlt := (List.getElem?_eq_some_iff.mp ho).1
    cases o with
    | none =>
      simp only [optV]
      walk_at "w"
      exact k p H' n1 e (by rw [cnts_stop hl ho]; exact g)
    | some c =>
      simp only [optV]
      obtain ⟨q1, q2⟩ := cnts_snoc hl ho
      walk_at "w"
      have hs : SqL K H' p (vI (cnts (xs.take i))) := sq_of g
      walk_at "w"
      refine r_app (K := K) g (sz_lt (by rw [List.length_map]; omega)) ?_
      walk_at "w"
      refine ⟨_, rfl, Ex.mut e n1, ?_, q2⟩
      rw [q1, show vI (cnts (xs.take i) ++ [c]) = vI (cnts (xs.take i)) ++ [V.int c] from List.map_append ..]
      exact upd_same
  · rintro σ' H' ⟨v, rfl, e, g, hl⟩
    walk_at "w"
    rw [List.length_map, List.take_length] at g
    exact k p H' n1 e g
abbrev N__law_fit : List Str := ["values", "many", "rise"]
theorem sc__law_fit : FnScope N__law_fit ["values", "many", "rise"] (defScope s__law_fit) := ⟨rfl, rfl, rfl, by decide +kernel, rfl, by decide +kernel, by decide +kernel⟩
theorem ok__law_fit {P : Program} {w : World} {K : PySem.W.Frag} {mg : Str → Option Value} {base : Heap} (E : Env P K mg) : Fn P w K mg base CX0 2 "_law_fit" (sp3 fun v m r H Q _ => ∃ (a : Addr) (xs : List Int) (c s : Nat) (d : Int), v = .ref a ∧ m = .int s ∧ r = .int d ∧ SqL K H a (vI xs) ∧ xs.length = c + s ∧ 0 ≤ d ∧ RSm (xs.take c) (xs.drop c) d ∧ RetD K (dPl (xs.take c) (xs.drop c) d) H Q) := by
  obtain ⟨fd, F⟩ := E.dd__law_fit
  refine Fn.mk0 F E.g__law_fit sc__law_fit sp3_len (fun _ _ _ _ _ _ us hl => match us, hl with | [_, _, _], _ => rfl) (fun cdv A outer s H vs Q X hr h => ?_)
  have nd := sc__law_fit.nd
  obtain ⟨v0, v1, v2, rfl, h⟩ := h
  refine ⟨_, (pss_one (ps_ret (pc (ok__law_plain E) hr (by decide) pass0 rfl (pa_cons (pe_slice (kSl K) (pv 0) po_none (po_some (pe_op xSub (pe_callB (kLen K) (by rfl) E.f_len (by decide +kernel) (pa_cons (pv 0) pa_nil)) (pv 1)))) (pa_cons (pe_slice (kSl K) (pv 0) (po_some (pe_op xSub (pe_callB (kLen K) (by rfl) E.f_len (by decide +kernel) (pa_cons (pv 0) pa_nil)) (pv 1))) po_none) (pa_cons (pv 2) pa_nil)))))), ?_⟩
  change (_ : TS) _ [some v0, some v1, some v2] H
  try dsimp only [cxOf, Cx.nox, Cx.blk]
  obtain ⟨a, xs, c, s, d, rfl, rfl, rfl, hx, hl, hd, hR, k⟩ := h
  obtain ⟨z1, z2, z3, z4⟩ := id hR
  rw [List.length_take] at z3
  rw [List.length_drop] at z4
  have ec : (xs.length : Int) - s = c := by omega
  walk_at "w"
  rw [ec]
  walk_at "w"
  intro p1 H1 n1 e1 h1
  walk_at "w"
  rw [ec]
  walk_at "w"
  intro p2 H2 n2 e2 h2
  rw [Int.toNat_natCast] at h1 h2
  walk_at "w"
  refine ⟨false, false, _, _, d, dp_of_intL (sq_of (e2 _ _ h1)), dp_of_intL (sq_of h2), .int d, hd, hR, fun v H5 e5 d5 => ?_⟩
  rw [lawF_eq] at d5
  exact k v H5 (by walk_at "ex") d5

theorem slp_P {PP : Nat} {l : List Int} {r : Int} : r * ((PP / l.length : Nat) : Int) = slp l r PP := by
  unfold slp
  rw [Int.natCast_ediv]
/-- the lesser one of an ended table and one that goes on -/
theorem low_go {h1 l1 h2 l2 : List Int} {r1 r2 : Int} {S : Nat} (c1 : l1 = []) (c2 : l2 ≠ []) (z1 : h1.length ≤ S) (z2 : h2.length ≤ S) :
    (∀ j, JV false (TV h1 l1 r1) (TV h2 l2 r2) j ≠ none) ∧ (∀ j, S ≤ j → JV false (TV h1 l1 r1) (TV h2 l2 r2) (j + l2.length) = (JV false (TV h1 l1 r1) (TV h2 l2 r2) j).map (· + r2)) ∧
    (∀ j, JV false (TV h2 l2 r2) (TV h1 l1 r1) j ≠ none) ∧ (∀ j, S ≤ j → JV false (TV h2 l2 r2) (TV h1 l1 r1) (j + l2.length) = (JV false (TV h2 l2 r2) (TV h1 l1 r1) j).map (· + r2)) := by
  have p : ∀ j, S ≤ j → fV h2 l2 r2 (j + l2.length) = fV h2 l2 r2 j + r2 := fun j hj => by rw [fV_per c2 (Nat.dvd_refl _) (by omega), slp_self c2]
  refine ⟨fun j h => ?_, fun j hj => ?_, fun j h => ?_, fun j hj => ?_⟩
  · unfold JV at h
    rw [tv_some c2] at h
    cases e : TV h1 l1 r1 j with
    | none => rw [e] at h; cases h
    | some v => rw [e, jnO_some] at h; cases h
  · unfold JV
    rw [tv_some c2, tv_some c2, tv_nil c1 (by omega), tv_nil c1 (by omega), p j hj]
    rfl
  · unfold JV at h
    rw [tv_some c2] at h
    cases e : TV h1 l1 r1 j with
    | none => rw [e] at h; cases h
    | some v => rw [e, jnO_some] at h; cases h
  · unfold JV
    rw [tv_some c2, tv_some c2, tv_nil c1 (by omega), tv_nil c1 (by omega), p j hj]
    rfl
abbrev spJoin (K : PySem.W.Frag) : Sp := sp3 fun a b c H Q _ => ∃ (PP N : Nat) (h1 l1 h2 l2 : List Int) (r1 r2 : Int) (g : Bool), 0 < PP ∧ PP ≤ 2000 ∧ Dp K H a (dRaw h1 l1 r1) ∧ Dp K H b (dRaw h2 l2 r2) ∧ c = .bl g ∧ N ≤ 40000 ∧ Cl PP N h1 l1 r1 ∧ Cl PP N h2 l2 r2 ∧ Sr PP N (TV h1 l1 r1) (TV h2 l2 r2) ∧ Sr PP N (TV h2 l2 r2) (TV h1 l1 r1) ∧
  ∀ v H' h l r, Ex H H' → Dp K H' v (dRaw h l r) → Cl PP N h l r → Pl (JV g (TV h1 l1 r1) (TV h2 l2 r2)) h l r → Q v H'
abbrev N_joined_raw : List Str := ["first", "second", "greatest", "longest", "ends", "going", "many", "rise", "rises", "values", "one"]
theorem sc_joined_raw : FnScope N_joined_raw ["first", "second", "greatest"] (defScope s_joined_raw) := ⟨rfl, rfl, rfl, by decide +kernel, rfl, by decide +kernel, by decide +kernel⟩
theorem ok_joined_raw {P : Program} {w : World} {K : PySem.W.Frag} {mg : Str → Option Value} {base : Heap} (E : Env P K mg) : Fn P w K mg base CX0 5 "joined_raw" (spJoin K) := by
  obtain ⟨fd, F⟩ := E.dd_joined_raw
  refine Fn.mk0 F E.g_joined_raw sc_joined_raw sp3_len (fun _ _ _ _ _ _ us hl => match us, hl with | [_, _, _], _ => rfl) (fun cdv A outer s H vs Q X hr h => ?_)
  have nd := sc_joined_raw.nd
  obtain ⟨v0, v1, v2, rfl, h⟩ := h
  refine ⟨_, (pss_cons (ps_set (i := 3) nd rfl (.inl rfl) (pe_callB (xMax2 rfl) (by rfl) E.f_max (by decide +kernel) (pa_cons (pe_callB (kLen K) (by rfl) E.f_len (by decide +kernel) (pa_cons (pe_ix (kIx K) (pv 0) (pe_int) (fun _ _ => rfl)) pa_nil)) (pa_cons (pe_callB (kLen K) (by rfl) E.f_len (by decide +kernel) (pa_cons (pe_ix (kIx K) (pv 1) (pe_int) (fun _ _ => rfl)) pa_nil)) pa_nil))))
  (pss_cons (ps_setLc (i := 4) (own := [("one", 10)]) (g := gName 10) (tt := tYes) rfl nd rfl rfl (sw_true rfl rfl rfl (by decide +kernel)) (kSeq K (pe_tup (pa_cons (pv 0) (pa_cons (pv 1) pa_nil)))) (blkOk_by (N := N_joined_raw) (sc := defScope s_joined_raw) (by decide +kernel)) (fun _ _ _ _ _ => pg_name (i := 10) nd rfl (Or.inl rfl)) (fun _ _ _ _ _ => pts_nil) (fun _ _ _ _ _ => pe_cmpR (kEq K hr) (pe_callB (kLen K) (by rfl) E.f_len (by decide +kernel) (pa_cons (pe_ix (kIx K) (pv 10) (pe_int) (fun _ _ => rfl)) pa_nil)) (pe_int) (nomark _)))
  (pss_cut (ps_if (PW.pt (pw_or (kTru K (pe_callB (kAll K rfl) (by rfl) E.f_all (by decide +kernel) (pa_cons (pv 4) pa_nil)) (by intro _; rfl)) (pw_or1 (PW.pt (pw_and (kTru K (pv 2) (by intro _; rfl)) (pw_and1 (kTru K (pe_callB (kAny K rfl) (by rfl) E.f_any (by decide +kernel) (pa_cons (pv 4) pa_nil)) (by intro _; rfl))))))))
   (pss_one (ps_ret (pe_tup (pa_cons (pe_callTy (kTup K) (by rfl) E.f_tuple (by decide +kernel) (pa_cons (pc (ok_until_never E) hr (by decide) pass0 rfl (pa_cons (pc (ok_joined_values E) hr (by decide) pass0 rfl (pa_cons (pv 0) (pa_cons (pv 1) (pa_cons (pv 2) (pa_cons (pe_op (kAdd K) (pv 3) (pe_int)) pa_nil))))) pa_nil)) pa_nil)) (pa_cons (pe_tup pa_nil) (pa_cons (pe_int) pa_nil))))))
   pss_nil)
  (pss_cut (ps_if (kTru K (pe_callB (kAny K rfl) (by rfl) E.f_any (by decide +kernel) (pa_cons (pv 4) pa_nil)) (by intro _; rfl))
   (pss_cons (ps_set (i := 5) nd rfl (.inl rfl) (pe_ifExp (kTru K (pe_ix (kIx K) (pv 4) (pe_int) (fun _ _ => rfl)) (by intro _; rfl)) (pv 1) (pv 0)))
  (pss_one (ps_asg (pe_tup (pa_cons (pe_callB (kLen K) (by rfl) E.f_len (by decide +kernel) (pa_cons (pe_ix (kIx K) (pv 5) (pe_int) (fun _ _ => rfl)) pa_nil)) (pa_cons (pe_ix (kIx K) (pv 5) (pe_int) (fun _ _ => rfl)) pa_nil))) (kGtup K rfl (pgs_cons (pg_name (i := 6) nd rfl (.inr rfl)) (pgs_cons (pg_name (i := 7) nd rfl (.inl rfl)) (pgs_nil)))))))
   (pss_cons (ps_set (i := 6) nd rfl (.inr rfl) (pc (ok_common_multiple E) hr (by decide) pass0 rfl (pa_cons (pe_callB (kLen K) (by rfl) E.f_len (by decide +kernel) (pa_cons (pe_ix (kIx K) (pv 0) (pe_int) (fun _ _ => rfl)) pa_nil)) (pa_cons (pe_callB (kLen K) (by rfl) E.f_len (by decide +kernel) (pa_cons (pe_ix (kIx K) (pv 1) (pe_int) (fun _ _ => rfl)) pa_nil)) pa_nil))))
  (pss_cons (ps_set (i := 3) nd rfl (.inl rfl) (pc (ok_later_start E) hr (by decide) pass0 rfl (pa_cons (pv 0) (pa_cons (pv 1) (pa_cons (pv 3) (pa_cons (pv 6) (pa_cons (pv 2) pa_nil)))))))
  (pss_cons (ps_setLc (i := 8) (own := [("one", 10)]) (g := gName 10) (tt := tYes) rfl nd rfl rfl (sw_true rfl rfl rfl (by decide +kernel)) (kSeq K (pe_tup (pa_cons (pv 0) (pa_cons (pv 1) pa_nil)))) (blkOk_by (N := N_joined_raw) (sc := defScope s_joined_raw) (by decide +kernel)) (fun _ _ _ _ _ => pg_name (i := 10) nd rfl (Or.inl rfl)) (fun _ _ _ _ _ => pts_nil) (fun _ _ _ _ _ => pe_op (kMul K) (pe_ix (kIx K) (pv 10) (pe_int) (fun _ _ => rfl)) (pe_op xDiv (pv 6) (pe_callB (kLen K) (by rfl) E.f_len (by decide +kernel) (pa_cons (pe_ix (kIx K) (pv 10) (pe_int) (fun _ _ => rfl)) pa_nil)))))
  (pss_one (ps_set (i := 7) nd rfl (.inl rfl) (pe_ifExp (kTru K (pv 2) (by intro _; rfl)) (pe_callB (xMax2 rfl) (by rfl) E.f_max (by decide +kernel) (pa_cons (pe_ix (kIx K) (pv 8) (pe_int) (fun _ _ => rfl)) (pa_cons (pe_ix (kIx K) (pv 8) (pe_int) (fun _ _ => rfl)) pa_nil))) (pe_callB (xMin2 rfl) (by rfl) E.f_min (by decide +kernel) (pa_cons (pe_ix (kIx K) (pv 8) (pe_int) (fun _ _ => rfl)) (pa_cons (pe_ix (kIx K) (pv 8) (pe_int) (fun _ _ => rfl)) pa_nil))))))))))
  (pss_cons (ps_set (i := 9) nd rfl (.inl rfl) (pc (ok_joined_values E) hr (by decide) pass0 rfl (pa_cons (pv 0) (pa_cons (pv 1) (pa_cons (pv 2) (pa_cons (pe_op (kAdd K) (pv 3) (pv 6)) pa_nil))))))
  (pss_one (ps_ret (pc (ok_formed E) hr (by decide) pass0 rfl (pa_cons (pv 9) (pa_cons (pv 6) (pa_cons (pv 7) pa_nil))))))))))), ?_⟩
  change (_ : TS) _ [some v0, some v1, some v2, none, none, none, none, none, none, none, none] H
  try dsimp only [cxOf, Cx.nox, Cx.blk]
  obtain ⟨PP, N, h1, l1, h2, l2, r1, r2, g, hP, zP, d1, d2, rfl, zN, C1, C2, s12, s21, k⟩ := h
  obtain ⟨a1, th1, tl1, rfl, s1, s2, s3⟩ := dp_raw d1
  obtain ⟨a2, th2, tl2, rfl, t1, t2, t3⟩ := dp_raw d2
  have zh1 := C1.zh
  have zh2 := C2.zh
  have zl1 := C1.zl hP
  have zl2 := C2.zl hP
  have G := (Gd.of C1.val).join g (Gd.of C2.val)
  walk_at "w"
  obtain ⟨S, hS⟩ : ∃ S : Nat, (S : Int) = max (h1.length : Int) h2.length := ⟨max h1.length h2.length, by omega⟩
  rw [← hS]
  have S1 : h1.length ≤ S := by omega
  have S2 : h2.length ≤ S := by omega
  have S3 : S ≤ N + 2 * PP := by omega
  refine i_seqT ?_
  walk_at "w"
  intro p1 H1 n1 e1 g1
  have g1' : SqT K H1 p1 [.ref a1, .ref a2] := st_of g1
  walk_at "w"
  generalize he1 : decide (l1 = []) = b1
  generalize he2 : decide (l2 = []) = b2
  refine lcD_tup (xs := [.ref a1, .ref a2]) (fun i => .bool (if i = 0 then b1 else b2)) (fun i => rfl) g1' (show 2 ≤ 100000 by decide) (fun x => [_, _, _, _, _, _, _, _, _, _, some x]) (fun x => rfl) (fun x => rfl) (fun i x H2 Q' e2 hx hq => ?_) (fun p H2 ys n2 e2 h2 dy => ?_)
  · rcases i with _ | _ | i
    · cases hx
      walk_at "w"
      rw [len0, he1]
      exact hq _ _ (Ex.refl _) (.bl _)
    · cases hx
      walk_at "w"
      rw [len0, he2]
      exact hq _ _ (Ex.refl _) (.bl _)
    · cases hx
  · have dy' : DpAll K H2 ys [.bool b1, .bool b2] := dy
    obtain rfl := dp_two dy'
    walk_at "w"
    have e12 := e1.trans e2
    have S1' := ex_t e12 s1
    have S2' := ex_t e12 s2
    have S3' := ex_t e12 s3
    have T1' := ex_t e12 t1
    have T2' := ex_t e12 t2
    have T3' := ex_t e12 t3
    have hs2 : SqL K H2 p [.bl b1, .bl b2] := sq_of h2
    clear s1 s2 s3 t1 t2 t3 d1 d2 e1 e2 dy dy' g1 g1' n1 n2 h2
    have eJ : (b1 = true ∧ b2 = true) ∨ (g = true ∧ b1 = true ∧ b2 = false) ∨ (g = true ∧ b1 = false ∧ b2 = true) → JV g (TV h1 l1 r1) (TV h2 l2 r2) S = none ∧ ∀ j, N ≤ j → JV g (TV h1 l1 r1) (TV h2 l2 r2) j = none := by
      rintro (⟨q1, q2⟩ | ⟨rfl, q1, _⟩ | ⟨rfl, _, q2⟩)
      · have c1 : l1 = [] := by rw [q1] at he1; exact of_decide_eq_true he1
        have c2 : l2 = [] := by rw [q2] at he2; exact of_decide_eq_true he2
        have k1 := C1.kd c1
        have k2 := C2.kd c2
        exact ⟨by unfold JV; rw [tv_nil c1 S1, tv_nil c2 S2]; cases g <;> rfl, fun j hj => by unfold JV; rw [tv_nil c1 (by omega), tv_nil c2 (by omega)]; cases g <;> rfl⟩
      · have c1 : l1 = [] := by rw [q1] at he1; exact of_decide_eq_true he1
        have k1 := C1.kd c1
        exact ⟨by unfold JV; rw [tv_nil c1 S1]; exact (topO_none _).2, fun j hj => by unfold JV; rw [tv_nil c1 (by omega)]; exact (topO_none _).2⟩
      · have c2 : l2 = [] := by rw [q2] at he2; exact of_decide_eq_true he2
        have k2 := C2.kd c2
        exact ⟨by unfold JV; rw [tv_nil c2 S2]; exact (topO_none _).1, fun j hj => by unfold JV; rw [tv_nil c2 (by omega)]; exact (topO_none _).1⟩
    refine w_cut (M := fun σ' H' => σ' = [some (.ref a1), some (.ref a2), some (.bl g), some (.int S), some (.ref p), none, none, none, none, none, none] ∧ H' = H2 ∧ ¬ ((b1 = true ∧ b2 = true) ∨ (g = true ∧ b1 = true ∧ b2 = false) ∨ (g = true ∧ b1 = false ∧ b2 = true))) ?_ ?_
    · by_cases hE : (b1 = true ∧ b2 = true) ∨ (g = true ∧ b1 = true ∧ b2 = false) ∨ (g = true ∧ b1 = false ∧ b2 = true)
      · obtain ⟨z1, z2⟩ := eJ hE
        obtain ⟨cE, pE⟩ := join_end (P := PP) G z1 S3 zP zN z2
        clear eJ
        walk_at "w"
        refine r_all (bs := [b1, b2]) hs2 rfl ?_
        rcases hE with ⟨rfl, rfl⟩ | ⟨rfl, rfl, rfl⟩ | ⟨rfl, rfl, rfl⟩ <;>
        · walk_at "w"
          try (refine r_any (bs := [_, _]) hs2 rfl ?_; walk_at "w")
          refine ⟨h1, l1, h2, l2, r1, r2, _, S + 1, dp_of_raw S1' S2' S3', dp_of_raw T1' T2' T3', rfl, rfl, by omega, C1.val.sm, C2.val.sm, fun p3 H3 n3 e3 h3 => ?_⟩
          walk_at "w"
          refine ⟨p3, (List.range (S + 1)).map (JV _ (TV h1 l1 r1) (TV h2 l2 r2)), rfl, by rw [List.map_map]; exact sq_of h3, by rw [List.length_map, List.length_range]; omega, fun p4 H4 n4 e4 h4 => ?_⟩
          walk_at "w"
          intro p5 H5 e5 s5
          walk_at "w"
          intro p6 H6 n6 e6 h6
          walk_at "w"
          intro p7 H7 n7 e7 h7
          exact k _ _ _ [] 0 (e12.trans (by walk_at "ex")) (dp_of_raw (st_of h7) (ex_t e7 (ex_t e6 s5)) (ex_t e7 (st_of h6))) cE pE
      · clear eJ
        walk_at "w"
        refine r_all (bs := [b1, b2]) hs2 rfl ?_
        cases b1 <;> cases b2 <;> cases g <;> first
          | exact absurd (by decide) hE
          | (walk_at "w"
             try (refine r_any (bs := [_, _]) hs2 rfl ?_; walk_at "w")
             exact ⟨rfl, rfl, hE⟩)
    rintro σ' H3 ⟨rfl, rfl, hE⟩
    clear eJ
    refine w_cut (M := fun σ' H' => ∃ (S' m : Nat) (d : Int) (u w x y : Option V), σ' = [some (.ref a1), some (.ref a2), some (.bl g), some (.int S'), u, w, some (.int m), some (.int d), x, none, y] ∧ Ex H3 H' ∧ 1 ≤ m ∧ m ∣ PP ∧ S' ≤ N + 2 * PP ∧ 0 ≤ d ∧ d * ((PP / m : Nat) : Int) ≤ 10000000000 ∧ (∀ j, JV g (TV h1 l1 r1) (TV h2 l2 r2) j ≠ none) ∧ ∀ j, S' ≤ j → JV g (TV h1 l1 r1) (TV h2 l2 r2) (j + m) = (JV g (TV h1 l1 r1) (TV h2 l2 r2) j).map (· + d)) ?_ ?_
    · walk_at "w"
      refine r_any (bs := [b1, b2]) hs2 rfl ?_
      cases b1 with
      | true =>
        have hb2 : b2 = false := by
          cases b2
          · rfl
          · exact absurd (.inl ⟨rfl, rfl⟩) hE
        subst hb2
        have hg : g = false := by
          cases g
          · rfl
          · exact absurd (.inr (.inl ⟨rfl, rfl, rfl⟩)) hE
        subst hg
        have c1 := of_decide_eq_true he1
        have c2 := of_decide_eq_false he2
        obtain ⟨w1, w2, _, _⟩ := low_go (r1 := r1) (r2 := r2) c1 c2 S1 S2
        walk_at "w"
        intro p4 H4 n4 e4 g4
        have g4' : SqT K H4 p4 [.int l2.length, .int r2] := st_of g4
        walk_at "w"
        exact ⟨S, l2.length, r2, _, _, _, _, rfl, e4, List.length_pos_iff.mpr c2, C2.dv c2, S3, C2.val.r0, by rw [slp_P]; exact C2.sb, w1, w2⟩
      | false =>
        have c1 := of_decide_eq_false he1
        cases b2 with
        | true =>
          have hg : g = false := by
            cases g
            · rfl
            · exact absurd (.inr (.inr ⟨rfl, rfl, rfl⟩)) hE
          subst hg
          have c2 := of_decide_eq_true he2
          obtain ⟨_, _, w1, w2⟩ := low_go (r1 := r2) (r2 := r1) c2 c1 S2 S1
          walk_at "w"
          intro p4 H4 n4 e4 g4
          have g4' : SqT K H4 p4 [.int l1.length, .int r1] := st_of g4
          walk_at "w"
          exact ⟨S, l1.length, r1, _, _, _, _, rfl, e4, List.length_pos_iff.mpr c1, C1.dv c1, S3, C1.val.r0, by rw [slp_P]; exact C1.sb, w1, w2⟩
        | false =>
          have c2 := of_decide_eq_false he2
          have l10 : 0 < l1.length := List.length_pos_iff.mpr c1
          have l20 : 0 < l2.length := List.length_pos_iff.mpr c2
          walk_at "w"
          refine ⟨l1.length, l2.length, rfl, rfl, l10, by omega, by omega, ?_⟩
          have md1 : l1.length ∣ Nat.lcm l1.length l2.length := Nat.dvd_lcm_left ..
          have md2 : l2.length ∣ Nat.lcm l1.length l2.length := Nat.dvd_lcm_right ..
          have md : Nat.lcm l1.length l2.length ∣ PP := Nat.lcm_dvd (C1.dv c1) (C2.dv c2)
          have m0 : 0 < Nat.lcm l1.length l2.length := Nat.lcm_pos l10 l20
          generalize Nat.lcm l1.length l2.length = m at *
          have mPP : m ≤ PP := Nat.le_of_dvd hP md
          have rr1 := C1.br hP
          have r10 := C1.val.r0
          have r20 := C2.val.r0
          have rr2 := C2.br hP
          walk_at "w"
          refine ⟨h1, l1, h2, l2, r1, r2, S, m, g, dp_of_raw S1' S2' S3', dp_of_raw T1' T2' T3', rfl, rfl, rfl, c1, c2, C1.val.r0, by omega, C2.val.r0, by omega, C1.val.sm, C2.val.sm, by omega, by omega, fun s H4 e4 st => ?_⟩
          obtain ⟨j1, j2, j3⟩ := join_main g c1 c2 S1 S2 S3 md1 md2 md hP s12 s21 st
          walk_at "w"
          refine i_seqT ?_
          walk_at "w"
          intro p5 H5 n5 e5 g5
          have g5' : SqT K H5 p5 [.ref a1, .ref a2] := st_of g5
          walk_at "w"
          refine lcD_tup (xs := [.ref a1, .ref a2]) (fun i => .int (if i = 0 then slp l1 r1 m else slp l2 r2 m)) (fun i => rfl) g5' (show 2 ≤ 100000 by decide) (fun x => [_, _, _, _, _, _, _, _, _, _, some x]) (fun x => rfl) (fun x => rfl) (fun i x H6 Q' e6 hx hq => ?_) (fun p6 H6 ys n6 e6 h6 dy => ?_)
          · rcases i with _ | _ | i
            · cases hx
              walk_at "w"
              exact hq _ _ (Ex.refl _) (.int _)
            · cases hx
              walk_at "w"
              exact hq _ _ (Ex.refl _) (.int _)
            · cases hx
          · have dy' : DpAll K H6 ys [.int (slp l1 r1 m), .int (slp l2 r2 m)] := dy
            obtain rfl := dp_two_i dy'
            have hs6 : SqL K H6 p6 [.int (slp l1 r1 m), .int (slp l2 r2 m)] := sq_of h6
            have q1 := slp_le (l := l1) C1.val.r0 (show r1 ≤ 1000000000000 by omega) (show m ≤ 50000 by omega)
            have q2 := slp_le (l := l2) C2.val.r0 (show r2 ≤ 1000000000000 by omega) (show m ≤ 50000 by omega)
            have sb1 := C1.sb
            have sb2 := C2.sb
            obtain ⟨q, hq⟩ := id md
            have hdiv : PP / m = q := by rw [hq, Nat.mul_div_cancel_left _ m0]
            rw [hq, slp_mul c1 md1] at sb1
            rw [hq, slp_mul c2 md2] at sb2
            cases g with
            | true =>
              walk_at "w"
              refine ⟨S + s * m, m, _, _, _, _, _, rfl, (e4.trans e5).trans e6, m0, md, j1, ?_, ?_, j3, j2⟩
              · omega
              · rw [hdiv]
                rcases Int.le_total (slp l1 r1 m) (slp l2 r2 m) with z | z
                · rw [Int.max_eq_right z]; exact sb2
                · rw [Int.max_eq_left z]; exact sb1
            | false =>
              walk_at "w"
              refine ⟨S + s * m, m, _, _, _, _, _, rfl, (e4.trans e5).trans e6, m0, md, j1, ?_, ?_, j3, j2⟩
              · omega
              · rw [hdiv]
                rcases Int.le_total (slp l1 r1 m) (slp l2 r2 m) with z | z
                · rw [Int.min_eq_left z]; exact sb1
                · rw [Int.min_eq_right z]; exact sb2
    rintro σ' H4 ⟨S', m, d, u, w, x, y, rfl, e4, m0, md, zS', d0, sb, jc, jp⟩
    have mPP : m ≤ PP := Nat.le_of_dvd hP md
    walk_at "w"
    refine ⟨h1, l1, h2, l2, r1, r2, g, S' + m, dp_of_raw (ex_t e4 S1') (ex_t e4 S2') (ex_t e4 S3'), dp_of_raw (ex_t e4 T1') (ex_t e4 T2') (ex_t e4 T3'), rfl, rfl, by omega, C1.val.sm, C2.val.sm, fun p5 H5 n5 e5 h5 => ?_⟩
    generalize hf : JV g (TV h1 l1 r1) (TV h2 l2 r2) = f at *
    have hv : ∀ j, f j = some ((f j).getD 0) := fun j => by
      cases e : f j with
      | none => exact absurd e (jc j)
      | some v => rfl
    have hx : ((List.range (S' + m)).map fun j => (f j).getD 0).map some = (List.range (S' + m)).map f := by
      rw [List.map_map]
      exact List.map_congr_left fun j _ => (hv j).symm
    have h5' : H5 p5 = some (.lst (vI ((List.range (S' + m)).map fun j => (f j).getD 0))) := by
      rw [h5]
      refine congrArg (fun z => some (HO.lst z)) ?_
      show _ = List.map V.int _
      rw [List.map_map]
      exact List.map_congr_left fun j _ => by rw [hv j]; rfl
    obtain ⟨w1, w2, w3, w4⟩ := join_go (P := PP) G m0 md jc jp hx zS' hP zP zN d0 sb
    walk_at "w"
    refine ⟨p5, _, S', m, d, rfl, rfl, rfl, sq_of h5', w2, d0, w1, fun v H6 e6 d6 => ?_⟩
    exact k v H6 _ _ _ (((e12.trans e4).trans e5).trans e6) d6 w3 w4

local macro_rules | `(tactic| walk_at "hp") => `(tactic| first
  | with_reducible assumption
  | (with_reducible refine' ex_tab ?a ?b; (case a => with_reducible assumption); (case b => walk_at "hp")))
local macro_rules | `(tactic| walk_at "w2") => `(tactic| first
  | ((with_reducible refine' r_tabHead ?a ?b ?q); (case a => with_reducible assumption); (case b => walk_at "hp"))
  | ((with_reducible refine' r_tabLoop ?a ?b ?q); (case a => with_reducible assumption); (case b => walk_at "hp"))
  | ((with_reducible refine' r_tabRise ?a ?b ?q); (case a => with_reducible assumption); (case b => walk_at "hp")))
theorem tFlds_no {th tl : Addr} {r : Int} {m : Str} (h1 : ¬ m = "head") (h2 : ¬ m = "loop") (h3 : ¬ m = "rise") : (tFlds th tl r).lookup m = none := by
  unfold tFlds
  rw [lookup_putF, if_neg h3, lookup_putF, if_neg h2, lookup_putF, if_neg h1]
  rfl
/-- a table with the values f stands at x -/
def TB (PP N : Nat) (K : PySem.W.Frag) (H : Hp) (x : Addr) (f : Nat → Option Int) : Prop := ∃ h l r, TabAt K H x h l r ∧ Cl PP N h l r ∧ Pl f h l r
theorem TB.ex {PP N : Nat} {K : PySem.W.Frag} {H H' : Hp} {x : Addr} {f : Nat → Option Int} (e : Ex H H') (t : TB PP N K H x f) : TB PP N K H' x f := by
  obtain ⟨h, l, r, a, b, c⟩ := t
  exact ⟨h, l, r, ex_tab e a, b, c⟩
theorem TB.fr {PP N : Nat} {K : PySem.W.Frag} {H H' : Hp} {a x : Addr} {f : Nat → Option Int} (e : Fr a H H') (s : SrcAt H a) (t : TB PP N K H x f) : TB PP N K H' x f := by
  obtain ⟨h, l, r, u, b, c⟩ := t
  exact ⟨h, l, r, fr_tab e s u, b, c⟩
theorem TB.of {PP N : Nat} {K : PySem.W.Frag} {H : Hp} {x : Addr} {h l : List Int} {r : Int} (C : Cl PP N h l r) (t : TabAt K H x (plainF h l r).1 (plainF h l r).2.1 (plainF h l r).2.2) : TB PP N K H x (TV h l r) := ⟨_, _, _, t, cl_plain2 C, Pl.of C.val⟩
theorem TB.ins {PP N : Nat} {K : PySem.W.Frag} {H : Hp} {x : Addr} {f : Nat → Option Int} (t : TB PP N K H x f) : ∃ dx fs, H x = some (.ins (He.ga K "Table") dx fs) := by
  obtain ⟨h, l, r, ⟨dx, th, tl, e, _⟩, _⟩ := t
  exact ⟨dx, _, e⟩
theorem TB.gd {PP N : Nat} {K : PySem.W.Frag} {H : Hp} {x : Addr} {f : Nat → Option Int} (t : TB PP N K H x f) : Gd f ∧ Knd PP N f := by
  obtain ⟨h, l, r, _, C, P⟩ := t
  have e : TV h l r = f := funext P.tv
  rw [← e]
  exact ⟨Gd.of C.val, C.knd⟩
abbrev N_Table_raw : List Str := ["self"]
theorem sc_Table_raw : FnScope N_Table_raw ["self"] (defScope s_Table_raw) := ⟨rfl, rfl, rfl, by decide +kernel, rfl, by decide +kernel, by decide +kernel⟩
theorem fx_Table_raw {P : Program} {w : World} {K : PySem.W.Frag} {mg : Str → Option Value} {base : Heap} (E : Env P K mg) : ∃ fd, FunD K "raw" "Table.raw" (defArgs s_Table_raw) (defBody s_Table_raw) (defScope s_Table_raw) (d_Table_raw.dvs K) [] (d_Table_raw.adr K) fd ∧ FnOk P w K mg base CX0 1 (d_Table_raw.adr K) fd ["self"] (sp1 fun x H Q _ => ∃ p h l r, x = .ref p ∧ TabAt K H p h l r ∧ RetD K (dRaw h l r) H Q) := by
  obtain ⟨fd, F⟩ := E.dd_Table_raw
  refine ⟨fd, F, fnok0 F sc_Table_raw sp1_len (fun cdv A outer s H vs Q X hr h => ?_)⟩
  have nd := sc_Table_raw.nd
  obtain ⟨v0, rfl, h⟩ := h
  refine ⟨_, (pss_one (ps_ret (pe_tup (pa_cons (kFld K (pv 0) rfl) (pa_cons (kFld K (pv 0) rfl) (pa_cons (kFld K (pv 0) rfl) pa_nil)))))), ?_⟩
  change (_ : TS) _ [some v0] H
  try dsimp only [cxOf, Cx.nox, Cx.blk]
  obtain ⟨p, h, l, r, rfl, ht, k⟩ := h
  walk_at "w"
  intro th s1
  walk_at "w"
  intro tl s2
  walk_at "w"
  intro a H2 n2 e2 h2
  exact k _ _ (by walk_at "ex") (dp_of_raw (st_of h2) (by walk_at "hp") (by walk_at "hp"))
theorem ok_Table_raw {P : Program} {w : World} {K : PySem.W.Frag} {mg : Str → Option Value} {base : Heap} (E : Env P K mg) : Mt P w K mg base CX0 1 (He.ga K "Table") "raw" (sp1 fun x H Q _ => ∃ p h l r, x = .ref p ∧ TabAt K H p h l r ∧ RetD K (dRaw h l r) H Q) := by
  obtain ⟨fd, F, k⟩ := fx_Table_raw (P := P) (w := w) (base := base) E
  exact ⟨_, fd, _, E.c_Table, E.m_Table_raw, k, F.bindsN (fun _ _ _ _ _ _ us hl => match us, hl with | [_], _ => rfl)⟩
abbrev N_table_from : List Str := ["raw"]
theorem sc_table_from : FnScope N_table_from ["raw"] (defScope s_table_from) := ⟨rfl, rfl, rfl, by decide +kernel, rfl, by decide +kernel, by decide +kernel⟩
theorem ok_table_from {P : Program} {w : World} {K : PySem.W.Frag} {mg : Str → Option Value} {base : Heap} (E : Env P K mg) : Fn P w K mg base CX0 12 "table_from" (sp1 fun v H Q _ => ∃ h l r, Dp K H v (dRaw h l r) ∧ Val h l r ∧ ∀ x H2, Ex H H2 → TabAt K H2 x (plainF h l r).1 (plainF h l r).2.1 (plainF h l r).2.2 → Q (.ref x) H2) := by
  obtain ⟨fd, F⟩ := E.dd_table_from
  refine Fn.mk0 F E.g_table_from sc_table_from sp1_len (fun _ _ _ _ _ _ us hl => match us, hl with | [_], _ => rfl) (fun cdv A outer s H vs Q X hr h => ?_)
  have nd := sc_table_from.nd
  obtain ⟨v0, rfl, h⟩ := h
  refine ⟨_, (pss_one (ps_ret (pmk (ok_Table3 E) hr (by decide) pass0 rfl (pa_cons (pe_ix (kIx K) (pv 0) (pe_int) (fun _ _ => rfl)) (pa_cons (pe_ix (kIx K) (pv 0) (pe_int) (fun _ _ => rfl)) (pa_cons (pe_ix (kIx K) (pv 0) (pe_int) (fun _ _ => rfl)) pa_nil)))))), ?_⟩
  change (_ : TS) _ [some v0] H
  try dsimp only [cxOf, Cx.nox, Cx.blk]
  obtain ⟨h, l, r, hD, W, k⟩ := h
  obtain ⟨a, th, tl, rfl, s1, s2, s3⟩ := dp_raw hD
  walk_at "w"
  exact mk_tab (b1 := true) (b2 := true) rfl (dp_of_ints s2) (dp_of_ints s3) (.int r) W k
abbrev spTB (g : Bool) (K : PySem.W.Frag) : Sp := sp2 fun x y H Q _ => ∃ (PP N : Nat) (p q : Addr) (f1 f2 : Nat → Option Int), x = .ref p ∧ y = .ref q ∧ TB PP N K H p f1 ∧ TB PP N K H q f2 ∧ 0 < PP ∧ PP ≤ 2000 ∧ N ≤ 40000 ∧ Sr PP N f1 f2 ∧ Sr PP N f2 f1 ∧ ∀ z H', Ex H H' → TB PP N K H' z (JV g f1 f2) → Q (.ref z) H'
abbrev N_Table_and : List Str := ["self", "other"]
theorem sc_Table_and : FnScope N_Table_and ["self", "other"] (defScope s_Table_and) := ⟨rfl, rfl, rfl, by decide +kernel, rfl, by decide +kernel, by decide +kernel⟩
theorem fx_Table_and {P : Program} {w : World} {K : PySem.W.Frag} {mg : Str → Option Value} {base : Heap} (E : Env P K mg) : ∃ fd, FunD K "__and__" "Table.__and__" (defArgs s_Table_and) (defBody s_Table_and) (defScope s_Table_and) (d_Table_and.dvs K) [] (d_Table_and.adr K) fd ∧ FnOk P w K mg base CX0 13 (d_Table_and.adr K) fd ["self", "other"] (spTB true K) := by
  obtain ⟨fd, F⟩ := E.dd_Table_and
  refine ⟨fd, F, fnok0 F sc_Table_and sp2_len (fun cdv A outer s H vs Q X hr h => ?_)⟩
  have nd := sc_Table_and.nd
  obtain ⟨v0, v1, rfl, h⟩ := h
  refine ⟨_, (pss_one (ps_ret (pc (ok_table_from E) hr (by decide) pass0 rfl (pa_cons (pc (ok_joined_raw E) hr (by decide) pass0 rfl (pa_cons (pmt0 (ok_Table_raw E) hr (by decide) pass0 (pv 0)) (pa_cons (pmt0 (ok_Table_raw E) hr (by decide) pass0 (pv 1)) (pa_cons (pe_bl) pa_nil)))) pa_nil)))), ?_⟩
  change (_ : TS) _ [some v0, some v1] H
  try dsimp only [cxOf, Cx.nox, Cx.blk]
  obtain ⟨PP, N, p, q, f1, f2, rfl, rfl, t1, t2, hP, zP, zN, s12, s21, k⟩ := h
  obtain ⟨h1, l1, r1, u1, C1, P1⟩ := t1
  obtain ⟨h2, l2, r2, u2, C2, P2⟩ := t2
  obtain rfl := funext P1.tv
  obtain rfl := funext P2.tv
  walk_at "w"
  obtain ⟨dx1, th1, tl1, i1, _⟩ := id u1
  refine r_meth i1 (tFlds_no (by decide) (by decide) (by decide)) ?_
  walk_at "w"
  refine w_callM1 ⟨p, h1, l1, r1, rfl, u1, fun v1 H1 e1 d1 => ?_⟩
  walk_at "w"
  obtain ⟨dx2, th2, tl2, i2, _⟩ := id (ex_tab e1 u2)
  refine r_meth i2 (tFlds_no (by decide) (by decide) (by decide)) ?_
  walk_at "w"
  refine w_callM1 ⟨q, h2, l2, r2, rfl, ex_tab e1 u2, fun v2 H2 e2 d2 => ?_⟩
  walk_at "w"
  refine ⟨PP, N, h1, l1, h2, l2, r1, r2, true, hP, zP, dp_ex e2 d1, d2, rfl, zN, C1, C2, s12, s21, fun v H3 h l r e3 d3 C P => ?_⟩
  walk_at "w"
  refine ⟨h, l, r, d3, C.val, fun x H4 e4 t4 => ?_⟩
  rw [P.pf] at t4
  exact k x H4 (((e1.trans e2).trans e3).trans e4) ⟨h, l, r, t4, C, P⟩
theorem ok_Table_and {P : Program} {w : World} {K : PySem.W.Frag} {mg : Str → Option Value} {base : Heap} (E : Env P K mg) : BinOf P w K mg base 13 (He.ga K "Table") "__and__" (spTB true K) := by
  obtain ⟨fd, F, k⟩ := fx_Table_and (P := P) (w := w) (base := base) E
  exact ⟨⟨_, fd, _, E.m_Table_and.at_, E.m_Table_and.fn, k, F.bindsN (fun _ _ _ _ _ _ us hl => match us, hl with | [_, _], _ => rfl)⟩, E.sf_Table⟩
abbrev N_Table_or : List Str := ["self", "other"]
theorem sc_Table_or : FnScope N_Table_or ["self", "other"] (defScope s_Table_or) := ⟨rfl, rfl, rfl, by decide +kernel, rfl, by decide +kernel, by decide +kernel⟩
theorem fx_Table_or {P : Program} {w : World} {K : PySem.W.Frag} {mg : Str → Option Value} {base : Heap} (E : Env P K mg) : ∃ fd, FunD K "__or__" "Table.__or__" (defArgs s_Table_or) (defBody s_Table_or) (defScope s_Table_or) (d_Table_or.dvs K) [] (d_Table_or.adr K) fd ∧ FnOk P w K mg base CX0 13 (d_Table_or.adr K) fd ["self", "other"] (spTB false K) := by
  obtain ⟨fd, F⟩ := E.dd_Table_or
  refine ⟨fd, F, fnok0 F sc_Table_or sp2_len (fun cdv A outer s H vs Q X hr h => ?_)⟩
  have nd := sc_Table_or.nd
  obtain ⟨v0, v1, rfl, h⟩ := h
  refine ⟨_, (pss_one (ps_ret (pc (ok_table_from E) hr (by decide) pass0 rfl (pa_cons (pc (ok_joined_raw E) hr (by decide) pass0 rfl (pa_cons (pmt0 (ok_Table_raw E) hr (by decide) pass0 (pv 0)) (pa_cons (pmt0 (ok_Table_raw E) hr (by decide) pass0 (pv 1)) (pa_cons (pe_bl) pa_nil)))) pa_nil)))), ?_⟩
  change (_ : TS) _ [some v0, some v1] H
  try dsimp only [cxOf, Cx.nox, Cx.blk]
  obtain ⟨PP, N, p, q, f1, f2, rfl, rfl, t1, t2, hP, zP, zN, s12, s21, k⟩ := h
  obtain ⟨h1, l1, r1, u1, C1, P1⟩ := t1
  obtain ⟨h2, l2, r2, u2, C2, P2⟩ := t2
  obtain rfl := funext P1.tv
  obtain rfl := funext P2.tv
  walk_at "w"
  obtain ⟨dx1, th1, tl1, i1, _⟩ := id u1
  refine r_meth i1 (tFlds_no (by decide) (by decide) (by decide)) ?_
  walk_at "w"
  refine w_callM1 ⟨p, h1, l1, r1, rfl, u1, fun v1 H1 e1 d1 => ?_⟩
  walk_at "w"
  obtain ⟨dx2, th2, tl2, i2, _⟩ := id (ex_tab e1 u2)
  refine r_meth i2 (tFlds_no (by decide) (by decide) (by decide)) ?_
  walk_at "w"
  refine w_callM1 ⟨q, h2, l2, r2, rfl, ex_tab e1 u2, fun v2 H2 e2 d2 => ?_⟩
  walk_at "w"
  refine ⟨PP, N, h1, l1, h2, l2, r1, r2, false, hP, zP, dp_ex e2 d1, d2, rfl, zN, C1, C2, s12, s21, fun v H3 h l r e3 d3 C P => ?_⟩
  walk_at "w"
  refine ⟨h, l, r, d3, C.val, fun x H4 e4 t4 => ?_⟩
  rw [P.pf] at t4
  exact k x H4 (((e1.trans e2).trans e3).trans e4) ⟨h, l, r, t4, C, P⟩
theorem ok_Table_or {P : Program} {w : World} {K : PySem.W.Frag} {mg : Str → Option Value} {base : Heap} (E : Env P K mg) : BinOf P w K mg base 13 (He.ga K "Table") "__or__" (spTB false K) := by
  obtain ⟨fd, F, k⟩ := fx_Table_or (P := P) (w := w) (base := base) E
  exact ⟨⟨_, fd, _, E.m_Table_or.at_, E.m_Table_or.fn, k, F.bindsN (fun _ _ _ _ _ _ us hl => match us, hl with | [_, _], _ => rfl)⟩, E.sf_Table⟩
abbrev spMul (K : PySem.W.Frag) : Sp := sp2 fun x y H Q _ => ∃ (p q : Addr) (h1 l1 h2 l2 : List Int) (r1 r2 : Int), x = .ref p ∧ y = .ref q ∧ TabAt K H p h1 l1 r1 ∧ TabAt K H q h2 l2 r2 ∧ Val h1 l1 r1 ∧ Val h2 l2 r2 ∧ h2.length + l2.length * (h1.length + l1.length + 1) ≤ 40000 ∧ r1 ≤ 1000000 ∧ r2 ≤ 1000000 ∧
  ∀ z H' h l r, Ex H H' → TabAt K H' z h l r → Cmp h1 l1 r1 h2 l2 r2 h l r → Q (.ref z) H'
abbrev N_Table_mul : List Str := ["self", "other"]
theorem sc_Table_mul : FnScope N_Table_mul ["self", "other"] (defScope s_Table_mul) := ⟨rfl, rfl, rfl, by decide +kernel, rfl, by decide +kernel, by decide +kernel⟩
theorem fx_Table_mul {P : Program} {w : World} {K : PySem.W.Frag} {mg : Str → Option Value} {base : Heap} (E : Env P K mg) : ∃ fd, FunD K "__mul__" "Table.__mul__" (defArgs s_Table_mul) (defBody s_Table_mul) (defScope s_Table_mul) (d_Table_mul.dvs K) [] (d_Table_mul.adr K) fd ∧ FnOk P w K mg base CX0 13 (d_Table_mul.adr K) fd ["self", "other"] (spMul K) := by
  obtain ⟨fd, F⟩ := E.dd_Table_mul
  refine ⟨fd, F, fnok0 F sc_Table_mul sp2_len (fun cdv A outer s H vs Q X hr h => ?_)⟩
  have nd := sc_Table_mul.nd
  obtain ⟨v0, v1, rfl, h⟩ := h
  refine ⟨_, (pss_one (ps_ret (pc (ok_table_from E) hr (by decide) pass0 rfl (pa_cons (pc (ok_behind_raw E) hr (by decide) pass0 rfl (pa_cons (pmt0 (ok_Table_raw E) hr (by decide) pass0 (pv 0)) (pa_cons (pmt0 (ok_Table_raw E) hr (by decide) pass0 (pv 1)) pa_nil))) pa_nil)))), ?_⟩
  change (_ : TS) _ [some v0, some v1] H
  try dsimp only [cxOf, Cx.nox, Cx.blk]
  obtain ⟨p, q, h1, l1, h2, l2, r1, r2, rfl, rfl, u1, u2, V1, V2, zz, z1, z2, k⟩ := h
  walk_at "w"
  obtain ⟨dx1, th1, tl1, i1, _⟩ := id u1
  refine r_meth i1 (tFlds_no (by decide) (by decide) (by decide)) ?_
  walk_at "w"
  refine w_callM1 ⟨p, h1, l1, r1, rfl, u1, fun v1 H1 e1 d1 => ?_⟩
  walk_at "w"
  obtain ⟨dx2, th2, tl2, i2, _⟩ := id (ex_tab e1 u2)
  refine r_meth i2 (tFlds_no (by decide) (by decide) (by decide)) ?_
  walk_at "w"
  refine w_callM1 ⟨q, h2, l2, r2, rfl, ex_tab e1 u2, fun v2 H2 e2 d2 => ?_⟩
  walk_at "w"
  refine ⟨h1, l1, h2, l2, r1, r2, dp_ex e2 d1, d2, V1, V2, zz, z1, z2, fun v H3 h l r e3 d3 C => ?_⟩
  walk_at "w"
  refine ⟨h, l, r, d3, C.pl.val, fun x H4 e4 t4 => ?_⟩
  rw [C.pl.pf] at t4
  exact k x H4 h l r (((e1.trans e2).trans e3).trans e4) t4 C
theorem ok_Table_mul {P : Program} {w : World} {K : PySem.W.Frag} {mg : Str → Option Value} {base : Heap} (E : Env P K mg) : BinOf P w K mg base 13 (He.ga K "Table") "__mul__" (spMul K) := by
  obtain ⟨fd, F, k⟩ := fx_Table_mul (P := P) (w := w) (base := base) E
  exact ⟨⟨_, fd, _, E.m_Table_mul.at_, E.m_Table_mul.fn, k, F.bindsN (fun _ _ _ _ _ _ us hl => match us, hl with | [_, _], _ => rfl)⟩, E.sf_Table⟩

/-- numbers near a line -/
def Ln (A B Kl Ku : Int) (f : Nat → Option Int) : Prop := ∀ (j : Nat) v, f j = some v → A * ((j : Int) + 1) - Kl ≤ B * v ∧ B * v ≤ A * ((j : Int) + 1) + Ku
theorem mul_in {a b x y : Int} (a0 : 0 ≤ a) (ax : a ≤ x) (b0 : 0 ≤ b) (by_ : b ≤ y) : 0 ≤ a * b ∧ a * b ≤ x * y := ⟨Int.mul_nonneg a0 b0, Int.mul_le_mul ax by_ b0 (by omega)⟩
theorem Ln.tab {h l : List Int} {r : Int} (V : Val h l r) (hl : l ≠ []) (zh : h.length ≤ 4) (zl : l.length ≤ 4) (bh : ∀ n ∈ h, n ≤ 8) (bl : ∀ n ∈ l, n ≤ 16) (br : r ≤ 12) : Ln r l.length 96 64 (TV h l r) := by
  intro j v e
  have l0 : 0 < l.length := List.length_pos_iff.mpr hl
  by_cases c : j < h.length
  · rw [tv_head c] at e
    cases e
    have v0 := gI_nn V.p1 (j : Int)
    have v1 := bh _ (gI_mem (ns := h) (r := (j : Int)) (by omega) (by omega))
    generalize gI h j = v at *
    have a := mul_in V.r0 br (show (0 : Int) ≤ (j : Int) + 1 by omega) (show (j : Int) + 1 ≤ 4 by omega)
    have b := mul_in (show (0 : Int) ≤ (l.length : Int) by omega) (show (l.length : Int) ≤ 4 by omega) v0 v1
    omega
  · rw [tv_some hl, fV_loop (by omega)] at e
    cases e
    unfold extL
    obtain ⟨d, rfl⟩ : ∃ d : Nat, j = h.length + d := ⟨j - h.length, by omega⟩
    have e1 : ((h.length + d : Nat) : Int) - h.length = d := by omega
    rw [e1]
    have m0 := Int.emod_nonneg (d : Int) (show (l.length : Int) ≠ 0 by omega)
    have m1 := Int.emod_lt_of_pos (d : Int) (show (0 : Int) < l.length by omega)
    have ed := Int.emod_add_mul_ediv (d : Int) l.length
    have v0 := gI_nn V.p2 ((d : Int) % l.length)
    have v1 := bl _ (gI_mem (ns := l) m0 m1)
    generalize gI l ((d : Int) % l.length) = w at *
    generalize (d : Int) % l.length = t at *
    generalize (d : Int) / l.length = q at *
    have a := mul_in V.r0 br (show (0 : Int) ≤ t + h.length + 1 by omega) (show t + h.length + 1 ≤ 8 by omega)
    have b := mul_in (show (0 : Int) ≤ (l.length : Int) by omega) (show (l.length : Int) ≤ 4 by omega) v0 v1
    have k : (l.length : Int) * (w + r * q) - r * (((h.length + d : Nat) : Int) + 1) = (l.length : Int) * w - r * (t + h.length + 1) := by
      rw [Int.natCast_add, ← ed]
      generalize (l.length : Int) = L
      generalize (h.length : Int) = g
      grind
    omega
theorem Ln.div {A B q Kl Ku : Int} {f : Nat → Option Int} (h : Ln (A * q) (B * q) Kl Ku f) (hq : 1 ≤ q) (k0 : 0 ≤ Kl) (k1 : 0 ≤ Ku) : Ln A B Kl Ku f := by
  intro j v e
  obtain ⟨a, b⟩ := h j v e
  generalize (j : Int) + 1 = n at *
  have e1 : A * q * n = q * (A * n) := by grind
  have e2 : B * q * v = q * (B * v) := by grind
  rw [e1, e2] at a b
  generalize A * n = x at *
  generalize B * v = y at *
  constructor
  · refine Int.not_lt.mp fun c => ?_
    have := Int.mul_le_mul_of_nonneg_left (show y ≤ x - Kl - 1 by omega) (show 0 ≤ q by omega)
    have e3 : q * (x - Kl - 1) = q * x - q * (Kl + 1) := by grind
    have := Int.mul_le_mul_of_nonneg_right hq (show 0 ≤ Kl + 1 by omega)
    omega
  · refine Int.not_lt.mp fun c => ?_
    have := Int.mul_le_mul_of_nonneg_left (show x + Ku + 1 ≤ y by omega) (show 0 ≤ q by omega)
    have e3 : q * (x + Ku + 1) = q * x + q * (Ku + 1) := by grind
    have := Int.mul_le_mul_of_nonneg_right hq (show 0 ≤ Ku + 1 by omega)
    omega
theorem Ln.comp {h l : List Int} {r A B A' B' Kl Ku Kl' Ku' : Int} {g : Nat → Option Int} (X : Ln A B Kl Ku (TV h l r)) (Y : Ln A' B' Kl' Ku' g) (G : Gd g) (A0 : 0 ≤ A) (B0 : 0 ≤ B') (k0 : 0 ≤ Kl) (k1 : 0 ≤ Ku) (hn : ∀ j, g j ≠ none) :
    Ln (A * A') (B * B') (A * Kl' + B' * Kl) (A * Ku' + B' * Ku) (CV h l r g) := by
  intro j v e
  cases hm : g j with
  | none => exact absurd hm (hn j)
  | some m =>
    unfold CV at e
    rw [hm] at e
    have m0 := G.nn j m hm
    obtain ⟨y1, y2⟩ := Y j m hm
    have x : A * m - Kl ≤ B * v ∧ B * v ≤ A * m + Ku := by
      rcases at_cases (p := some m) (fun i hi => by cases hi; exact m0) with q | q | ⟨i, q⟩
      · cases q
      · cases q
        rw [vat_zero] at e
        cases e
        omega
      · cases q
        change vat _ _ _ _ = some v at e
        rw [vat_TV] at e
        exact X i v e
    generalize (j : Int) + 1 = n at *
    have a := Int.mul_le_mul_of_nonneg_left x.1 B0
    have b := Int.mul_le_mul_of_nonneg_left x.2 B0
    have c := Int.mul_le_mul_of_nonneg_left y1 A0
    have d := Int.mul_le_mul_of_nonneg_left y2 A0
    constructor
    · have e1 : B' * (A * m - Kl) = A * (B' * m) - B' * Kl := by grind
      have e2 : A * (A' * n - Kl') = A * A' * n - A * Kl' := by grind
      have e3 : B' * (B * v) = B * B' * v := by grind
      omega
    · have e1 : B' * (A * m + Ku) = A * (B' * m) + B' * Ku := by grind
      have e2 : A * (A' * n + Ku') = A * A' * n + A * Ku' := by grind
      have e3 : B' * (B * v) = B * B' * v := by grind
      omega
theorem Slo.mul {P : Nat} {f : Nat → Option Int} {x : Int} (S : Slo P f x) : ∃ (c : Nat) (v : Int), ∀ t : Nat, f (c + P * t) = some (v + x * t) := by
  obtain ⟨c, hc⟩ := S
  obtain ⟨v, hv, _⟩ := hc c (Nat.le_refl _)
  refine ⟨c, v, fun t => ?_⟩
  induction t with
  | zero => rw [Nat.mul_zero]; simpa using hv
  | succ t ih =>
    obtain ⟨w, h1, h2⟩ := hc (c + P * t) (Nat.le_add_right ..)
    rw [ih] at h1
    rw [show c + P * (t + 1) = c + P * t + P by rw [Nat.mul_succ]; omega, h2, ← Option.some.inj h1, Int.natCast_add]
    congr 1
    show v + x * t + x = v + x * ((t : Int) + 1)
    rw [Int.mul_add]
    omega
theorem Ln.slope {P : Nat} {A B Kl Ku x : Int} {f : Nat → Option Int} (L : Ln A B Kl Ku f) (S : Slo P f x) : B * x = A * P := by
  obtain ⟨c, v, hv⟩ := S.mul
  have key : ∀ t : Nat, A * ((c : Int) + 1) - B * v - Kl ≤ (B * x - A * P) * t ∧ (B * x - A * P) * t ≤ A * ((c : Int) + 1) - B * v + Ku := fun t => by
    obtain ⟨a, b⟩ := L _ _ (hv t)
    rw [Int.natCast_add, Int.natCast_mul] at a b
    generalize (t : Int) = t at *
    generalize (c : Int) = c at *
    generalize (P : Int) = P at *
    have e1 : A * (c + P * t + 1) = A * (c + 1) + A * P * t := by grind
    have e2 : B * (v + x * t) = B * v + B * x * t := by grind
    have e3 : (B * x - A * P) * t = B * x * t - A * P * t := by grind
    omega
  generalize A * ((c : Int) + 1) - B * v = E at *
  refine Int.le_antisymm (Int.not_lt.mp fun h => ?_) (Int.not_lt.mp fun h => ?_)
  · have := (key ((E + Ku).toNat + 1)).2
    have q := Int.mul_le_mul_of_nonneg_right (show 1 ≤ B * x - A * P by omega) (show (0 : Int) ≤ (((E + Ku).toNat + 1 : Nat) : Int) by omega)
    omega
  · have := (key ((Kl - E).toNat + 1)).1
    have q := Int.mul_le_mul_of_nonneg_right (show 1 ≤ -(B * x - A * P) by omega) (show (0 : Int) ≤ (((Kl - E).toNat + 1 : Nat) : Int) by omega)
    rw [Int.neg_mul] at q
    omega
theorem sr_line {P N : Nat} {f g : Nat → Option Int} {c d A B A' B' Kl Ku Kl' Ku' : Int} (X : Ln (A * c) (B * d) Kl Ku f) (Y : Ln (A' * c) (B' * d) Kl' Ku' g) (hc : 1 ≤ c) (hd : 1 ≤ d) (hB : 1 ≤ B) (hB' : 1 ≤ B') (hP : 0 < P) (hN : B' * Kl + B * Ku' ≤ N) :
    ∀ a b, Slo P f a → Slo P g b → b < a → ∀ j, N ≤ j → ∀ u v, f j = some u → g j = some v → v ≤ u := by
  intro a b sa sb hab j hj u v hu hv
  have ea := X.slope sa
  have eb := Y.slope sb
  obtain ⟨x1, _⟩ := X j u hu
  obtain ⟨_, y2⟩ := Y j v hv
  have hP' : (1 : Int) ≤ P := by omega
  generalize (P : Int) = p at *
  have hn : (N : Int) < (j : Int) + 1 := by omega
  generalize (j : Int) + 1 = n at *
  have n0 : 0 ≤ n := by omega
  have hBB : 1 ≤ B * B' := by
    have := Int.mul_le_mul hB hB' (by decide) (by omega)
    omega
  have hD : 1 ≤ A * B' - A' * B := by
    refine Int.not_lt.mp fun h => ?_
    have h1 : c * p * (A * B' - A' * B) = d * (B * B') * (a - b) := by
      have e1 : B' * (B * d * a) = B' * (A * c * p) := by rw [ea]
      have e2 : B * (B' * d * b) = B * (A' * c * p) := by rw [eb]
      grind
    have h2 : 0 < d * (B * B') * (a - b) := Int.mul_pos (Int.mul_pos (by omega) (by omega)) (by omega)
    have h3 : c * p * (A * B' - A' * B) ≤ 0 := Int.mul_nonpos_of_nonneg_of_nonpos (Int.mul_nonneg (by omega) (by omega)) (by omega)
    omega
  refine Int.not_lt.mp fun h => ?_
  have z1 := Int.mul_le_mul_of_nonneg_left x1 (show 0 ≤ B' by omega)
  have z2 := Int.mul_le_mul_of_nonneg_left y2 (show 0 ≤ B by omega)
  have z3 : 0 ≤ d * (B * B') * (v - u - 1) := Int.mul_nonneg (Int.mul_nonneg (by omega) (by omega)) (by omega)
  have z4 : 0 < d * (B * B') := Int.mul_pos (by omega) (by omega)
  have z5 : n ≤ c * (A * B' - A' * B) * n := by
    have : 1 ≤ c * (A * B' - A' * B) := by
      have := Int.mul_le_mul hc hD (by decide) (by omega)
      omega
    have := Int.mul_le_mul_of_nonneg_right this n0
    omega
  have e1 : B' * (A * c * n - Kl) = A * B' * c * n - B' * Kl := by grind
  have e2 : B' * (B * d * u) = d * (B * B') * u := by grind
  have e3 : B * (B' * d * v) = d * (B * B') * v := by grind
  have e4 : B * (A' * c * n + Ku') = A' * B * c * n + B * Ku' := by grind
  have e5 : c * (A * B' - A' * B) * n = A * B' * c * n - A' * B * c * n := by grind
  have e6 : d * (B * B') * (v - u - 1) = d * (B * B') * v - d * (B * B') * u - d * (B * B') := by grind
  omega

/-- the law's tables, in plain form -/
structure Bs (h l : List Int) (r : Int) : Prop where
  val : Val h l r
  pf : plainF h l r = (h, l, r)
  zh : h.length ≤ 4
  zl : l.length ≤ 4
  br : r ≤ 12
  ln : l ≠ [] → Ln r l.length 96 64 (TV h l r)
theorem RawOk.bs {h l : List Int} {r : Int} (R : RawOk h l r) : Bs (plainF h l r).1 (plainF h l r).2.1 (plainF h l r).2.2 := by
  obtain ⟨a, b, c, z, q⟩ := plainF_val R.val
  have zh := R.zh
  have zl := R.zl
  have br := R.br
  by_cases hl : l = []
  · subst hl
    have r0 := R.val.e0 rfl
    subst r0
    rw [plainF_nil]
    exact ⟨R.val, plainF_nil, zh, zl, br, fun e => absurd rfl e⟩
  · obtain ⟨n1, q, q1, q2⟩ := q hl
    have l1 : 0 < (plainF h l r).2.1.length := List.length_pos_iff.mpr n1
    have l0 : 0 < l.length := List.length_pos_iff.mpr hl
    have q0 : 0 < q := Nat.pos_of_ne_zero fun e => by rw [e, Nat.mul_zero] at q1; omega
    have L := Ln.tab R.val hl zh zl R.bh R.bl br
    have k1 : (plainF h l r).2.1.length ≤ (plainF h l r).2.1.length * q := Nat.le_mul_of_pos_right _ q0
    have k2 := Int.mul_le_mul_of_nonneg_left (show (1 : Int) ≤ (q : Int) by omega) a.r0
    rw [Int.mul_one] at k2
    refine ⟨a, c, by omega, by omega, by omega, fun _ => ?_⟩
    rw [show TV (plainF h l r).1 (plainF h l r).2.1 (plainF h l r).2.2 = TV h l r from funext b]
    refine Ln.div (q := q) ?_ (by omega) (by decide) (by decide)
    rw [← q2, show ((plainF h l r).2.1.length : Int) * q = (l.length : Int) by rw [q1, Int.natCast_mul]]
    exact L
theorem dvd12 {l : List Int} (z : l.length ≤ 4) (hl : l ≠ []) : l.length ∣ 12 := by
  have l0 : 0 < l.length := List.length_pos_iff.mpr hl
  have : l.length = 1 ∨ l.length = 2 ∨ l.length = 3 ∨ l.length = 4 := by omega
  rcases this with e | e | e | e <;> rw [e] <;> decide
theorem slp_sm {l : List Int} {r b : Int} (h0 : 0 ≤ r) (h1 : r ≤ b) : slp l r 144 ≤ b * 144 := by
  have a : 0 ≤ ((144 : Nat) : Int) / l.length := Int.ediv_nonneg (by omega) (by omega)
  have c : ((144 : Nat) : Int) / l.length ≤ 144 := Int.ediv_le_self _ (by omega)
  exact Int.mul_le_mul h1 c a (by omega)
theorem Bs.cl {h l : List Int} {r : Int} {N : Nat} (R : Bs h l r) (hN : 4 ≤ N) : Cl 144 N h l r :=
  cl_self R.val (by have := R.zh; omega) (fun c => Nat.dvd_trans (dvd12 R.zl c) (by decide)) (Int.le_trans (slp_sm R.val.r0 R.br) (by decide))
theorem slo_tabp {P : Nat} {h l : List Int} {r a : Int} (S : Slo P (TV h l r) a) : l ≠ [] := fun e => by
  obtain ⟨c, hc⟩ := S
  obtain ⟨v, h1, _⟩ := hc (c + h.length) (by omega)
  rw [tv_nil e (by omega)] at h1
  cases h1
theorem len_le {l : List Int} (z : l.length ≤ 4) (hl : l ≠ []) : (1 : Int) ≤ l.length ∧ (l.length : Int) ≤ 4 := by
  have l0 : 0 < l.length := List.length_pos_iff.mpr hl
  omega
theorem Bs.sr {h l h' l' : List Int} {r r' : Int} (X : Bs h l r) (Y : Bs h' l' r') : Sr 144 640 (TV h l r) (TV h' l' r') := by
  intro a b sa sb hab
  have c := slo_tabp sa
  have c' := slo_tabp sb
  have z := len_le X.zl c
  have z' := len_le Y.zl c'
  exact sr_line (c := 1) (d := 1) (A := r) (B := l.length) (A' := r') (B' := l'.length) (by rw [Int.mul_one, Int.mul_one]; exact X.ln c) (by rw [Int.mul_one, Int.mul_one]; exact Y.ln c') (by decide) (by decide) z.1 z'.1 (by decide) (by omega) a b sa sb hab
theorem Slo.nn {P : Nat} {f : Nat → Option Int} {x : Int} (G : Gd f) (S : Slo P f x) : 0 ≤ x := by
  obtain ⟨c, hc⟩ := S
  obtain ⟨v, h1, h2⟩ := hc c (Nat.le_refl _)
  have := gd_mono G (show c ≤ c + P by omega)
  rw [h1, h2, leO_some] at this
  omega
theorem comp_on {P : Nat} {h1 l1 h2 l2 : List Int} {r1 r2 x : Int} (V2 : Val h2 l2 r2) (hP : 0 < P) (S : Slo P (CV h1 l1 r1 (TV h2 l2 r2)) x) (c2 : l2 ≠ []) (hr : 0 < r2) : l1 ≠ [] := fun e => by
  obtain ⟨c, v, hv⟩ := S.mul
  have g := grows V2 c2 hr h1.length
  generalize h2.length + l2.length * (h1.length + 1) = M at *
  have w := hv M
  have := fV_mono V2 c2 (show M ≤ c + P * M by have := Nat.le_mul_of_pos_left M hP; omega)
  unfold CV at w
  rw [tv_some c2] at w
  subst e
  change vat h1 [] r1 _ = some _ at w
  rw [vat_over (by omega)] at w
  cases w
theorem comp_pos {P : Nat} {h1 l1 h2 l2 : List Int} {r1 r2 x : Int} (V2 : Val h2 l2 r2) (hP : 0 < P) (S : Slo P (CV h1 l1 r1 (TV h2 l2 r2)) x) (hx : 0 < x) : l1 ≠ [] ∧ l2 ≠ [] ∧ 0 < r2 := by
  have n : ¬ (l2 = [] ∨ r2 = 0) := fun q => by
    obtain ⟨c, v, hv⟩ := S.mul
    have e : ∀ t, h2.length ≤ t → CV h1 l1 r1 (TV h2 l2 r2) (c + P * t) = valueAt h1 l1 r1 (endOf l2 r2) := fun t ht => by
      unfold CV
      rw [tv_end V2 q (by have := Nat.le_mul_of_pos_left t hP; omega)]
    have a := hv h2.length
    have b := hv (h2.length + 1)
    rw [e _ (by omega)] at a b
    rw [a] at b
    have b := Option.some.inj b
    rw [show ((h2.length + 1 : Nat) : Int) = (h2.length : Int) + 1 from rfl, Int.mul_add] at b
    omega
  have c2 : l2 ≠ [] := fun e => n (.inl e)
  have hr : 0 < r2 := by
    have := V2.r0
    have : ¬ r2 = 0 := fun e => n (.inr e)
    omega
  exact ⟨comp_on V2 hP S c2 hr, c2, hr⟩
theorem bnd {x y u v w z : Int} (hx : 0 ≤ x) (hx1 : x ≤ 4) (hu : 0 ≤ u) (hu1 : u ≤ 4) (hy : 0 ≤ y) (hy1 : y ≤ 12) (hw : 0 ≤ w) (hw1 : w ≤ 12) (hv : 0 ≤ v) (hv1 : v ≤ 4) (hz : 0 ≤ z) (hz1 : z ≤ 4) : x * (y * 96 + v * 96) + u * (w * 64 + z * 64) ≤ 10240 := by
  have a := mul_in hx hx1 (show 0 ≤ y * 96 + v * 96 by omega) (show y * 96 + v * 96 ≤ 1536 by omega)
  have b := mul_in hu hu1 (show 0 ≤ w * 64 + z * 64 by omega) (show w * 64 + z * 64 ≤ 1024 by omega)
  omega
theorem sr_left {ha la hb lb hc lc : List Int} {ra rb rc : Int} (A : Bs ha la ra) (B : Bs hb lb rb) (C : Bs hc lc rc) : Sr 144 10240 (CV ha la ra (TV hc lc rc)) (CV hb lb rb (TV hc lc rc)) := by
  intro x y sx sy hxy
  have y0 := sy.nn (Gd.comp B.val (Gd.of C.val))
  obtain ⟨na, nc, c0⟩ := comp_pos C.val (by decide) sx (by omega)
  have nb := comp_on C.val (by decide) sy nc c0
  have za := len_le A.zl na
  have zb := len_le B.zl nb
  have zc := len_le C.zl nc
  have hn : ∀ j, TV hc lc rc j ≠ none := fun j e => by rw [tv_some nc] at e; cases e
  have a0 := A.val.r0
  have b0 := B.val.r0
  have a1 := A.br
  have b1 := B.br
  exact sr_line (Ln.comp (A.ln na) (C.ln nc) (Gd.of C.val) a0 (by omega) (by decide) (by decide) hn) (Ln.comp (B.ln nb) (C.ln nc) (Gd.of C.val) b0 (by omega) (by decide) (by decide) hn) c0 zc.1 za.1 zb.1 (by decide)
    (bnd (by omega) zb.2 (by omega) za.2 a0 a1 b0 b1 (by omega) zc.2 (by omega) zc.2) x y sx sy hxy
theorem sr_right {ha la hb lb hc lc : List Int} {ra rb rc : Int} (A : Bs ha la ra) (B : Bs hb lb rb) (C : Bs hc lc rc) : Sr 144 10240 (CV hc lc rc (TV ha la ra)) (CV hc lc rc (TV hb lb rb)) := by
  intro x y sx sy hxy
  have y0 := sy.nn (Gd.comp C.val (Gd.of B.val))
  obtain ⟨nc, na, a0⟩ := comp_pos A.val (by decide) sx (by omega)
  have za := len_le A.zl na
  have zc := len_le C.zl nc
  have c0 := C.val.r0
  have a1 := A.br
  have c1 := C.br
  have b0 := B.val.r0
  have hn : ∀ j, TV ha la ra j ≠ none := fun j e => by rw [tv_some na] at e; cases e
  have La := Ln.comp (C.ln nc) (A.ln na) (Gd.of A.val) c0 (by omega) (by decide) (by decide) hn
  have c2 : 0 < rc := by
    refine Int.not_le.mp fun h => ?_
    have e : rc = 0 := by omega
    have s := La.slope sx
    rw [e, Int.zero_mul, Int.zero_mul] at s
    have : 0 < (lc.length : Int) * la.length * x := Int.mul_pos (Int.mul_pos (by omega) (by omega)) (by omega)
    omega
  have nb : lb ≠ [] := fun e => by
    obtain ⟨c, v, hv⟩ := sy.mul
    have w := hv hb.length
    unfold CV at w
    rw [tv_nil e (by omega)] at w
    change endOf lc rc = _ at w
    unfold endOf at w
    rw [if_pos (.inr c2)] at w
    cases w
  have zb := len_le B.zl nb
  have hn' : ∀ j, TV hb lb rb j ≠ none := fun j e => by rw [tv_some nb] at e; cases e
  have Lb := Ln.comp (C.ln nc) (B.ln nb) (Gd.of B.val) c0 (by omega) (by decide) (by decide) hn'
  rw [Int.mul_comm rc ra, Int.mul_comm (lc.length : Int) la.length] at La
  rw [Int.mul_comm rc rb, Int.mul_comm (lc.length : Int) lb.length] at Lb
  exact sr_line La Lb c2 zc.1 za.1 zb.1 (by decide) (bnd (by omega) zb.2 (by omega) za.2 c0 c1 c0 c1 (by omega) za.2 (by omega) zb.2) x y sx sy hxy
theorem Cmp.cl {h1 l1 h2 l2 h l : List Int} {r1 r2 r : Int} (X : Bs h1 l1 r1) (Y : Bs h2 l2 r2) (C : Cmp h1 l1 r1 h2 l2 r2 h l r) : Cl 144 10240 h l r ∧ h.length ≤ 24 ∧ l.length ≤ 144 ∧ r ≤ 144 := by
  have z := C.zh
  have z1 := X.zh
  have z2 := Y.zh
  have m := Nat.mul_le_mul Y.zl (show h1.length + 1 ≤ 5 by omega)
  have d : l ≠ [] → l.length ∣ 144 := fun hl => by
    rcases C.dv hl with e | ⟨c1, c2, e⟩
    · rw [e]; decide
    · exact Nat.dvd_trans e (Nat.mul_dvd_mul (dvd12 Y.zl c2) (dvd12 X.zl c1))
  have br : r ≤ 144 := Int.le_trans C.br (Int.mul_le_mul X.br Y.br Y.val.r0 (by decide))
  have cl := cl_self (N := 10240) C.pl.val (by omega) d (Int.le_trans (slp_sm C.pl.val.r0 br) (by decide))
  exact ⟨cl, by omega, cl.zl (by decide), br⟩
/-- the rise of what is put together -/
theorem join_br {N : Nat} {g : Bool} {h1 l1 h2 l2 h l : List Int} {r1 r2 r : Int} (X : Bs h1 l1 r1) (Y : Bs h2 l2 r2) (hN : 640 ≤ N) (C : Cl 144 N h l r) (P : Pl (JV g (TV h1 l1 r1) (TV h2 l2 r2)) h l r) : r ≤ 1728 := by
  by_cases hl : l = []
  · rw [P.val.e0 hl]; decide
  · have S : Slo 144 (JV g (TV h1 l1 r1) (TV h2 l2 r2)) (slp l r 144) := by
      rw [← funext P.tv]
      exact Slo.tab hl (C.dv hl)
    have sr1 : Sr 144 N (TV h1 l1 r1) (TV h2 l2 r2) := fun a b sa sb h j hj => X.sr Y a b sa sb h j (by omega)
    have sr2 : Sr 144 N (TV h2 l2 r2) (TV h1 l1 r1) := fun a b sa sb h j hj => Y.sr X a b sa sb h j (by omega)
    have J := (jn_ex (g := g) (Gd.of X.val) (Gd.of Y.val) (X.cl (show 4 ≤ N by omega)).knd (Y.cl (show 4 ≤ N by omega)).knd sr1 sr2).2 _ S N (Nat.le_refl _) (fV h l r N) (by rw [← P.tv, tv_some hl])
    have k := slp_ge (P := 144) (by decide) hl (C.dv hl) P.val.r0
    rcases J with ⟨_, s⟩ | ⟨_, s⟩
    · have c := slo_tabp s
      have := s.uniq (Slo.tab c ((X.cl (show 4 ≤ N by omega)).dv c))
      have := slp_sm (l := l1) X.val.r0 X.br
      omega
    · have c := slo_tabp s
      have := s.uniq (Slo.tab c ((Y.cl (show 4 ≤ N by omega)).dv c))
      have := slp_sm (l := l2) Y.val.r0 Y.br
      omega

theorem tmul_none (l : Addr) (items : Array Value) (n : Nat) (dd : Option Addr) (sl : Array (Option Value)) (x : Int) (u : Tok) (c0 : (decide (x < -(2 ^ 63)) || decide (x ≥ 2 ^ 63)) = false) (c1 : (items.isEmpty || x == 1) = false) (c2 : (decide (x ≤ 0) || items.isEmpty) = true) :
    Meets (Builtin.«tuple.__mul__» ⟨[.ref l, .int x u], []⟩) (fun _ R s => s.heap.get? l = some { cls := .type "tuple", dict := dd, data := .seq items n, slots := sl } ∧
      R (.ok (.ret (Value.ref s.heap.objs.size))) { s with heap := s.heap.push { cls := Value.type "tuple", data := Data.seq #[] }, toks := s.toks }) :=
  .of_wp fun prog w A R s h => by
    obtain ⟨hp, g, d, tk, os⟩ := s
    obtain ⟨hl, h⟩ := h
    have f1 := AutoSeq1.idx_int
    wp_walk using wpAny_loadPart' hl
    refine wpAny_ite_false (decide_eq_false (by rw [c0]; exact Bool.false_ne_true)) ?_
    wp_walk using wpAny_loadPart' hl
    repeat (first
      | (refine wpAny_ite_false (decide_eq_false (by rw [c1]; exact Bool.false_ne_true)) ?_; wp_walk using wpAny_loadPart' hl)
      | (refine wpAny_ite_true (decide_eq_true c2) ?_; wp_walk using wpAny_loadPart' hl))
    exact ⟨_, rfl, h⟩
theorem tmul_one (l : Addr) (items : Array Value) (n : Nat) (dd : Option Addr) (sl : Array (Option Value)) (x : Int) (u : Tok) (c0 : (decide (x < -(2 ^ 63)) || decide (x ≥ 2 ^ 63)) = false) (c1 : (items.isEmpty || x == 1) = true) :
    Meets (Builtin.«tuple.__mul__» ⟨[.ref l, .int x u], []⟩) (fun _ R s => s.heap.get? l = some { cls := .type "tuple", dict := dd, data := .seq items n, slots := sl } ∧ R (.ok (.ret (Value.ref l))) s) :=
  .of_wp fun prog w A R s h => by
    obtain ⟨hp, g, d, tk, os⟩ := s
    obtain ⟨hl, h⟩ := h
    have f1 := AutoSeq1.idx_int
    wp_walk using wpAny_loadPart' hl
    refine wpAny_ite_false (decide_eq_false (by rw [c0]; exact Bool.false_ne_true)) ?_
    wp_walk using wpAny_loadPart' hl
    exact ⟨_, rfl, h⟩
/-- a tuple none or one time -/
def rRepS (K : PySem.W.Frag) : R2 := fun x y H Q => ∃ l k xs, x = .ref l ∧ y = .int k ∧ SqT K H l xs ∧ xs ≠ [] ∧ -1000 ≤ k ∧ ((k = 1 ∧ Q (.ref l) H) ∨ (k ≤ 0 ∧ ∀ p, H p = none → Q (.ref p) (upd H p (.tup []))))
section
variable {X : Cx}
theorem op_repS : OpR X (binaryOp .Mult) (rRepS X.K) := by
  intro pins s σ H x y v u Q I rx ry h
  obtain ⟨l, k, xs, rfl, rfl, hT, hne, h0, q⟩ := h
  cases rx
  obtain ⟨t, rfl⟩ := ry
  obtain ⟨its, r, ⟨⟨cls, dd, data, sl⟩, ho, hc, n, hd⟩, hs⟩ := I.tuple hT
  simp only at hc hd
  subst hc hd
  have hle : its.length = xs.length := r.length.symm
  have hn : its ≠ [] := fun e => hne (by
    rw [e] at hle
    exact List.eq_nil_of_length_eq_zero hle.symm)
  have hi : its.toArray.isEmpty = false := by
    cases its with
    | nil => exact absurd rfl hn
    | cons a b => rfl
  have c0 : (decide (k < -(2 ^ 63)) || decide (k ≥ 2 ^ 63)) = false := by
    rw [decide_eq_false (by omega), decide_eq_false (by rcases q with q | q <;> omega)] <;> rfl
  rcases q with ⟨k1, q⟩ | ⟨k0, q⟩
  · have c1 : (its.toArray.isEmpty || k == 1) = true := by
      rw [hi, Bool.false_or, k1]
      rfl
    refine wpAny_binaryOp_repeat_ref (T := "tuple") (U := "int") (by decide) ⟨_, ho, rfl⟩ (fun s' => typeIs_int s' k t) noFill_tuple_mul F.fills_int_mul F.slot_int_rmul repeat_tuple F.slot_int_index.lookup
      (call_meets F.slot_int_rmul (typeIs_int s k t) F.entry_int_rmul (F.args_int_rmul_2 _ _) (int_rmul_tuple k t l its.toArray n dd sl)
        ⟨ho, rfl, ⟨_, ho, rfl⟩, call_meets F.slot_tuple_mul ⟨_, ho, rfl⟩ F.entry_tuple_mul (F.args_tuple_mul_2 _ _) (tmul_one l its.toArray n dd sl k t c0 c1) ⟨ho, ?_⟩⟩)
    exact ⟨.ref l, H, I, rfl, q⟩
  · have c1 : (its.toArray.isEmpty || k == 1) = false := by
      rw [hi, Bool.false_or]
      exact beq_eq_false_iff_ne.mpr (by omega)
    have c2 : (decide (k ≤ 0) || its.toArray.isEmpty) = true := by
      rw [decide_eq_true k0]
      rfl
    refine wpAny_binaryOp_repeat_ref (T := "tuple") (U := "int") (by decide) ⟨_, ho, rfl⟩ (fun s' => typeIs_int s' k t) noFill_tuple_mul F.fills_int_mul F.slot_int_rmul repeat_tuple F.slot_int_index.lookup
      (call_meets F.slot_int_rmul (typeIs_int s k t) F.entry_int_rmul (F.args_int_rmul_2 _ _) (int_rmul_tuple k t l its.toArray n dd sl)
        ⟨ho, rfl, ⟨_, ho, rfl⟩, call_meets F.slot_tuple_mul ⟨_, ho, rfl⟩ F.entry_tuple_mul (F.args_tuple_mul_2 _ _) (tmul_none l its.toArray n dd sl k t c0 c1 c2) ⟨ho, ?_⟩⟩)
    refine ⟨.ref s.heap.objs.size, _, I.laid (t' := s.toks) (o := .tup []) (fun b ob q => Heap.get?_push_of_some _ q) (Nat.le_refl _) ?_, rfl, q _ (I.hok.fresh (Nat.le_refl _))⟩
    exact ⟨by decide, [], .nil, IsTup.new _ _⟩
end
def rMulS (K : PySem.W.Frag) : R2 := fun x y H Q => rMul K x y H Q ∨ rRepS K x y H Q
theorem kMulS {X : Cx} {K : PySem.W.Frag} (h : X.K = K := by rfl) : OpR X (binaryOp .Mult) (rMulS K) := by subst h; exact xMul.or op_repS
theorem rep_sing {α : Type} (a : α) : ∀ n : Nat, (List.replicate n [a]).flatten = List.replicate n a
  | 0 => rfl
  | n + 1 => by rw [List.replicate_succ, List.flatten_cons, rep_sing a n, List.replicate_succ]; rfl
theorem r_rep0 {K : PySem.W.Frag} {H : Hp} {Q : VK} {l : Addr} {k : Int} (s : SqT K H l [.int 0]) (h0 : 0 ≤ k) (h1 : k ≤ 1000) (q : ∀ p H', Ex H H' → SqT K H' p (vI (List.replicate k.toNat 0)) → Q (.ref p) H') : rMulS K (.ref l) (.int k) H Q := by
  by_cases c : k = 0
  · subst c
    exact .inr ⟨l, 0, _, rfl, rfl, s, by simp, by decide, .inr ⟨Int.le_refl _, fun p hp => q p _ (Ex.new hp) (st_of upd_same)⟩⟩
  · by_cases c1 : k = 1
    · subst c1
      exact .inr ⟨l, 1, _, rfl, rfl, s, by simp, by decide, .inl ⟨rfl, q l H (Ex.refl _) s⟩⟩
    · refine .inl (.inr (.inr ⟨l, k, _, rfl, rfl, s, by simp, by omega, h1, by decide, fun p hp => q p _ (Ex.new hp) ?_⟩))
      rw [rep_sing]
      have : vI (List.replicate k.toNat 0) = List.replicate k.toNat (V.int 0) := List.map_replicate ..
      rw [this]
      exact st_of upd_same

/-- the shift by k -/
def shH (k : Int) : List Int := if 0 ≤ k then [] else List.replicate (-k - 1).toNat 0
def shL (k : Int) : List Int := if 0 ≤ k then [1 + k] else [0]
theorem gI_rep (m : Nat) (i : Int) : gI (List.replicate m 0) i = 0 := by
  unfold gI
  rw [List.getD_eq_getElem?_getD, List.getElem?_replicate]
  split <;> rfl
theorem sh_raw {k : Int} (h0 : -5 ≤ k) (h1 : k ≤ 5) : RawOk (shH k) (shL k) 1 := by
  by_cases c : 0 ≤ k
  · have e1 : shH k = [] := if_pos c
    have e2 : shL k = [1 + k] := if_pos c
    rw [e1, e2]
    refine ⟨⟨fun n hn => (by simp at hn), fun n hn => ?_, fun i hi => (by simp at hi), fun i hi => (by simp at hi), by decide, fun e => (by simp at e), fun e => absurd rfl e, fun _ => ?_, ⟨by decide, by decide, by decide, show 1 ≤ 50000 by decide⟩⟩, by decide, show 1 ≤ 4 by decide, fun n hn => (by simp at hn), fun n hn => ?_, by decide⟩
    · have : n = 1 + k := by simpa using hn
      omega
    · show gI [1 + k] 0 ≤ gI [1 + k] 0 + 1
      omega
    · have : n = 1 + k := by simpa using hn
      omega
  · have e1 : shH k = List.replicate (-k - 1).toNat 0 := if_neg c
    have e2 : shL k = [0] := if_neg c
    rw [e1, e2]
    generalize hm : (-k - 1).toNat = m
    have zm : m ≤ 4 := by omega
    have zl : (List.replicate m (0 : Int)).length = m := List.length_replicate ..
    have z : ∀ n ∈ List.replicate m (0 : Int), n = 0 := fun n hn => List.eq_of_mem_replicate hn
    refine ⟨⟨fun n hn => by rw [z n hn]; decide, fun n hn => ?_, fun i hi => ?_, fun i hi => (by simp at hi), by decide, fun e => (by simp at e), fun _ _ => ?_, fun _ => (by decide), ⟨by decide, by decide, by omega, by decide⟩⟩, by omega, by decide, fun n hn => by rw [z n hn]; decide, fun n hn => ?_, by decide⟩
    · have : n = 0 := by simpa using hn
      omega
    · rw [gI_rep, gI_rep]
      exact Int.le_refl _
    · rw [gI_rep]
      decide
    · have : n = 0 := by simpa using hn
      omega

/-- the law's own table behind, of a second one that ends or settles -/
theorem beh_const {h1 l1 h2 l2 : List Int} {r1 r2 : Int} (V2 : Val h2 l2 r2) (c : l2 = [] ∨ r2 = 0) {j : Nat} (hj : h2.length ≤ j) : CV h1 l1 r1 (TV h2 l2 r2) j = valueAt h1 l1 r1 (endOf l2 r2) := by
  unfold CV
  rw [tv_end V2 c hj]
theorem beh_none {h1 l1 h2 l2 : List Int} {r1 r2 : Int} {n : Nat} (V1 : Val h1 l1 r1) (V2 : Val h2 l2 r2) (z : n ≤ 40000) (e : CV h1 l1 r1 (TV h2 l2 r2) n = none) :
    Pl (CV h1 l1 r1 (TV h2 l2 r2)) (cnts ((List.range (n + 1)).map (CV h1 l1 r1 (TV h2 l2 r2)))) [] 0 := by
  obtain ⟨V, T, zl⟩ := val_end (Gd.comp V1 (Gd.of V2)) e (by omega)
  exact ⟨V, plainF_nil, T⟩
theorem beh_set {h1 l1 h2 l2 : List Int} {r1 r2 : Int} {n : Nat} {xs : List Int} (V1 : Val h1 l1 r1) (V2 : Val h2 l2 r2) (c : l2 = [] ∨ r2 = 0) (hn : h2.length ≤ n) (z : n ≤ 40000) (e : CV h1 l1 r1 (TV h2 l2 r2) n ≠ none)
    (hx : xs = (List.range (n + 1)).map fun j => (CV h1 l1 r1 (TV h2 l2 r2) j).getD 0) :
    RSm (xs.take n) (xs.drop n) 0 ∧ xs.length = n + 1 ∧ vI xs = (List.range (n + 1)).map (fun j => optV (CV h1 l1 r1 (TV h2 l2 r2) j)) ∧
      Pl (CV h1 l1 r1 (TV h2 l2 r2)) (plainF (xs.take n) (xs.drop n) 0).1 (plainF (xs.take n) (xs.drop n) 0).2.1 (plainF (xs.take n) (xs.drop n) 0).2.2 := by
  have G := Gd.comp V1 (Gd.of V2)
  have he := fun j (hj : h2.length ≤ j) => beh_const (h1 := h1) (l1 := l1) (r1 := r1) V2 c hj
  have hc : ∀ j, CV h1 l1 r1 (TV h2 l2 r2) j ≠ none := fun j h => by
    have := gd_none G h (j + n) (by omega)
    rw [he _ (by omega), ← he n hn] at this
    exact e this
  obtain ⟨v1, v2⟩ := vals_some (n + 1) fun j _ => hc j
  rw [← hx] at v1 v2
  obtain ⟨a, b, p, _⟩ := go_on G (Nat.le_refl 1) hc (d := 0) (fun j hj => by
    rw [he _ (by omega), he _ (by omega)]
    cases valueAt h1 l1 r1 (endOf l2 r2) with
    | none => rfl
    | some v => exact congrArg some (Int.add_zero v).symm) v2 (by omega) (by decide) (by decide)
  exact ⟨a, b, v1.symm, p⟩
theorem range_last {α : Type} (f : Nat → α) (n : Nat) : atI ((List.range (n + 1)).map f) (-1) = some (f n) := by
  rw [List.range_succ, List.map_append]
  exact atI_last _ _
abbrev spLawBeh (K : PySem.W.Frag) : Sp := sp2 fun a b H Q _ => ∃ (h1 l1 h2 l2 : List Int) (r1 r2 : Int), Dp K H a (dRaw h1 l1 r1) ∧ Dp K H b (dRaw h2 l2 r2) ∧ Val h1 l1 r1 ∧ Val h2 l2 r2 ∧ h2.length + l2.length * (h1.length + l1.length + 1) ≤ 40000 ∧ r1 ≤ 1000000 ∧ r2 ≤ 1000000 ∧
  ∀ v H' h l r, Ex H H' → Dp K H' v (dRaw h l r) → Pl (CV h1 l1 r1 (TV h2 l2 r2)) h l r → Q v H'
abbrev N__law_behind : List Str := ["first", "second", "upto", "values", "start", "turns", "many", "n"]
theorem sc__law_behind : FnScope N__law_behind ["first", "second"] (defScope s__law_behind) := ⟨rfl, rfl, rfl, by decide +kernel, rfl, by decide +kernel, by decide +kernel⟩
theorem ok__law_behind {P : Program} {w : World} {K : PySem.W.Frag} {mg : Str → Option Value} {base : Heap} (E : Env P K mg) : Fn P w K mg base CX0 3 "_law_behind" (spLawBeh K) := by
  obtain ⟨fd, F⟩ := E.dd__law_behind
  refine Fn.mk0 F E.g__law_behind sc__law_behind sp2_len (fun _ _ _ _ _ _ us hl => match us, hl with | [_, _], _ => rfl) (fun cdv A outer s H vs Q X hr h => ?_)
  have nd := sc__law_behind.nd
  obtain ⟨v0, v1, rfl, h⟩ := h
  refine ⟨_, (pss_cons (ps_if (PW.pt (pw_or (pt_cmpR (kEq K hr) (pe_callB (kLen K) (by rfl) E.f_len (by decide +kernel) (pa_cons (pe_ix (kIx K) (pv 1) (pe_int) (fun _ _ => rfl)) pa_nil)) (pe_int) (nomark _)) (pw_or1 (pt_cmpR (kEq K hr) (pe_ix (kIx K) (pv 1) (pe_int) (fun _ _ => rfl)) (pe_int) (nomark _)))))
   (pss_cons (ps_set (i := 2) nd rfl (.inl rfl) (pe_op (kAdd K) (pe_op (kAdd K) (pe_callB (kLen K) (by rfl) E.f_len (by decide +kernel) (pa_cons (pe_ix (kIx K) (pv 1) (pe_int) (fun _ _ => rfl)) pa_nil)) (pe_callB (kLen K) (by rfl) E.f_len (by decide +kernel) (pa_cons (pe_ix (kIx K) (pv 1) (pe_int) (fun _ _ => rfl)) pa_nil))) (pe_int)))
  (pss_cons (ps_setLc (i := 3) (own := [("n", 7)]) (g := gName 7) (tt := tYes) rfl nd rfl rfl (sw_true rfl rfl rfl (by decide +kernel)) (pi_range1 (by rfl) E.f_range (pa_cons (pv 2) pa_nil)) (blkOk_by (N := N__law_behind) (sc := defScope s__law_behind) (by decide +kernel)) (fun _ _ _ _ _ => pg_name (i := 7) nd rfl (Or.inl rfl)) (fun _ _ _ _ _ => pts_nil) (fun _ _ _ _ _ => pc (ok__law_at E) hr (by decide) pass0 rfl (pa_cons (pv 0) (pa_cons (pc (ok__law_at E) hr (by decide) pass0 rfl (pa_cons (pv 1) (pa_cons (pe_op (kAdd K) (pv 7) (pe_int)) pa_nil))) pa_nil))))
  (pss_cons (ps_if (pt_cmpR xIs (pe_ix (kIx K) (pv 3) (pe_un un_neg (pe_int)) (fun _ _ => rfl)) (pe_non) (nomark _))
   (pss_one (ps_ret (pe_tup (pa_cons (pe_callTy (kTup K) (by rfl) E.f_tuple (by decide +kernel) (pa_cons (pc (ok__law_counts E) hr (by decide) pass0 rfl (pa_cons (pv 3) pa_nil)) pa_nil)) (pa_cons (pe_tup pa_nil) (pa_cons (pe_int) pa_nil))))))
   pss_nil)
  (pss_one (ps_ret (pc (ok__law_fit E) hr (by decide) pass0 rfl (pa_cons (pv 3) (pa_cons (pe_int) (pa_cons (pe_int) pa_nil)))))))))
   pss_nil)
  (pss_cons (ps_set (i := 4) nd rfl (.inl rfl) (pe_callB (kLen K) (by rfl) E.f_len (by decide +kernel) (pa_cons (pe_ix (kIx K) (pv 1) (pe_int) (fun _ _ => rfl)) pa_nil)))
  (pss_cons (ps_while PassesOwn.never (pt_cmpR op_le (pc (ok__law_at E) hr (by decide) pass0 rfl (pa_cons (pv 1) (pa_cons (pe_op (kAdd K) (pv 4) (pe_int)) pa_nil))) (pe_callB (kLen K) (by rfl) E.f_len (by decide +kernel) (pa_cons (pe_ix (kIx K) (pv 0) (pe_int) (fun _ _ => rfl)) pa_nil)) (nomark _))
   (pss_one (ps_set (i := 4) nd rfl (.inl rfl) (pe_op (kAdd K) (pv 4) (pe_int)))))
  (pss_cons (ps_if (pt_cmpR (kEq K hr) (pe_callB (kLen K) (by rfl) E.f_len (by decide +kernel) (pa_cons (pe_ix (kIx K) (pv 0) (pe_int) (fun _ _ => rfl)) pa_nil)) (pe_int) (nomark _))
   (pss_cons (ps_setLc (i := 3) (own := [("n", 7)]) (g := gName 7) (tt := tYes) rfl nd rfl rfl (sw_true rfl rfl rfl (by decide +kernel)) (pi_range1 (by rfl) E.f_range (pa_cons (pe_op (kAdd K) (pv 4) (pe_int)) pa_nil)) (blkOk_by (N := N__law_behind) (sc := defScope s__law_behind) (by decide +kernel)) (fun _ _ _ _ _ => pg_name (i := 7) nd rfl (Or.inl rfl)) (fun _ _ _ _ _ => pts_nil) (fun _ _ _ _ _ => pc (ok__law_at E) hr (by decide) pass0 rfl (pa_cons (pv 0) (pa_cons (pc (ok__law_at E) hr (by decide) pass0 rfl (pa_cons (pv 1) (pa_cons (pe_op (kAdd K) (pv 7) (pe_int)) pa_nil))) pa_nil))))
  (pss_one (ps_ret (pe_tup (pa_cons (pe_callTy (kTup K) (by rfl) E.f_tuple (by decide +kernel) (pa_cons (pc (ok__law_counts E) hr (by decide) pass0 rfl (pa_cons (pv 3) pa_nil)) pa_nil)) (pa_cons (pe_tup pa_nil) (pa_cons (pe_int) pa_nil)))))))
   pss_nil)
  (pss_cons (ps_set (i := 5) nd rfl (.inl rfl) (pe_op xDiv (pe_callB (kLen K) (by rfl) E.f_len (by decide +kernel) (pa_cons (pe_ix (kIx K) (pv 0) (pe_int) (fun _ _ => rfl)) pa_nil)) (pc (ok__law_gcd E) hr (by decide) pass0 rfl (pa_cons (pe_callB (kLen K) (by rfl) E.f_len (by decide +kernel) (pa_cons (pe_ix (kIx K) (pv 0) (pe_int) (fun _ _ => rfl)) pa_nil)) (pa_cons (pe_ix (kIx K) (pv 1) (pe_int) (fun _ _ => rfl)) pa_nil)))))
  (pss_cons (ps_set (i := 6) nd rfl (.inl rfl) (pe_op (kMul K) (pe_callB (kLen K) (by rfl) E.f_len (by decide +kernel) (pa_cons (pe_ix (kIx K) (pv 1) (pe_int) (fun _ _ => rfl)) pa_nil)) (pv 5)))
  (pss_cons (ps_setLc (i := 3) (own := [("n", 7)]) (g := gName 7) (tt := tYes) rfl nd rfl rfl (sw_true rfl rfl rfl (by decide +kernel)) (pi_range1 (by rfl) E.f_range (pa_cons (pe_op (kAdd K) (pv 4) (pv 6)) pa_nil)) (blkOk_by (N := N__law_behind) (sc := defScope s__law_behind) (by decide +kernel)) (fun _ _ _ _ _ => pg_name (i := 7) nd rfl (Or.inl rfl)) (fun _ _ _ _ _ => pts_nil) (fun _ _ _ _ _ => pc (ok__law_at E) hr (by decide) pass0 rfl (pa_cons (pv 0) (pa_cons (pc (ok__law_at E) hr (by decide) pass0 rfl (pa_cons (pv 1) (pa_cons (pe_op (kAdd K) (pv 7) (pe_int)) pa_nil))) pa_nil))))
  (pss_one (ps_ret (pc (ok__law_fit E) hr (by decide) pass0 rfl (pa_cons (pv 3) (pa_cons (pv 6) (pa_cons (pe_op (kMul K) (pe_ix (kIx K) (pv 0) (pe_int) (fun _ _ => rfl)) (pe_op xDiv (pe_op (kMul K) (pe_ix (kIx K) (pv 1) (pe_int) (fun _ _ => rfl)) (pv 5)) (pe_callB (kLen K) (by rfl) E.f_len (by decide +kernel) (pa_cons (pe_ix (kIx K) (pv 0) (pe_int) (fun _ _ => rfl)) pa_nil)))) pa_nil))))))))))))), ?_⟩
  change (_ : TS) _ [some v0, some v1, none, none, none, none, none, none] H
  try dsimp only [cxOf, Cx.nox, Cx.blk]
  obtain ⟨h1, l1, h2, l2, r1, r2, d1, d2, V1, V2, zz, z1, z2, k⟩ := h
  obtain ⟨a1, th1, tl1, rfl, s1, s2, s3⟩ := dp_raw d1
  obtain ⟨a2, th2, tl2, rfl, t1, t2, t3⟩ := dp_raw d2
  have zz' : h2.length + l2.length * (h1.length + 1) ≤ 40000 := Nat.le_trans (Nat.add_le_add_left (Nat.mul_le_mul_left _ (by omega)) _) zz
  have zs : h2.length + l2.length ≤ 40000 := by
    have := Nat.le_mul_of_pos_right l2.length (show 0 < h1.length + 1 by omega)
    omega
  walk_at "w"
  by_cases c : l2 = [] ∨ r2 = 0
  · rcases Decidable.em (l2 = []) with q | q
    case' inl =>
      have q0 : l2.length = 0 := by rw [q]; rfl
      rw [if_pos (show decide ((l2.length : Int) = 0) = true from decide_eq_true (by omega)), if_pos rfl]
      walk_at "w"
    case' inr =>
      have q0 : 0 < l2.length := List.length_pos_iff.mpr q
      have q1 : r2 = 0 := c.resolve_left q
      rw [if_neg (show ¬ decide ((l2.length : Int) = 0) = true from fun h => by have := of_decide_eq_true h; omega)]
      walk_at "w"
    all_goals
      refine lcJ_r0 (n := h2.length + l2.length + 1) (v := fun j => optV (CV h1 l1 r1 (TV h2 l2 r2) j)) (by omega) (fun x => [_, _, _, _, _, _, _, some x]) (fun x => rfl) (fun x => rfl) (fun j H2 Q' e2 hj hq => ?_) (fun p2 H2 n2 e2 g2 => ?_)
      · walk_at "w"
        have e12 := e2
        refine ⟨h2, l2, r2, some ((j : Int) + 1), dp_of_raw (ex_t e12 t1) (ex_t e12 t2) (ex_t e12 t3), dp_of_opt (p := some _), fun i hi => by cases hi; omega, V2.sm, fun v H3 e3 q3 => ?_⟩
        obtain rfl := dp_toOpt q3
        walk_at "w"
        have e13 := e12.trans e3
        refine ⟨h1, l1, r1, valueAt h2 l2 r2 (some ((j : Int) + 1)), dp_of_raw (ex_t e13 s1) (ex_t e13 s2) (ex_t e13 s3), dp_of_opt, valueAt_nn V2.p1 V2.p2 V2.r0 _, V1.sm, fun v H4 e4 q4 => ?_⟩
        obtain rfl := dp_toOpt q4
        rw [show valueAt h2 l2 r2 (some ((j : Int) + 1)) = TV h2 l2 r2 j from vat_TV j]
        exact hq _ (e3.trans e4)
      · have hL : SqL K H2 p2 ((List.range (h2.length + l2.length + 1)).map fun j => optV (CV h1 l1 r1 (TV h2 l2 r2) j)) := sq_of g2
        walk_at "w"
        refine r_ixL hL (range_last _ _) ?_
        walk_at "w"
        by_cases ce : CV h1 l1 r1 (TV h2 l2 r2) (h2.length + l2.length) = none
        · rw [ce]
          simp only [optV]
          walk_at "w"
          refine ⟨p2, (List.range (h2.length + l2.length + 1)).map (CV h1 l1 r1 (TV h2 l2 r2)), rfl, by rw [List.map_map]; exact hL, by rw [List.length_map, List.length_range]; omega, fun p10 H10 n10 e10 h10 => ?_⟩
          walk_at "w"
          intro p11 H11 e11 s11
          walk_at "w"
          intro p12 H12 n12 e12 h12
          walk_at "w"
          intro p13 H13 n13 e13 h13
          exact k _ _ _ [] 0 (e2.trans (by walk_at "ex")) (dp_of_raw (st_of h13) (ex_t e13 (ex_t e12 s11)) (ex_t e13 (st_of h12))) (beh_none V1 V2 zs ce)
        · obtain ⟨w1, w2, w3, w4⟩ := beh_set (xs := (List.range (h2.length + l2.length + 1)).map fun j => (CV h1 l1 r1 (TV h2 l2 r2) j).getD 0) V1 V2 c (Nat.le_add_right ..) zs ce rfl
          obtain ⟨vv, cv⟩ : ∃ vv, CV h1 l1 r1 (TV h2 l2 r2) (h2.length + l2.length) = some vv := by
            cases q : CV h1 l1 r1 (TV h2 l2 r2) (h2.length + l2.length) with
            | none => exact absurd q ce
            | some vv => exact ⟨vv, rfl⟩
          rw [cv]
          simp only [optV]
          walk_at "w"
          rw [← w3] at hL
          exact ⟨p2, _, h2.length + l2.length, 1, 0, rfl, rfl, rfl, hL, w2, Int.le_refl _, w1, fun v H10 e10 d10 => k v H10 _ _ _ (e2.trans e10) d10 w4⟩
  · have c2 : l2 ≠ [] := fun e => c (.inl e)
    have hr : 0 < r2 := by
      have := V2.r0
      have : ¬ r2 = 0 := fun e => c (.inr e)
      omega
    have l20 : 0 < l2.length := List.length_pos_iff.mpr c2
    have hr0 : r2 ≠ 0 := by omega
    have GM := grows V2 c2 hr h1.length
    generalize hM : h2.length + l2.length * (h1.length + 1) = M at *
    walk_at "w"
    refine ⟨fun w σ' H' => ∃ p : Nat, σ' = [some (.ref a1), some (.ref a2), none, none, some (.int p), none, none, none] ∧ Ex H H' ∧ h2.length ≤ p ∧ (∀ j, h2.length ≤ j → j < p → fV h2 l2 r2 j ≤ h1.length) ∧ w = M - p, ⟨M - h2.length, h2.length, rfl, Ex.refl _, Nat.le_refl _, fun j x1 x2 => by omega, rfl⟩, ?_⟩
    rintro w σ' H1 ⟨p, rfl, e1, hp, hlo, rfl⟩
    walk_at "w"
    refine ⟨h2, l2, r2, some ((p : Int) + 1), dp_of_raw (ex_t e1 t1) (ex_t e1 t2) (ex_t e1 t3), dp_of_opt (p := some _), fun i hi => by cases hi; omega, V2.sm, fun v H2 e2 q2 => ?_⟩
    rw [show valueAt h2 l2 r2 (some ((p : Int) + 1)) = some (fV h2 l2 r2 p) from vat_fV c2 _] at q2
    obtain rfl := dp_toOpt q2
    simp only [optV]
    have e02 := e1.trans e2
    have S1 := ex_t e02 s1
    have S2 := ex_t e02 s2
    have S3 := ex_t e02 s3
    have T1 := ex_t e02 t1
    have T2 := ex_t e02 t2
    have T3 := ex_t e02 t3
    walk_at "w"
    by_cases cp : fV h2 l2 r2 p ≤ h1.length
    · walk_at "w"
      refine ⟨_, fun σ2 H2 h2 => h2, ?_⟩
      walk_at "w"
      have c2 : p < M := by
        by_cases q : p < M
        · exact q
        · have := fV_mono V2 c2 (show M ≤ p by omega)
          omega
      refine ⟨M - (p + 1), by omega, p + 1, rfl, e02, by omega, fun j x1 x2 => ?_, rfl⟩
      by_cases q : j = p
      · subst q; exact cp
      · exact hlo j x1 (by omega)
    · have B : Beyond (fV h2 l2 r2) h2.length h1.length p := ⟨hp, by omega, hlo⟩
      have zp := B.le (by omega) GM
      walk_at "w"
      by_cases c1 : l1 = []
      · have q0 : l1.length = 0 := by rw [c1]; rfl
        have cn : CV h1 l1 r1 (TV h2 l2 r2) p = none := by
          unfold CV
          rw [tv_some c2, c1]
          exact vat_over B.hi
        rw [if_pos (show decide ((l1.length : Int) = 0) = true from decide_eq_true (by omega))]
        walk_at "w"
        refine lcJ_r0 (n := p + 1) (v := fun j => optV (CV h1 l1 r1 (TV h2 l2 r2) j)) (by omega) (fun x => [_, _, _, _, _, _, _, some x]) (fun x => rfl) (fun x => rfl) (fun j H3 Q' e3 hj hq => ?_) (fun p3 H3 n3 e3 g3 => ?_)
        · walk_at "w"
          have e12 := e02.trans e3
          refine ⟨h2, l2, r2, some ((j : Int) + 1), dp_of_raw (ex_t e12 t1) (ex_t e12 t2) (ex_t e12 t3), dp_of_opt (p := some _), fun i hi => by cases hi; omega, V2.sm, fun v H5 e5 q5 => ?_⟩
          obtain rfl := dp_toOpt q5
          walk_at "w"
          have e13 := e12.trans e5
          refine ⟨h1, l1, r1, valueAt h2 l2 r2 (some ((j : Int) + 1)), dp_of_raw (ex_t e13 s1) (ex_t e13 s2) (ex_t e13 s3), dp_of_opt, valueAt_nn V2.p1 V2.p2 V2.r0 _, V1.sm, fun v H6 e6 q6 => ?_⟩
          obtain rfl := dp_toOpt q6
          rw [show valueAt h2 l2 r2 (some ((j : Int) + 1)) = TV h2 l2 r2 j from vat_TV j]
          exact hq _ (e5.trans e6)
        · walk_at "w"
          refine ⟨p3, (List.range (p + 1)).map (CV h1 l1 r1 (TV h2 l2 r2)), rfl, by rw [List.map_map]; exact sq_of g3, by rw [List.length_map, List.length_range]; omega, fun p10 H10 n10 e10 h10 => ?_⟩
          walk_at "w"
          intro p11 H11 e11 s11
          walk_at "w"
          intro p12 H12 n12 e12 h12
          walk_at "w"
          intro p13 H13 n13 e13 h13
          exact k _ _ _ [] 0 (e02.trans (e3.trans (by walk_at "ex"))) (dp_of_raw (st_of h13) (ex_t e13 (ex_t e12 s11)) (ex_t e13 (st_of h12))) (beh_none V1 V2 (by omega) cn)
      · have l10 : 0 < l1.length := List.length_pos_iff.mpr c1
        walk_at "w"
        refine ⟨l1.length, r2, rfl, rfl, by omega, by omega, ?_⟩
        obtain ⟨t, e, t0, dt, ht, he, he2⟩ := turns_ok l10 hr
        have g0 : (0 : Int) < Int.gcd l1.length r2 := by
          have := Int.gcd_pos_of_ne_zero_left r2 (show (l1.length : Int) ≠ 0 by omega)
          omega
        have zl1 : l1.length ≤ 40000 := by
          have := Nat.le_mul_of_pos_left (h1.length + l1.length + 1) l20
          omega
        have g1 : (Int.gcd l1.length r2 : Int) ≤ l1.length := Int.le_of_dvd (by omega) (Int.gcd_dvd_left ..)
        obtain ⟨w1, w2, w3, w4, w5, w6, w7⟩ := cmp_go (xs := (List.range (p + l2.length * t)).map fun j => (CV h1 l1 r1 (TV h2 l2 r2) j).getD 0) V1 V2 c1 c2 hr zz z1 z2 B t0 dt he rfl
        have zt : t ≤ l1.length := Nat.le_of_dvd l10 dt
        have zl2 : l2.length ≤ 40000 := by omega
        have r10 := V1.r0
        have er : (e : Int) ≤ r2 := by
          have a : r2 * t ≤ r2 * l1.length := Int.mul_le_mul_of_nonneg_left (by omega) (by omega)
          rw [he, Int.natCast_mul, Int.mul_comm r2] at a
          exact Int.le_of_mul_le_mul_left a (by omega)
        walk_at "w"
        rw [ht]
        walk_at "w"
        rw [← Int.natCast_mul]
        generalize hm : l2.length * t = m at *
        refine lcJ_r0 (n := p + m) (v := fun j => optV (CV h1 l1 r1 (TV h2 l2 r2) j)) (by omega) (fun x => [_, _, _, _, _, _, _, some x]) (fun x => rfl) (fun x => rfl) (fun j H3 Q' e3 hj hq => ?_) (fun p3 H3 n3 e3 g3 => ?_)
        · walk_at "w"
          have e12 := e02.trans e3
          refine ⟨h2, l2, r2, some ((j : Int) + 1), dp_of_raw (ex_t e12 t1) (ex_t e12 t2) (ex_t e12 t3), dp_of_opt (p := some _), fun i hi => by cases hi; omega, V2.sm, fun v H5 e5 q5 => ?_⟩
          obtain rfl := dp_toOpt q5
          walk_at "w"
          have e13 := e12.trans e5
          refine ⟨h1, l1, r1, valueAt h2 l2 r2 (some ((j : Int) + 1)), dp_of_raw (ex_t e13 s1) (ex_t e13 s2) (ex_t e13 s3), dp_of_opt, valueAt_nn V2.p1 V2.p2 V2.r0 _, V1.sm, fun v H6 e6 q6 => ?_⟩
          obtain rfl := dp_toOpt q6
          rw [show valueAt h2 l2 r2 (some ((j : Int) + 1)) = TV h2 l2 r2 j from vat_TV j]
          exact hq _ (e5.trans e6)
        · rw [← w3] at g3
          walk_at "w"
          rw [he2]
          exact ⟨p3, _, p, m, r1 * e, rfl, rfl, rfl, sq_of g3, w2, w6, w1, fun v H4 e4 d4 => k v H4 _ _ _ (e02.trans (e3.trans e4)) d4 w7.pl⟩

theorem at_ext {h l h' l' : List Int} {r r' : Int} (V : Val h l r) (V' : Val h' l' r') (e : ∀ j, TV h l r j = TV h' l' r' j) {p : Option Int} (hp : Cnt p) : valueAt h l r p = valueAt h' l' r' p := by
  rcases at_cases hp with rfl | rfl | ⟨j, rfl⟩
  · have a := end_of_tab V
    rw [show TV h l r = TV h' l' r' from funext e] at a
    exact a.uniq (end_of_tab V')
  · rw [vat_zero, vat_zero]
  · show vat _ _ _ _ = vat _ _ _ _
    rw [vat_TV, vat_TV, e]
theorem cv_plain {h1 l1 h2 l2 : List Int} {r1 r2 : Int} (V1 : Val h1 l1 r1) (V2 : Val h2 l2 r2) :
    CV (plainF h1 l1 r1).1 (plainF h1 l1 r1).2.1 (plainF h1 l1 r1).2.2 (TV (plainF h2 l2 r2).1 (plainF h2 l2 r2).2.1 (plainF h2 l2 r2).2.2) = CV h1 l1 r1 (TV h2 l2 r2) := by
  obtain ⟨a1, b1, _⟩ := plainF_val V1
  obtain ⟨a2, b2, _⟩ := plainF_val V2
  rw [show TV (plainF h2 l2 r2).1 (plainF h2 l2 r2).2.1 (plainF h2 l2 r2).2.2 = TV h2 l2 r2 from funext b2]
  exact funext fun j => at_ext a1 V1 b1 ((Gd.of V2).nn j)
theorem bs_zz {h1 l1 h2 l2 : List Int} {r1 r2 : Int} (X : Bs h1 l1 r1) (Y : Bs h2 l2 r2) : h2.length + l2.length * (h1.length + l1.length + 1) ≤ 40000 := by
  have a := X.zh
  have b := X.zl
  have c := Y.zh
  have m := Nat.mul_le_mul Y.zl (show h1.length + l1.length + 1 ≤ 9 by omega)
  omega
theorem raw_zz {h1 l1 h2 l2 : List Int} {r1 r2 : Int} (X : RawOk h1 l1 r1) (Y : RawOk h2 l2 r2) : h2.length + l2.length * (h1.length + l1.length + 1) ≤ 40000 := by
  have a := X.zh
  have b := X.zl
  have c := Y.zh
  have m := Nat.mul_le_mul Y.zl (show h1.length + l1.length + 1 ≤ 9 by omega)
  omega
section
variable {K : PySem.W.Frag} {H : Hp} {Q : VK}
theorem r_mulT {x y : Addr} {h1 l1 h2 l2 : List Int} {r1 r2 : Int} (t1 : TabAt K H x h1 l1 r1) (t2 : TabAt K H y h2 l2 r2) (V1 : Val h1 l1 r1) (V2 : Val h2 l2 r2) (zz : h2.length + l2.length * (h1.length + l1.length + 1) ≤ 40000) (z1 : r1 ≤ 1000000) (z2 : r2 ≤ 1000000)
    (k : ∀ z H' h l r, Ex H H' → TabAt K H' z h l r → Cmp h1 l1 r1 h2 l2 r2 h l r → Q (.ref z) H') : rOwnB (He.ga K "Table") (spMul K) (.ref x) (.ref y) H Q := by
  obtain ⟨dx, th, tl, i, _⟩ := id t1
  obtain ⟨dy, th2, tl2, j, _⟩ := id t2
  exact r_ownB i j ⟨x, y, h1, l1, h2, l2, r1, r2, rfl, rfl, t1, t2, V1, V2, zz, z1, z2, fun z H' h l r e t C => ⟨⟨_, rfl⟩, k z H' h l r e t C⟩⟩
end

/-- the least place at which the first one is greater -/
def Lst (f g : Nat → Option Int) (o : Option Int) : Prop := (o = none ∧ ∀ j, leO (f j) (g j) = true) ∨ ∃ n : Nat, o = some ((n : Int) + 1) ∧ leO (f n) (g n) = false ∧ ∀ j, j < n → leO (f j) (g j) = true
theorem Lst.uniq {f g : Nat → Option Int} {o o' : Option Int} (a : Lst f g o) (b : Lst f g o') : o = o' := by
  rcases a with ⟨rfl, a⟩ | ⟨n, rfl, a1, a2⟩
  · rcases b with ⟨rfl, _⟩ | ⟨n, rfl, b1, _⟩
    · rfl
    · rw [a n] at b1; cases b1
  · rcases b with ⟨rfl, b⟩ | ⟨m, rfl, b1, b2⟩
    · rw [b n] at a1; cases a1
    · rcases Nat.lt_trichotomy n m with h | h | h
      · rw [b2 n h] at a1; cases a1
      · rw [h]
      · rw [a2 m h] at b1; cases b1
theorem Lst.nn {f g : Nat → Option Int} {o : Option Int} (a : Lst f g o) : ∀ i, o = some i → 0 ≤ i := fun i e => by
  rcases a with ⟨rfl, _⟩ | ⟨n, rfl, _⟩
  · cases e
  · cases e; omega
/-- small tables -/
structure Sm (h l : List Int) (r : Int) : Prop where
  val : Val h l r
  zh : h.length ≤ 100
  zl : l.length ≤ 4
  br : r ≤ 1000000
theorem Sm.plain {h l : List Int} {r : Int} (s : Sm h l r) : Sm (plainF h l r).1 (plainF h l r).2.1 (plainF h l r).2.2 := by
  obtain ⟨a, _, _, b, _⟩ := plainF_val s.val
  obtain ⟨_, _, _, c, _, d⟩ := plainF_ok s.val
  have := s.zh
  have := s.zl
  have := s.br
  exact ⟨a, by omega, by omega, by omega⟩
theorem above_ended {h1 l1 h2 l2 : List Int} {r1 r2 : Int} {S m : Nat} (z1 : h1.length ≤ S) (z2 : h2.length ≤ S) (m0 : 1 ≤ m) (c : l1 = [] ∨ l2 = []) (hw : ∀ j, j < S + m → leO (TV h1 l1 r1 j) (TV h2 l2 r2 j) = true) : ∀ j, leO (TV h1 l1 r1 j) (TV h2 l2 r2 j) = true := by
  intro j
  by_cases hj : j < S
  · exact hw j (by omega)
  · by_cases c2 : l2 = []
    · rw [tv_nil c2 (by omega)]
      cases TV h1 l1 r1 j <;> rfl
    · have c1 : l1 = [] := c.resolve_right c2
      have := hw S (by omega)
      rw [tv_nil c1 z1, tv_some c2] at this
      cases this
theorem above_le {h1 l1 h2 l2 : List Int} {r1 r2 : Int} {S m : Nat} (c1 : l1 ≠ []) (c2 : l2 ≠ []) (z1 : h1.length ≤ S) (z2 : h2.length ≤ S) (m0 : 1 ≤ m) (d1 : l1.length ∣ m) (d2 : l2.length ∣ m) (hw : ∀ j, j < S + m → leO (TV h1 l1 r1 j) (TV h2 l2 r2 j) = true)
    (hc : slp l1 r1 m - slp l2 r2 m ≤ 0) : ∀ j, leO (TV h1 l1 r1 j) (TV h2 l2 r2 j) = true := by
  intro j
  by_cases hj : j < S
  · exact hw j (by omega)
  · obtain ⟨t, q, ht, hq⟩ : ∃ t q, t < m ∧ j = (S + t) + m * q := ⟨(j - S) % m, (j - S) / m, Nat.mod_lt _ m0, by have := Nat.mod_add_div (j - S) m; omega⟩
    have := hw (S + t) (by omega)
    rw [tv_some c1, tv_some c2, leO_some] at this ⊢
    rw [hq, fV_perN c1 d1 (by omega), fV_perN c2 d2 (by omega)]
    have := Int.mul_le_mul_of_nonneg_right (show slp l1 r1 m ≤ slp l2 r2 m by omega) (show (0 : Int) ≤ (q : Int) by omega)
    omega
/-- where round k first goes above -/
def seenV (h1 l1 : List Int) (r1 : Int) (h2 l2 : List Int) (r2 : Int) (S m : Nat) (k : Nat) : Int := (S : Int) + 1 + k + ((fV h2 l2 r2 (S + k) - fV h1 l1 r1 (S + k)) / (slp l1 r1 m - slp l2 r2 m) + 1) * m
theorem above_gt {h1 l1 h2 l2 : List Int} {r1 r2 : Int} {S m : Nat} {v : Int} (c1 : l1 ≠ []) (c2 : l2 ≠ []) (z1 : h1.length ≤ S) (z2 : h2.length ≤ S) (m0 : 1 ≤ m) (d1 : l1.length ∣ m) (d2 : l2.length ∣ m) (hw : ∀ j, j < S + m → leO (TV h1 l1 r1 j) (TV h2 l2 r2 j) = true)
    (hc : 0 < slp l1 r1 m - slp l2 r2 m) (lo : ∀ k, k < m → v ≤ seenV h1 l1 r1 h2 l2 r2 S m k) (ex : ∃ k, k < m ∧ v = seenV h1 l1 r1 h2 l2 r2 S m k) : Lst (TV h1 l1 r1) (TV h2 l2 r2) (some v) := by
  have dif : ∀ t q : Nat, fV h1 l1 r1 ((S + t) + m * q) - fV h2 l2 r2 ((S + t) + m * q) = (slp l1 r1 m - slp l2 r2 m) * q - (fV h2 l2 r2 (S + t) - fV h1 l1 r1 (S + t)) := fun t q => by
    rw [fV_perN c1 d1 (by omega), fV_perN c2 d2 (by omega), Int.sub_mul]
    omega
  have nn : ∀ t, t < m → 0 ≤ fV h2 l2 r2 (S + t) - fV h1 l1 r1 (S + t) := fun t ht => by
    have := hw (S + t) (by omega)
    rw [tv_some c1, tv_some c2, leO_some] at this
    omega
  unfold seenV at lo ex
  generalize slp l1 r1 m - slp l2 r2 m = cl at *
  obtain ⟨k, hk, rfl⟩ := ex
  have hd := nn k hk
  have e := Int.emod_add_mul_ediv (fV h2 l2 r2 (S + k) - fV h1 l1 r1 (S + k)) cl
  have e0 := Int.emod_nonneg (fV h2 l2 r2 (S + k) - fV h1 l1 r1 (S + k)) (show cl ≠ 0 by omega)
  have e1 := Int.emod_lt_of_pos (fV h2 l2 r2 (S + k) - fV h1 l1 r1 (S + k)) hc
  have q0 := Int.ediv_nonneg hd (show 0 ≤ cl by omega)
  obtain ⟨q, hq⟩ := Int.eq_ofNat_of_zero_le q0
  rw [hq] at e lo
  have hp : ((S : Int) + 1 + k + ((fV h2 l2 r2 (S + k) - fV h1 l1 r1 (S + k)) / cl + 1) * m) = ((((S + k) + m * (q + 1) : Nat) : Int)) + 1 := by
    rw [hq, Int.natCast_add, Int.natCast_add, Int.natCast_mul, Int.mul_comm, show ((q + 1 : Nat) : Int) = (q : Int) + 1 from rfl]
    omega
  rw [hp]
  refine .inr ⟨_, rfl, ?_, fun j hj => ?_⟩
  · have := dif k (q + 1)
    rw [tv_some c1, tv_some c2, Bool.eq_false_iff]
    intro h
    rw [leO_some] at h
    rw [Int.natCast_add, Int.mul_add] at this
    omega
  · by_cases hj2 : j < S + m
    · exact hw j hj2
    · obtain ⟨t, p, ht, hp2⟩ : ∃ t q, t < m ∧ j = (S + t) + m * q := ⟨(j - S) % m, (j - S) / m, Nat.mod_lt _ m0, by have := Nat.mod_add_div (j - S) m; omega⟩
      rw [tv_some c1, tv_some c2, leO_some]
      have w1 := lo t ht
      have w2 := dif t p
      rw [← hp2] at w2
      have f := Int.emod_add_mul_ediv (fV h2 l2 r2 (S + t) - fV h1 l1 r1 (S + t)) cl
      have f0 := Int.emod_nonneg (fV h2 l2 r2 (S + t) - fV h1 l1 r1 (S + t)) (show cl ≠ 0 by omega)
      rcases Int.lt_or_le ((fV h2 l2 r2 (S + t) - fV h1 l1 r1 (S + t)) / cl) (p : Int) with g | g
      · exfalso
        have g2 := Int.mul_le_mul_of_nonneg_right (show (fV h2 l2 r2 (S + t) - fV h1 l1 r1 (S + t)) / cl + 1 ≤ (p : Int) by omega) (show (0 : Int) ≤ (m : Int) by omega)
        have hj3 : (j : Int) < ((S + k + m * (q + 1) : Nat) : Int) := by omega
        have hj4 : (j : Int) = (S : Int) + t + (p : Int) * m := by
          rw [hp2, Int.natCast_add, Int.natCast_add, Int.natCast_mul, Int.mul_comm]
        have hj5 : ((S + k + m * (q + 1) : Nat) : Int) = (S : Int) + k + ((q : Int) + 1) * m := by
          rw [Int.natCast_add, Int.natCast_add, Int.natCast_mul, Int.mul_comm]
          rfl
        omega
      · have g2 := Int.mul_le_mul_of_nonneg_left g (show 0 ≤ cl by omega)
        omega

/-- tables that may be compared -/
structure SmP (h l : List Int) (r : Int) : Prop where
  val : Val h l r
  zh : h.length ≤ 20000
  zl : l.length ≤ 600
  br : r ≤ 1000000
abbrev spAbove (K : PySem.W.Frag) : Sp := sp2 fun a b H Q _ => ∃ (h1 l1 h2 l2 : List Int) (r1 r2 : Int), Dp K H a (dRaw h1 l1 r1) ∧ Dp K H b (dRaw h2 l2 r2) ∧ SmP h1 l1 r1 ∧ SmP h2 l2 r2 ∧ l1.length * l2.length ≤ 20000 ∧ ∀ o H', Ex H H' → Lst (TV h1 l1 r1) (TV h2 l2 r2) o → Q (optV o) H'
theorem vat1 {h l : List Int} {r : Int} (i : Nat) : valueAt h l r (some (1 + (i : Int))) = TV h l r i := by
  rw [show (1 : Int) + i = i + 1 by omega]
  exact vat_TV i
theorem vatS {h l : List Int} {r : Int} (S i : Nat) (c : l ≠ []) : valueAt h l r (some ((S : Int) + 1 + i)) = some (fV h l r (S + i)) := by
  rw [show (S : Int) + 1 + i = ((S + i : Nat) : Int) + 1 by omega]
  exact vat_fV c _
abbrev N_least_above : List Str := ["first", "second", "longest", "many", "place", "climb", "found", "lack", "seen"]
theorem sc_least_above : FnScope N_least_above ["first", "second"] (defScope s_least_above) := ⟨rfl, rfl, rfl, by decide +kernel, rfl, by decide +kernel, by decide +kernel⟩
theorem ok_least_above {P : Program} {w : World} {K : PySem.W.Frag} {mg : Str → Option Value} {base : Heap} (E : Env P K mg) : Fn P w K mg base CX0 3 "least_above" (spAbove K) := by
  obtain ⟨fd, F⟩ := E.dd_least_above
  refine Fn.mk0 F E.g_least_above sc_least_above sp2_len (fun _ _ _ _ _ _ us hl => match us, hl with | [_, _], _ => rfl) (fun cdv A outer s H vs Q X hr h => ?_)
  have nd := sc_least_above.nd
  obtain ⟨v0, v1, rfl, h⟩ := h
  refine ⟨_, (pss_cons (ps_set (i := 2) nd rfl (.inl rfl) (pe_callB (xMax2 rfl) (by rfl) E.f_max (by decide +kernel) (pa_cons (pe_callB (kLen K) (by rfl) E.f_len (by decide +kernel) (pa_cons (pe_ix (kIx K) (pv 0) (pe_int) (fun _ _ => rfl)) pa_nil)) (pa_cons (pe_callB (kLen K) (by rfl) E.f_len (by decide +kernel) (pa_cons (pe_ix (kIx K) (pv 1) (pe_int) (fun _ _ => rfl)) pa_nil)) pa_nil))))
  (pss_cut (ps_if (PW.pt (pw_and (pt_cmpR op_gt (pe_callB (kLen K) (by rfl) E.f_len (by decide +kernel) (pa_cons (pe_ix (kIx K) (pv 0) (pe_int) (fun _ _ => rfl)) pa_nil)) (pe_int) (nomark _)) (pw_and1 (pt_cmpR op_gt (pe_callB (kLen K) (by rfl) E.f_len (by decide +kernel) (pa_cons (pe_ix (kIx K) (pv 1) (pe_int) (fun _ _ => rfl)) pa_nil)) (pe_int) (nomark _)))))
   (pss_one (ps_set (i := 3) nd rfl (.inl rfl) (pc (ok_common_multiple E) hr (by decide) pass0 rfl (pa_cons (pe_callB (kLen K) (by rfl) E.f_len (by decide +kernel) (pa_cons (pe_ix (kIx K) (pv 0) (pe_int) (fun _ _ => rfl)) pa_nil)) (pa_cons (pe_callB (kLen K) (by rfl) E.f_len (by decide +kernel) (pa_cons (pe_ix (kIx K) (pv 1) (pe_int) (fun _ _ => rfl)) pa_nil)) pa_nil)))))
   (pss_one (ps_set (i := 3) nd rfl (.inl rfl) (pe_callB (xMax3 rfl) (by rfl) E.f_max (by decide +kernel) (pa_cons (pe_callB (kLen K) (by rfl) E.f_len (by decide +kernel) (pa_cons (pe_ix (kIx K) (pv 0) (pe_int) (fun _ _ => rfl)) pa_nil)) (pa_cons (pe_callB (kLen K) (by rfl) E.f_len (by decide +kernel) (pa_cons (pe_ix (kIx K) (pv 1) (pe_int) (fun _ _ => rfl)) pa_nil)) (pa_cons (pe_int) pa_nil)))))))
  (pss_cons (ps_for PassesOwn.never rfl (pi_range2 (by rfl) E.f_range (pa_cons (pe_int) (pa_cons (pe_op (kAdd K) (pe_op (kAdd K) (pv 2) (pv 3)) (pe_int)) pa_nil))) (pg_name (i := 4) nd rfl (.inl rfl))
   (pss_one (ps_if (pt_not (kTru K (pc (ok_at_most E) hr (by decide) pass0 rfl (pa_cons (pc (ok_value_at E) hr (by decide) pass0 rfl (pa_cons (pv 0) (pa_cons (pv 4) pa_nil))) (pa_cons (pc (ok_value_at E) hr (by decide) pass0 rfl (pa_cons (pv 1) (pa_cons (pv 4) pa_nil))) pa_nil))) (by intro _; rfl)))
   (pss_one (ps_ret (pv 4)))
   pss_nil)))
  (pss_cons (ps_if (PW.pt (pw_or (pt_cmpR (kEq K hr) (pe_callB (kLen K) (by rfl) E.f_len (by decide +kernel) (pa_cons (pe_ix (kIx K) (pv 0) (pe_int) (fun _ _ => rfl)) pa_nil)) (pe_int) (nomark _)) (pw_or1 (pt_cmpR (kEq K hr) (pe_callB (kLen K) (by rfl) E.f_len (by decide +kernel) (pa_cons (pe_ix (kIx K) (pv 1) (pe_int) (fun _ _ => rfl)) pa_nil)) (pe_int) (nomark _)))))
   (pss_one (ps_ret (pe_non)))
   pss_nil)
  (pss_cons (ps_set (i := 5) nd rfl (.inl rfl) (pe_op xSub (pe_op (kMul K) (pe_ix (kIx K) (pv 0) (pe_int) (fun _ _ => rfl)) (pe_op xDiv (pv 3) (pe_callB (kLen K) (by rfl) E.f_len (by decide +kernel) (pa_cons (pe_ix (kIx K) (pv 0) (pe_int) (fun _ _ => rfl)) pa_nil)))) (pe_op (kMul K) (pe_ix (kIx K) (pv 1) (pe_int) (fun _ _ => rfl)) (pe_op xDiv (pv 3) (pe_callB (kLen K) (by rfl) E.f_len (by decide +kernel) (pa_cons (pe_ix (kIx K) (pv 1) (pe_int) (fun _ _ => rfl)) pa_nil))))))
  (pss_cons (ps_if (pt_cmpR op_le (pv 5) (pe_int) (nomark _))
   (pss_one (ps_ret (pe_non)))
   pss_nil)
  (pss_cons (ps_set (i := 6) nd rfl (.inl rfl) (pe_non))
  (pss_cons (ps_for PassesOwn.never rfl (pi_range2 (by rfl) E.f_range (pa_cons (pe_op (kAdd K) (pv 2) (pe_int)) (pa_cons (pe_op (kAdd K) (pe_op (kAdd K) (pv 2) (pv 3)) (pe_int)) pa_nil))) (pg_name (i := 4) nd rfl (.inl rfl))
   (pss_cons (ps_set (i := 7) nd rfl (.inl rfl) (pe_op xSub (pc (ok_value_at E) hr (by decide) pass0 rfl (pa_cons (pv 1) (pa_cons (pv 4) pa_nil))) (pc (ok_value_at E) hr (by decide) pass0 rfl (pa_cons (pv 0) (pa_cons (pv 4) pa_nil)))))
  (pss_cons (ps_set (i := 8) nd rfl (.inl rfl) (pe_op (kAdd K) (pv 4) (pe_op (kMul K) (pe_op (kAdd K) (pe_op xDiv (pv 7) (pv 5)) (pe_int)) (pv 3))))
  (pss_one (ps_set (i := 6) nd rfl (.inl rfl) (pe_ifExp (pt_cmpR xIs (pv 6) (pe_non) (nomark _)) (pv 8) (pe_callB (xMin2 rfl) (by rfl) E.f_min (by decide +kernel) (pa_cons (pv 6) (pa_cons (pv 8) pa_nil)))))))))
  (pss_one (ps_ret (pv 6))))))))))), ?_⟩
  change (_ : TS) _ [some v0, some v1, none, none, none, none, none, none, none] H
  try dsimp only [cxOf, Cx.nox, Cx.blk]
  obtain ⟨h1, l1, h2, l2, r1, r2, d1, d2, A1, A2, AZ, k⟩ := h
  obtain ⟨a1, th1, tl1, rfl, s1, s2, s3⟩ := dp_raw d1
  obtain ⟨a2, th2, tl2, rfl, t1, t2, t3⟩ := dp_raw d2
  have zh1 := A1.zh
  have zh2 := A2.zh
  have zl1 := A1.zl
  have zl2 := A2.zl
  have r10 := A1.val.r0
  have r20 := A2.val.r0
  have rr1 := A1.br
  have rr2 := A2.br
  walk_at "w"
  obtain ⟨S, hS⟩ : ∃ S : Nat, (S : Int) = max (h1.length : Int) h2.length := ⟨max h1.length h2.length, by omega⟩
  rw [← hS]
  have S1 : h1.length ≤ S := by omega
  have S2 : h2.length ≤ S := by omega
  have S3 : S ≤ 20000 := by omega
  refine w_cut (M := fun σ' H' => ∃ m : Nat, σ' = [some (.ref a1), some (.ref a2), some (.int S), some (.int m), none, none, none, none, none] ∧ H' = H ∧ 1 ≤ m ∧ m ≤ 20000 ∧ (l1 ≠ [] → l2 ≠ [] → l1.length ∣ m ∧ l2.length ∣ m)) ?_ ?_
  · walk_at "w"
    by_cases c1 : l1 = []
    · subst c1
      walk_at "w"
      refine r_max3 ?_
      walk_at "w"
      obtain ⟨m, hm⟩ : ∃ m : Nat, (m : Int) = max (max (([] : List Int).length : Int) l2.length) 1 := ⟨max l2.length 1, by simp only [List.length_nil]; omega⟩
      rw [← hm]
      simp only [List.length_nil] at hm
      exact ⟨m, rfl, rfl, by omega, by omega, fun e => absurd rfl e⟩
    · have l10 : 0 < l1.length := List.length_pos_iff.mpr c1
      walk_at "w"
      by_cases c2 : l2 = []
      · subst c2
        walk_at "w"
        refine r_max3 ?_
        walk_at "w"
        obtain ⟨m, hm⟩ : ∃ m : Nat, (m : Int) = max (max (l1.length : Int) (([] : List Int).length : Int)) 1 := ⟨l1.length, by simp only [List.length_nil]; omega⟩
        rw [← hm]
        simp only [List.length_nil] at hm
        exact ⟨m, rfl, rfl, by omega, by omega, fun _ e => absurd rfl e⟩
      · have l20 : 0 < l2.length := List.length_pos_iff.mpr c2
        walk_at "w"
        refine ⟨l1.length, l2.length, rfl, rfl, l10, by omega, by omega, ?_⟩
        walk_at "w"
        have m0 : 0 < Nat.lcm l1.length l2.length := Nat.lcm_pos l10 l20
        have m1 : Nat.lcm l1.length l2.length ≤ l1.length * l2.length := Nat.le_of_dvd (Nat.mul_pos l10 l20) (Nat.lcm_dvd_mul ..)
        exact ⟨_, rfl, rfl, m0, by omega, fun _ _ => ⟨Nat.dvd_lcm_left .., Nat.dvd_lcm_right ..⟩⟩
  rintro σ' H' ⟨m, rfl, rfl, m0, m16, dv⟩
  walk_at "w"
  refine for_range (lo := 1) (Pv := fun i σ' H2 => ∃ x, σ' = [some (.ref a1), some (.ref a2), some (.int S), some (.int m), x, none, none, none, none] ∧ Ex H' H2 ∧ ∀ j, j < i → leO (TV h1 l1 r1 j) (TV h2 l2 r2 j) = true) ⟨_, rfl, Ex.refl _, fun j hj => by omega⟩ ?_ ?_
  · rintro i σ' H2 hi ⟨x, rfl, e, hw⟩
    walk_at "w"
    refine ⟨h1, l1, r1, some (1 + (i : Int)), dp_of_raw (ex_t e s1) (ex_t e s2) (ex_t e s3), dp_of_opt (p := some (1 + (i : Int))), fun m hm => by cases hm; omega, A1.val.sm, fun v H3 e3 q3 => ?_⟩
    rw [vat1] at q3
    obtain rfl := dp_toOpt q3
    walk_at "w"
    have e' := e.trans e3
    refine ⟨h2, l2, r2, some (1 + (i : Int)), dp_of_raw (ex_t e' t1) (ex_t e' t2) (ex_t e' t3), dp_of_opt (p := some (1 + (i : Int))), fun m hm => by cases hm; omega, A2.val.sm, fun v H4 e4 q4 => ?_⟩
    rw [vat1] at q4
    obtain rfl := dp_toOpt q4
    walk_at "w"
    refine ⟨_, _, rfl, rfl, ?_⟩
    walk_at "w"
    cases hb : leO (TV h1 l1 r1 i) (TV h2 l2 r2 i) with
    | true =>
      walk_at "w"
      refine ⟨_, rfl, e'.trans e4, fun j hj => ?_⟩
      by_cases c : j = i
      · rw [c]; exact hb
      · exact hw j (by omega)
    | false =>
      walk_at "w"
      refine k (some (1 + (i : Int))) _ (e'.trans e4) (.inr ⟨i, by rw [show (1 : Int) + i = i + 1 by omega], hb, hw⟩)
  rintro σ' H2 ⟨x, rfl, e, hw⟩
  have hw2 : ∀ j, j < S + m → leO (TV h1 l1 r1 j) (TV h2 l2 r2 j) = true := fun j hj => hw j (by omega)
  clear hw
  have U1 := ex_t e s1
  have U2 := ex_t e s2
  have U3 := ex_t e s3
  have V1 := ex_t e t1
  have V2 := ex_t e t2
  have V3 := ex_t e t3
  walk_at "w"
  by_cases c1 : l1 = []
  · have hall := above_ended S1 S2 m0 (.inl c1) hw2
    subst c1
    walk_at "w"
    exact k none _ e (.inl ⟨rfl, hall⟩)
  · have l10 : 0 < l1.length := List.length_pos_iff.mpr c1
    walk_at "w"
    by_cases c2 : l2 = []
    · have hall := above_ended S1 S2 m0 (.inr c2) hw2
      subst c2
      walk_at "w"
      exact k none _ e (.inl ⟨rfl, hall⟩)
    · have l20 : 0 < l2.length := List.length_pos_iff.mpr c2
      obtain ⟨v1, v2⟩ := dv c1 c2
      have q1 := slp_le (l := l1) r10 (show r1 ≤ 1000000000000 by omega) (show m ≤ 50000 by omega)
      have q2 := slp_le (l := l2) r20 (show r2 ≤ 1000000000000 by omega) (show m ≤ 50000 by omega)
      walk_at "w"
      rw [show r1 * ((m : Int) / l1.length) = slp l1 r1 m from rfl, show r2 * ((m : Int) / l2.length) = slp l2 r2 m from rfl]
      by_cases hc : slp l1 r1 m - slp l2 r2 m ≤ 0
      · walk_at "w"
        exact k none _ e (.inl ⟨rfl, above_le c1 c2 S1 S2 m0 v1 v2 hw2 hc⟩)
      · walk_at "w"
        refine for_range (lo := (S : Int) + 1) (Pv := fun i σ' H3 => ∃ (o : Option Int) (x y z : Option V), σ' = [some (.ref a1), some (.ref a2), some (.int S), some (.int m), x, some (.int (slp l1 r1 m - slp l2 r2 m)), some (optV o), y, z] ∧ Ex H2 H3 ∧ ((i = 0 ∧ o = none) ∨ ∃ v, o = some v ∧ (∀ k, k < i → v ≤ seenV h1 l1 r1 h2 l2 r2 S m k) ∧ ∃ k, k < i ∧ v = seenV h1 l1 r1 h2 l2 r2 S m k))
          ⟨none, _, _, _, rfl, Ex.refl _, .inl ⟨rfl, rfl⟩⟩ ?_ ?_
        · rintro i σ' H3 hi ⟨o, x, y, z, rfl, e3, ho⟩
          walk_at "w"
          refine ⟨h2, l2, r2, some ((S : Int) + 1 + (i : Int)), dp_of_raw (ex_t e3 V1) (ex_t e3 V2) (ex_t e3 V3), dp_of_opt (p := some _), fun n hn => by cases hn; omega, A2.val.sm, fun v H4 e4 q4 => ?_⟩
          rw [vatS S i c2] at q4
          obtain rfl := dp_toOpt q4
          walk_at "w"
          have e' := e3.trans e4
          refine ⟨h1, l1, r1, some ((S : Int) + 1 + (i : Int)), dp_of_raw (ex_t e' U1) (ex_t e' U2) (ex_t e' U3), dp_of_opt (p := some _), fun n hn => by cases hn; omega, A1.val.sm, fun v H5 e5 q5 => ?_⟩
          rw [vatS S i c1] at q5
          obtain rfl := dp_toOpt q5
          simp only [optV]
          walk_at "w"
          rw [show ((S : Int) + 1 + i + ((fV h2 l2 r2 (S + i) - fV h1 l1 r1 (S + i)) / (slp l1 r1 m - slp l2 r2 m) + 1) * m) = seenV h1 l1 r1 h2 l2 r2 S m i from rfl]
          rcases ho with ⟨rfl, rfl⟩ | ⟨v, rfl, hv1, k0, hk0, hv2⟩
          · simp only [optV]
            walk_at "w"
            refine ⟨some _, _, _, _, rfl, e'.trans e5, .inr ⟨_, rfl, fun k hk => ?_, 0, by omega, rfl⟩⟩
            have : k = 0 := by omega
            subst this
            exact Int.le_refl _
          · simp only [optV]
            walk_at "w"
            refine ⟨some _, _, _, _, rfl, e'.trans e5, .inr ⟨_, rfl, fun k hk => ?_, ?_⟩⟩
            · by_cases c : k = i
              · rw [c]; omega
              · have := hv1 k (by omega); omega
            · rcases Int.le_total v (seenV h1 l1 r1 h2 l2 r2 S m i) with g | g
              · exact ⟨k0, by omega, by rw [Int.min_eq_left g]; exact hv2⟩
              · exact ⟨i, by omega, by rw [Int.min_eq_right g]⟩
        · rintro σ' H3 ⟨o, x, y, z, rfl, e3, ho⟩
          rw [show ((S : Int) + m + 1 - ((S : Int) + 1)).toNat = m by omega] at ho
          walk_at "w"
          rcases ho with ⟨z0, _⟩ | ⟨v, rfl, hv1, k0, hk0, hv2⟩
          · omega
          · exact k (some v) _ (e.trans e3) (above_gt c1 c2 S1 S2 m0 v1 v2 hw2 (by omega) hv1 ⟨k0, hk0, hv2⟩)

theorem bn_first_second : ((("first" : Str) = "second")) = False := eq_false (by decide +kernel)
theorem bn_first_place : ((("first" : Str) = "place")) = False := eq_false (by decide +kernel)
theorem bn_first_sides : ((("first" : Str) = "sides")) = False := eq_false (by decide +kernel)
theorem bn_first_holds : ((("first" : Str) = "holds")) = False := eq_false (by decide +kernel)
theorem bn_second_first : ((("second" : Str) = "first")) = False := eq_false (by decide +kernel)
theorem bn_second_place : ((("second" : Str) = "place")) = False := eq_false (by decide +kernel)
theorem bn_second_sides : ((("second" : Str) = "sides")) = False := eq_false (by decide +kernel)
theorem bn_second_holds : ((("second" : Str) = "holds")) = False := eq_false (by decide +kernel)
theorem bn_place_first : ((("place" : Str) = "first")) = False := eq_false (by decide +kernel)
theorem bn_place_second : ((("place" : Str) = "second")) = False := eq_false (by decide +kernel)
theorem bn_place_sides : ((("place" : Str) = "sides")) = False := eq_false (by decide +kernel)
theorem bn_place_holds : ((("place" : Str) = "holds")) = False := eq_false (by decide +kernel)
theorem bn_sides_first : ((("sides" : Str) = "first")) = False := eq_false (by decide +kernel)
theorem bn_sides_second : ((("sides" : Str) = "second")) = False := eq_false (by decide +kernel)
theorem bn_sides_place : ((("sides" : Str) = "place")) = False := eq_false (by decide +kernel)
theorem bn_sides_holds : ((("sides" : Str) = "holds")) = False := eq_false (by decide +kernel)
theorem bn_holds_first : ((("holds" : Str) = "first")) = False := eq_false (by decide +kernel)
theorem bn_holds_second : ((("holds" : Str) = "second")) = False := eq_false (by decide +kernel)
theorem bn_holds_place : ((("holds" : Str) = "place")) = False := eq_false (by decide +kernel)
theorem bn_holds_sides : ((("holds" : Str) = "sides")) = False := eq_false (by decide +kernel)
theorem bnR (a : Str) : (a = a) = True := eq_self a
local macro_rules | `(tactic| walk_at "hp") => `(tactic| first
  | with_reducible assumption
  | (with_reducible refine' ex_tab ?a ?b; (case a => with_reducible assumption); (case b => walk_at "hp")))
local macro_rules | `(tactic| walk_at "lk") => `(tactic| first | (simp only [lookup_putF, bn_first_second, bn_first_place, bn_first_sides, bn_first_holds, bn_second_first, bn_second_place, bn_second_sides, bn_second_holds, bn_place_first, bn_place_second, bn_place_sides, bn_place_holds, bn_sides_first, bn_sides_second, bn_sides_place, bn_sides_holds, bn_holds_first, bn_holds_second, bn_holds_place, bn_holds_sides, bnR, if_true, if_false]; done) | (simp only [lookup_putF, bn_first_second, bn_first_place, bn_first_sides, bn_first_holds, bn_second_first, bn_second_place, bn_second_sides, bn_second_holds, bn_place_first, bn_place_second, bn_place_sides, bn_place_holds, bn_sides_first, bn_sides_second, bn_sides_place, bn_sides_holds, bn_holds_first, bn_holds_second, bn_holds_place, bn_holds_sides, bnR, if_true, if_false]; rfl))
theorem sq_updi {K : PySem.W.Frag} {H : Hp} {p a C dx : Addr} {fs : List (Str × V)} {o : HO} {xs : List V} (hp : H p = some (.ins C dx fs)) (s : SqT K H a xs) : SqT K (upd H p o) a xs := by
  have key : ∀ u, H a = some u → (∃ o', u = .frz o' (.tup xs)) ∨ u = .tup xs → a ≠ p := by
    rintro u hu hc rfl
    rw [hp] at hu
    cases hu
    rcases hc with ⟨_, hc⟩ | hc <;> cases hc
  rcases s with (s | ⟨o', s⟩) | s
  · exact .inl (.inl (by rw [upd_ne (key _ s (.inr rfl))]; exact s))
  · exact .inl (.inr ⟨o', by rw [upd_ne (key _ s (.inl ⟨o', rfl⟩))]; exact s⟩)
  · exact .inr s
theorem tab_updi {K : PySem.W.Frag} {H : Hp} {p x C dx : Addr} {fs : List (Str × V)} {o : HO} {h l : List Int} {r : Int} (hp : H p = some (.ins C dx fs)) (ne : x ≠ p) (t : TabAt K H x h l r) : TabAt K (upd H p o) x h l r := by
  obtain ⟨d, th, tl, h1, h2, h3⟩ := t
  exact ⟨d, th, tl, by rw [upd_ne ne]; exact h1, sq_updi hp h2, sq_updi hp h3⟩
abbrev spVer (K : PySem.W.Frag) : Sp := sp2 fun x v H Q _ => ∃ p C dx fs, x = .ref p ∧ H p = some (.ins C dx fs) ∧ Cls K C ∧ NoAttr K C "holds" ∧ fs.length < 1000 ∧ Q .non (upd H p (.ins C dx (putF "holds" v fs)))
abbrev N_Verdict_init : List Str := ["self", "holds"]
theorem sc_Verdict_init : FnScope N_Verdict_init ["self", "holds"] (defScope s_Verdict_init) := ⟨rfl, rfl, rfl, by decide +kernel, rfl, by decide +kernel, by decide +kernel⟩
theorem fx_Verdict_init {P : Program} {w : World} {K : PySem.W.Frag} {mg : Str → Option Value} {base : Heap} (E : Env P K mg) : ∃ fd, FunD K "__init__" "Verdict.__init__" (defArgs s_Verdict_init) (defBody s_Verdict_init) (defScope s_Verdict_init) (d_Verdict_init.dvs K) [] (d_Verdict_init.adr K) fd ∧ FnOk P w K mg base CX0 1 (d_Verdict_init.adr K) fd ["self", "holds"] (spVer K) := by
  obtain ⟨fd, F⟩ := E.dd_Verdict_init
  refine ⟨fd, F, fnok0 F sc_Verdict_init sp2_len (fun cdv A outer s H vs Q X hr h => ?_)⟩
  have nd := sc_Verdict_init.nd
  obtain ⟨v0, v1, rfl, h⟩ := h
  refine ⟨_, (pss_one (kFldS K (ps_fld (pv 0) (pv 1) rfl))), ?_⟩
  change (_ : TS) _ [some v0, some v1] H
  try dsimp only [cxOf, Cx.nox, Cx.blk]
  obtain ⟨p, C, dx, fs, rfl, hp, hc, hn, hl, k⟩ := h
  walk_at "w"
  refine r_putF hp hc hn hl ?_
  walk_at "w"
  exact k
abbrev spVerB (K : PySem.W.Frag) : Sp := sp1 fun x H Q _ => ∃ p C dx fs b, x = .ref p ∧ H p = some (.ins C dx fs) ∧ Cls K C ∧ NoAttr K C "holds" ∧ fs.lookup ("holds" : Str) = some (.bl b) ∧ Q (.bl b) H
/-- what below tells -/
def BelAt (K : PySem.W.Frag) (H : Hp) (x f s : Addr) (o v1 v2 : Option Int) : Prop := ∃ dx fs sd, H x = some (.ins (He.ga K "Below") dx fs) ∧ fs.lookup ("first" : Str) = some (.ref f) ∧ fs.lookup ("second" : Str) = some (.ref s) ∧ fs.lookup ("place" : Str) = some (optV o) ∧ fs.lookup ("sides" : Str) = some sd ∧
  fs.lookup ("holds" : Str) = some (.bl (decide (o = none))) ∧ ((o = none ∧ sd = .non) ∨ (o ≠ none ∧ ∃ t, sd = .ref t ∧ SqT K H t [optV v1, optV v2]))
theorem ex_bel {K : PySem.W.Frag} {H H' : Hp} {x f s : Addr} {o v1 v2 : Option Int} (e : Ex H H') (b : BelAt K H x f s o v1 v2) : BelAt K H' x f s o v1 v2 := by
  obtain ⟨dx, fs, sd, h1, h2, h3, h4, h5, h6, h7⟩ := b
  refine ⟨dx, fs, sd, e _ _ h1, h2, h3, h4, h5, h6, h7.imp id fun ⟨a, t, b, c⟩ => ⟨a, t, b, ex_t e c⟩⟩
abbrev spBel (K : PySem.W.Frag) : Sp := sp3 fun x a b H Q _ => ∃ (p f s dx : Addr) (h1 l1 h2 l2 : List Int) (r1 r2 : Int), x = .ref p ∧ a = .ref f ∧ b = .ref s ∧ H p = some (.ins (He.ga K "Below") dx []) ∧ TabAt K H f h1 l1 r1 ∧ TabAt K H s h2 l2 r2 ∧ SmP h1 l1 r1 ∧ SmP h2 l2 r2 ∧ l1.length * l2.length ≤ 20000 ∧
  ∀ H' o, Lst (TV h1 l1 r1) (TV h2 l2 r2) o → BelAt K H' p f s o (valueAt h1 l1 r1 o) (valueAt h2 l2 r2 o) → (∀ a u, a ≠ p → H a = some u → H' a = some u) → Q .non H'
abbrev N_Below_init : List Str := ["self", "first", "second", "__class__"]
abbrev pre_Below_init : List Stmt := (defBody s_Below_init).dropLast
theorem sc_Below_init : NdefX.NScope N_Below_init ["self", "first", "second"] ["__class__"] (defScope s_Below_init) := NdefX.nscope_by (by decide +kernel)
theorem fx_Below_init {P : Program} {w : World} {K : PySem.W.Frag} {mg : Str → Option Value} {base : Heap} (E : Env P K mg) : ∃ fd, FunS K "__init__" "Below.__init__" (defArgs s_Below_init) (defBody s_Below_init) (defScope s_Below_init) (d_Below_init.adr K) fd (cellOf K (d_Below_init.adr K)) (codeOf K (d_Below_init.adr K)) ∧ FnOk P w K mg base CX0 4 (d_Below_init.adr K) fd ["self", "first", "second"] (spBel K) := by
  obtain ⟨fd, F⟩ := E.dd_Below_init
  obtain ⟨fd2, FF2, F2⟩ := fx_Verdict_init (P := P) (w := w) (base := base) E
  refine ⟨fd, F, fnsup (pre := pre_Below_init) (k2 := 1) F E.sup_Below (F2.raw (FF2.bindsN (ps := ["self", "holds"]) (fun _ _ _ _ _ _ us hl => match us, hl with | [_, _], _ => rfl)) .nil) (by decide) rfl sc_Below_init (by decide +kernel) rfl rfl rfl sp3_len (fun A outer s H vs Q X hr h => ?_)⟩
  have nd := sc_Below_init.nd
  obtain ⟨v0, v1, v2, rfl, h⟩ := h
  refine ⟨_, _, (pss_cons (kFldS K (ps_fld (pv 0) (pv 1) rfl))
  (pss_cons (kFldS K (ps_fld (pv 0) (pv 2) rfl))
  (pss_cons (kFldS K (ps_fld (pv 0) (pc (ok_least_above E) hr (by decide) pass0 rfl (pa_cons (pmt0 (ok_Table_raw E) hr (by decide) pass0 (pv 1)) (pa_cons (pmt0 (ok_Table_raw E) hr (by decide) pass0 (pv 2)) pa_nil))) rfl))
  (pss_cons (kFldS K (ps_fld (pv 0) (pe_non) rfl))
  (pss_one (ps_if (pt_cmpR xIsNot (kFld K (pv 0) rfl) (pe_non) (nomark _))
   (pss_one (kFldS K (ps_fld (pv 0) (pe_tup (pa_cons (pcl (ok_Table_call E) hr (by decide) (pv 1) (pa_cons (kFld K (pv 0) rfl) pa_nil)) (pa_cons (pcl (ok_Table_call E) hr (by decide) (pv 2) (pa_cons (kFld K (pv 0) rfl) pa_nil)) pa_nil))) rfl)))
   pss_nil)))))), pe_cmpR xIs (kFld K (pv 0) rfl) (pe_non) (nomark _), ?_⟩
  change (_ : TS) _ [some v0, some v1, some v2, some (.ref (He.ga K "Below"))] H
  try dsimp only [cxOf, NdefX.ncx, Cx.nox, Cx.blk]
  obtain ⟨p, f, s', dx, h1, l1, h2, l2, r1, r2, rfl, rfl, rfl, hp, tf, ts, A1, A2, AZ, k⟩ := h
  have tne : ∀ {x : Addr} {h l : List Int} {r : Int}, TabAt K H x h l r → x ≠ p := by
    rintro x h l r ⟨d, th, tl, e, _⟩ rfl
    rw [hp] at e
    have e2 := Option.some.inj e
    injection e2 with _ _ e3
    have := tFlds_head th tl r
    rw [← e3] at this
    cases this
  have nf := tne tf
  have ns := tne ts
  clear tne
  have stp : ∀ {H2 : Hp} {fs : List (Str × V)} (o : HO), H2 p = some (.ins (He.ga K "Below") dx fs) → TabAt K H2 f h1 l1 r1 → TabAt K H2 s' h2 l2 r2 → ∃ H3, upd H2 p o = H3 ∧ H3 p = some o ∧ TabAt K H3 f h1 l1 r1 ∧ TabAt K H3 s' h2 l2 r2 ∧ ∀ a u, a ≠ p → H2 a = some u → H3 a = some u :=
    fun {H2 fs} o hp t1 t2 => ⟨_, rfl, upd_same, tab_updi hp nf t1, tab_updi hp ns t2, fun a u ne e => by rw [upd_ne ne]; exact e⟩
  have len : ∀ {f : Str} {y : V} {fs : List (Str × V)} {n : Nat}, fs.length ≤ n → (putF f y fs).length ≤ n + 1 := fun h => Nat.le_trans (putF_len _ _ _) (Nat.succ_le_succ h)
  walk_at "w"
  refine r_putF hp E.c_Below E.na_Below_first (by decide) ?_
  obtain ⟨H1, e1, g1, t1, u1, k1⟩ := stp (.ins (He.ga K "Below") dx (putF "first" (.ref f) [])) hp tf ts
  have z1 : (putF ("first" : Str) (V.ref f) []).length ≤ 1 := putF_len _ _ _
  rw [e1]
  clear e1 hp tf ts
  walk_at "w"
  refine r_putF g1 E.c_Below E.na_Below_second (by omega) ?_
  have z2 := len (f := "second") (y := .ref s') z1
  obtain ⟨H2, e2, g2, t2, u2, k2⟩ := stp (.ins (He.ga K "Below") dx (putF "second" (.ref s') (putF "first" (.ref f) []))) g1 t1 u1
  rw [e2]
  clear e2 g1 t1 u1
  walk_at "w"
  obtain ⟨dx1, th1, tl1, i1, _⟩ := id t2
  refine r_meth i1 (tFlds_no (by decide) (by decide) (by decide)) ?_
  walk_at "w"
  refine w_callM1 ⟨f, h1, l1, r1, rfl, t2, fun v1 Ha ea da => ?_⟩
  walk_at "w"
  obtain ⟨dx2, th2, tl2, i2, _⟩ := id (ex_tab ea u2)
  refine r_meth i2 (tFlds_no (by decide) (by decide) (by decide)) ?_
  walk_at "w"
  refine w_callM1 ⟨s', h2, l2, r2, rfl, ex_tab ea u2, fun v2 Hb eb db => ?_⟩
  walk_at "w"
  refine ⟨h1, l1, h2, l2, r1, r2, dp_ex eb da, db, A1, A2, AZ, fun o Hc ec lo => ?_⟩
  have ee := (ea.trans eb).trans ec
  have g3 := ee _ _ g2
  have t3 := ex_tab ee t2
  have u3 := ex_tab ee u2
  clear g2 t2 u2 i1 i2 da db
  walk_at "w"
  refine r_putF g3 E.c_Below E.na_Below_place (by omega) ?_
  have z3 := len (f := "place") (y := optV o) z2
  obtain ⟨H4, e4, g4, t4, u4, k4⟩ := stp (.ins (He.ga K "Below") dx (putF "place" (optV o) (putF "second" (.ref s') (putF "first" (.ref f) [])))) g3 t3 u3
  rw [e4]
  clear e4 g3 t3 u3
  walk_at "w"
  refine r_putF g4 E.c_Below E.na_Below_sides (by omega) ?_
  have z4 := len (f := "sides") (y := .non) z3
  obtain ⟨H5, e5, g5, t5, u5, k5⟩ := stp (.ins (He.ga K "Below") dx (putF "sides" .non (putF "place" (optV o) (putF "second" (.ref s') (putF "first" (.ref f) []))))) g4 t4 u4
  rw [e5]
  clear e5 g4 t4 u4
  have kk : ∀ a u, a ≠ p → H a = some u → H5 a = some u := fun a u ne e => k5 a u ne (k4 a u ne (ee _ _ (k2 a u ne (k1 a u ne e))))
  clear k1 k2 k4 k5
  walk_at "w"
  refine r_getF g5 E.c_Below E.na_Below_place (v := optV o) (by walk_at "lk") ?_
  walk_at "w"
  cases o with
  | none =>
    simp only [optV] at g5 z3 z4 ⊢
    walk_at "w"
    refine ⟨p, dx, _, rfl, g5, ?_⟩
    walk_at "w"
    refine r_getF g5 E.c_Below E.na_Below_place (v := .non) (by walk_at "lk") ?_
    walk_at "w"
    refine ⟨p, _, dx, _, rfl, g5, E.c_Below, E.na_Below_holds, by omega, ?_⟩
    refine k _ none lo ⟨dx, _, .non, upd_same, by walk_at "lk", by walk_at "lk", by walk_at "lk", by walk_at "lk", by walk_at "lk", .inl ⟨rfl, rfl⟩⟩ fun a u ne e => ?_
    rw [upd_ne ne]
    exact kk a u ne e
  | some n =>
    have n0 := lo.nn
    simp only [optV] at g5 z3 z4 ⊢
    walk_at "w"
    obtain ⟨dx1, _, _, i1, _⟩ := id t5
    refine r_getF g5 E.c_Below E.na_Below_place (v := .int n) (by walk_at "lk") ?_
    walk_at "w"
    refine r_callO1 i1 ?_
    refine ⟨f, h1, l1, r1, some n, rfl, t5, rfl, n0, A1.val.sm, fun w Hd ed dd => ?_⟩
    obtain rfl := dp_toOpt dd
    walk_at "w"
    refine r_getF (ed _ _ g5) E.c_Below E.na_Below_place (v := .int n) (by walk_at "lk") ?_
    walk_at "w"
    obtain ⟨dx2, _, _, i2, _⟩ := id (ex_tab ed u5)
    refine r_callO1 i2 ?_
    refine ⟨s', h2, l2, r2, some n, rfl, ex_tab ed u5, rfl, n0, A2.val.sm, fun w Hg ee2 de => ?_⟩
    obtain rfl := dp_toOpt de
    walk_at "w"
    intro pt Hf nt ef hf
    have e5f := (ed.trans ee2).trans ef
    have g6 := e5f _ _ g5
    have st : SqT K Hf pt [optV (valueAt h1 l1 r1 (some n)), optV (valueAt h2 l2 r2 (some n))] := st_of hf
    walk_at "w"
    refine r_putF g6 E.c_Below E.na_Below_sides (by omega) ?_
    have z5 := len (f := "sides") (y := .ref pt) z4
    have st2 := sq_updi (o := .ins (He.ga K "Below") dx (putF "sides" (.ref pt) (putF "sides" .non (putF "place" (.int n) (putF "second" (.ref s') (putF "first" (.ref f) [])))))) g6 st
    walk_at "w"
    refine ⟨p, dx, _, rfl, upd_same, ?_⟩
    walk_at "w"
    refine r_getF upd_same E.c_Below E.na_Below_place (v := .int n) (by walk_at "lk") ?_
    walk_at "w"
    refine ⟨p, _, dx, _, rfl, upd_same, E.c_Below, E.na_Below_holds, by omega, ?_⟩
    refine k _ (some n) lo ⟨dx, _, .ref pt, upd_same, by walk_at "lk", by walk_at "lk", by walk_at "lk", by walk_at "lk", by walk_at "lk", .inr ⟨by simp, pt, rfl, sq_updi upd_same st2⟩⟩ fun a u ne e => ?_
    rw [upd_ne ne, upd_ne ne]
    exact e5f _ _ (kk a u ne e)

local macro_rules | `(tactic| walk_at "hp") => `(tactic| first
  | with_reducible assumption
  | (with_reducible refine' ex_tab ?a ?b; (case a => with_reducible assumption); (case b => walk_at "hp")))
/-- Below(..) made -/
theorem mk_bel {K : PySem.W.Frag} {H : Hp} {Q : VK} {f s : Addr} {h1 l1 h2 l2 : List Int} {r1 r2 : Int} (tf : TabAt K H f h1 l1 r1) (ts : TabAt K H s h2 l2 r2) (A1 : SmP h1 l1 r1) (A2 : SmP h2 l2 r2) (AZ : l1.length * l2.length ≤ 20000)
    (q : ∀ x H2 o, Ex H H2 → Lst (TV h1 l1 r1) (TV h2 l2 r2) o → BelAt K H2 x f s o (valueAt h1 l1 r1 o) (valueAt h2 l2 r2 o) → Q (.ref x) H2) : MakeI (He.ga K "Below") (spBel K) [] E0 [.ref f, .ref s] H Q := by
  intro x dx nx ndx ne
  have ex : Ex H (upd (upd H dx (.own x)) x (.ins (He.ga K "Below") dx [])) := fun b o e => by
    rw [upd_ne (ne_of_none e nx), upd_ne (ne_of_none e ndx)]
    exact e
  refine ⟨_, _, _, rfl, x, f, s, dx, h1, l1, h2, l2, r1, r2, rfl, rfl, rfl, upd_same, ex_tab ex tf, ex_tab ex ts, A1, A2, AZ, fun H' o lo b k => ⟨rfl, q x H' o (fun b' o' e => ?_) lo b⟩⟩
  exact k b' o' (ne_of_none e nx) (ex b' o' e)
theorem ok_Below2 {P : Program} {w : World} {K : PySem.W.Frag} {mg : Str → Option Value} {base : Heap} (E : Env P K mg) : Mkc P w K mg base CX0 4 "Below" (He.ga K "Below") (spBel K) [] := by
  obtain ⟨fd, F, k⟩ := fx_Below_init (P := P) (w := w) (base := base) E
  exact ⟨_, fd, _, [], E.mk_Below, k, E.g_Below, F.bindsN (fun _ _ _ _ _ _ us hl => match us, hl with | [_, _, _], _ => rfl), .nil⟩
abbrev N_below : List Str := ["first", "second"]
theorem sc_below : FnScope N_below ["first", "second"] (defScope s_below) := ⟨rfl, rfl, rfl, by decide +kernel, rfl, by decide +kernel, by decide +kernel⟩
theorem ok_below {P : Program} {w : World} {K : PySem.W.Frag} {mg : Str → Option Value} {base : Heap} (E : Env P K mg) : Fn P w K mg base CX0 6 "below" (sp2 fun a b H Q _ => ∃ (f s : Addr) (h1 l1 h2 l2 : List Int) (r1 r2 : Int), a = .ref f ∧ b = .ref s ∧ TabAt K H f h1 l1 r1 ∧ TabAt K H s h2 l2 r2 ∧ SmP h1 l1 r1 ∧ SmP h2 l2 r2 ∧ l1.length * l2.length ≤ 20000 ∧ ∀ x H2 o, Ex H H2 → Lst (TV h1 l1 r1) (TV h2 l2 r2) o → BelAt K H2 x f s o (valueAt h1 l1 r1 o) (valueAt h2 l2 r2 o) → Q (.ref x) H2) := by
  obtain ⟨fd, F⟩ := E.dd_below
  refine Fn.mk0 F E.g_below sc_below sp2_len (fun _ _ _ _ _ _ us hl => match us, hl with | [_, _], _ => rfl) (fun cdv A outer s H vs Q X hr h => ?_)
  have nd := sc_below.nd
  obtain ⟨v0, v1, rfl, h⟩ := h
  refine ⟨_, (pss_one (ps_ret (pmk (ok_Below2 E) hr (by decide) pass0 rfl (pa_cons (pv 0) (pa_cons (pv 1) pa_nil))))), ?_⟩
  change (_ : TS) _ [some v0, some v1] H
  try dsimp only [cxOf, Cx.nox, Cx.blk]
  obtain ⟨f, s', h1, l1, h2, l2, r1, r2, rfl, rfl, tf, ts, A1, A2, AZ, k⟩ := h
  walk_at "w"
  exact mk_bel tf ts A1 A2 AZ k

theorem mul_as {ha la hb lb hc lc h1 l1 h2 l2 : List Int} {ra rb rc r1 r2 : Int} (VA : Val ha la ra) (VB : Val hb lb rb) (VC : Val hc lc rc) (X : Pl (CV ha la ra (TV hb lb rb)) h1 l1 r1) (Y : Pl (CV hb lb rb (TV hc lc rc)) h2 l2 r2) :
    CV h1 l1 r1 (TV hc lc rc) = CV ha la ra (TV h2 l2 r2) := funext fun j => by
  show valueAt h1 l1 r1 (TV hc lc rc j) = valueAt ha la ra (TV h2 l2 r2 j)
  rw [comp_at VA VB X ((Gd.of VC).nn j), Y.tv]
  rfl
theorem mul_jl {w : Bool} {ha la hb lb hc lc h l : List Int} {ra rb rc r : Int} (VA : Val ha la ra) (VB : Val hb lb rb) (VC : Val hc lc rc) (X : Pl (JV w (TV ha la ra) (TV hb lb rb)) h l r) :
    CV h l r (TV hc lc rc) = JV w (CV ha la ra (TV hc lc rc)) (CV hb lb rb (TV hc lc rc)) := funext fun j => join_at VA VB X ((Gd.of VC).nn j)
theorem mul_jr {w : Bool} {ha la hb lb hc lc h l : List Int} {ra rb rc r : Int} (VA : Val ha la ra) (VB : Val hb lb rb) (VC : Val hc lc rc) (X : Pl (JV w (TV ha la ra) (TV hb lb rb)) h l r) :
    CV hc lc rc (TV h l r) = JV w (CV hc lc rc (TV ha la ra)) (CV hc lc rc (TV hb lb rb)) := funext fun j => by
  show valueAt hc lc rc (TV h l r j) = _
  rw [X.tv]
  exact at_jn VC ((Gd.of VA).nn j) ((Gd.of VB).nn j)
/-- the shift by nothing -/
def IsId (f : Nat → Option Int) : Prop := ∀ j : Nat, f j = some ((j : Int) + 1)
theorem sh_id : IsId (TV (plainF (shH 0) (shL 0) 1).1 (plainF (shH 0) (shL 0) 1).2.1 (plainF (shH 0) (shL 0) 1).2.2) := fun j => by
  obtain ⟨_, b, _⟩ := plainF_val (sh_raw (k := 0) (by decide) (by decide)).val
  rw [b]
  have e1 : shH 0 = [] := rfl
  have e2 : shL 0 = [1] := rfl
  rw [e1, e2, tv_some (by simp), fV_loop (by simp)]
  unfold extL
  rw [show (([1] : List Int).length : Int) = 1 from rfl, Int.emod_one, Int.ediv_one]
  show some (gI [1] 0 + 1 * ((j : Int) - ((0 : Nat) : Int))) = _
  congr 1
  show (1 : Int) + 1 * ((j : Int) - ((0 : Nat) : Int)) = _
  omega
theorem mul_id {ha la hs ls : List Int} {ra rs : Int} (I : IsId (TV hs ls rs)) : CV ha la ra (TV hs ls rs) = TV ha la ra := funext fun j => by
  show valueAt ha la ra (TV hs ls rs j) = _
  rw [I j]
  exact vat_TV j
theorem id_mul {ha la hs ls : List Int} {ra rs : Int} (VS : Val hs ls rs) (VA : Val ha la ra) (I : IsId (TV hs ls rs)) : CV hs ls rs (TV ha la ra) = TV ha la ra := funext fun j => by
  show valueAt hs ls rs (TV ha la ra j) = TV ha la ra j
  have en : endOf ls rs = none := by
    have a := end_of_tab VS
    refine a.uniq ⟨fun j => leO_none, fun b hb => ?_⟩
    cases b with
    | none => rfl
    | some b =>
      have := hb (b.toNat)
      rw [I, leO_some] at this
      omega
  rcases at_cases ((Gd.of VA).nn j) with q | q | ⟨i, q⟩
  · rw [q]; exact en
  · rw [q]; exact vat_zero _ _ _
  · rw [q]
    exact (vat_TV i).trans (I i)
theorem low_le {a b : Option Int} : leO (jnO false a b) a = true ∧ leO (jnO false a b) b = true := by
  cases a <;> cases b
  · exact ⟨rfl, rfl⟩
  · rw [(jnF_none _).2]; exact ⟨leO_none, leO_refl _⟩
  · rw [(jnF_none _).1]; exact ⟨leO_refl _, leO_none⟩
  · rw [jnF_some, leO_some, leO_some]
    omega
theorem lst_none {f g : Nat → Option Int} {o : Option Int} (L : Lst f g o) (h : ∀ j, leO (f j) (g j) = true) : o = none := by
  rcases L with ⟨e, _⟩ | ⟨n, _, e, _⟩
  · exact e
  · rw [h n] at e; cases e
theorem Cmp.len {h1 l1 h2 l2 h l : List Int} {r1 r2 r : Int} (C : Cmp h1 l1 r1 h2 l2 r2 h l r) : l.length ≤ l2.length * l1.length + 1 := by
  by_cases c : l = []
  · subst c; exact Nat.zero_le _
  · rcases C.dv c with e | ⟨c1, c2, e⟩
    · omega
    · have a : 0 < l1.length := List.length_pos_iff.mpr c1
      have b : 0 < l2.length := List.length_pos_iff.mpr c2
      have := Nat.le_of_dvd (Nat.mul_pos b a) e
      omega
/-- tables for further products -/
structure Md (h l : List Int) (r : Int) : Prop where
  val : Val h l r
  zh : h.length ≤ 928
  zl : l.length ≤ 144
  br : r ≤ 1728
theorem Bs.md {h l : List Int} {r : Int} (X : Bs h l r) : Md h l r := ⟨X.val, by have := X.zh; omega, by have := X.zl; omega, by have := X.br; omega⟩
theorem Cmp.md {h1 l1 h2 l2 h l : List Int} {r1 r2 r : Int} (X : Bs h1 l1 r1) (Y : Bs h2 l2 r2) (C : Cmp h1 l1 r1 h2 l2 r2 h l r) : Md h l r := by
  obtain ⟨_, a, b, c⟩ := C.cl X Y
  exact ⟨C.pl.val, by omega, b, by omega⟩
theorem md_join {g : Bool} {h1 l1 h2 l2 h l : List Int} {r1 r2 r : Int} (X : Bs h1 l1 r1) (Y : Bs h2 l2 r2) (C : Cl 144 640 h l r) (P : Pl (JV g (TV h1 l1 r1) (TV h2 l2 r2)) h l r) : Md h l r :=
  ⟨C.val, C.zh, C.zl (by decide), join_br X Y (Nat.le_refl _) C P⟩
theorem zz_l {h1 l1 h2 l2 : List Int} {r1 r2 : Int} (X : Md h1 l1 r1) (Y : Bs h2 l2 r2) : h2.length + l2.length * (h1.length + l1.length + 1) ≤ 40000 := by
  have a := X.zh
  have b := X.zl
  have c := Y.zh
  have m := Nat.mul_le_mul Y.zl (show h1.length + l1.length + 1 ≤ 1073 by omega)
  omega
theorem zz_r {h1 l1 h2 l2 : List Int} {r1 r2 : Int} (X : Bs h1 l1 r1) (Y : Md h2 l2 r2) : h2.length + l2.length * (h1.length + l1.length + 1) ≤ 40000 := by
  have a := X.zh
  have b := X.zl
  have c := Y.zh
  have m := Nat.mul_le_mul Y.zl (show h1.length + l1.length + 1 ≤ 9 by omega)
  omega
theorem smp_l {h1 l1 h2 l2 h l : List Int} {r1 r2 r : Int} (X : Md h1 l1 r1) (Y : Bs h2 l2 r2) (C : Cmp h1 l1 r1 h2 l2 r2 h l r) : SmP h l r ∧ l.length ≤ 577 := by
  have a := X.zh
  have b := X.zl
  have c := Y.zh
  have m := Nat.mul_le_mul Y.zl (show h1.length + 1 ≤ 929 by omega)
  have m2 := Nat.mul_le_mul Y.zl b
  have z := C.zh
  have n := C.len
  have q := Int.mul_le_mul X.br Y.br Y.val.r0 (by decide)
  have br := C.br
  exact ⟨⟨C.pl.val, by omega, by omega, by omega⟩, by omega⟩
theorem smp_r {h1 l1 h2 l2 h l : List Int} {r1 r2 r : Int} (X : Bs h1 l1 r1) (Y : Md h2 l2 r2) (C : Cmp h1 l1 r1 h2 l2 r2 h l r) : SmP h l r ∧ l.length ≤ 577 := by
  have a := X.zh
  have c := Y.zh
  have m := Nat.mul_le_mul Y.zl (show h1.length + 1 ≤ 5 by omega)
  have m2 := Nat.mul_le_mul Y.zl X.zl
  have z := C.zh
  have n := C.len
  have q := Int.mul_le_mul X.br Y.br Y.val.r0 (by decide)
  have br := C.br
  exact ⟨⟨C.pl.val, by omega, by omega, by omega⟩, by omega⟩
theorem smp_b {h1 l1 h2 l2 h l : List Int} {r1 r2 r : Int} (X : Bs h1 l1 r1) (Y : Bs h2 l2 r2) (C : Cmp h1 l1 r1 h2 l2 r2 h l r) : SmP h l r ∧ l.length ≤ 17 := by
  have m2 := Nat.mul_le_mul Y.zl X.zl
  have n := C.len
  exact ⟨(smp_l X.md Y C).1, by omega⟩
theorem az_le {a b : Nat} (h : a ≤ 577) (h' : b ≤ 17) : a * b ≤ 20000 := Nat.le_trans (Nat.mul_le_mul h h') (by decide)

/-- raw data at u -/
def RwAt (K : PySem.W.Frag) (H : Hp) (u : Addr) (h l : List Int) (r : Int) : Prop := ∃ th tl, SqT K H u [.ref th, .ref tl, .int r] ∧ SqT K H th (vI h) ∧ SqT K H tl (vI l)
section
variable {K : PySem.W.Frag} {H H' : Hp} {u x : Addr} {h l : List Int} {r : Int}
theorem RwAt.of {v : V} (d : Dp K H v (dRaw h l r)) : ∃ u, v = .ref u ∧ RwAt K H u h l r := by
  obtain ⟨a, th, tl, e, s1, s2, s3⟩ := dp_raw d
  exact ⟨a, e, th, tl, s1, s2, s3⟩
theorem RwAt.dp (a : RwAt K H u h l r) : Dp K H (.ref u) (dRaw h l r) := by
  obtain ⟨th, tl, s1, s2, s3⟩ := a
  exact dp_of_raw s1 s2 s3
theorem RwAt.ex (e : Ex H H') (a : RwAt K H u h l r) : RwAt K H' u h l r := by
  obtain ⟨th, tl, s1, s2, s3⟩ := a
  exact ⟨th, tl, ex_t e s1, ex_t e s2, ex_t e s3⟩
theorem RwAt.fr (f : Fr x H H') (s : SrcAt H x) (a : RwAt K H u h l r) : RwAt K H' u h l r := by
  obtain ⟨th, tl, s1, s2, s3⟩ := a
  exact ⟨th, tl, fr_t f s s1, fr_t f s s2, fr_t f s s3⟩
end
/-- a pair of raw data -/
def PrAt (K : PySem.W.Frag) (H : Hp) (p : Addr) : Prop := ∃ (u v : Addr) (h l h' l' : List Int) (r r' : Int), SqT K H p [.ref u, .ref v] ∧ RwAt K H u h l r ∧ RwAt K H v h' l' r' ∧ RawOk h l r ∧ RawOk h' l' r'
theorem PrAt.fr {K : PySem.W.Frag} {H H' : Hp} {p x : Addr} (f : Fr x H H') (s : SrcAt H x) (a : PrAt K H p) : PrAt K H' p := by
  obtain ⟨u, v, h, l, h', l', r, r', t, a, b, A, B⟩ := a
  exact ⟨u, v, h, l, h', l', r, r', fr_t f s t, a.fr f s, b.fr f s, A, B⟩
theorem PrAt.ex {K : PySem.W.Frag} {H H' : Hp} {p : Addr} (e : Ex H H') (a : PrAt K H p) : PrAt K H' p := by
  obtain ⟨u, v, h, l, h', l', r, r', t, a, b, A, B⟩ := a
  exact ⟨u, v, h, l, h', l', r, r', ex_t e t, a.ex e, b.ex e, A, B⟩
abbrev spEqT (K : PySem.W.Frag) : Sp := sp2 fun x y H Q _ => ∃ p h l r, x = .ref p ∧ TabAt K H p h l r ∧ ((∃ q h' l' r', y = .ref q ∧ TabAt K H q h' l' r' ∧ RetD K (.bool (decide (h = h' ∧ l = l' ∧ r = r'))) H Q) ∨ (∃ n ∈ ["tuple", "list", "int", "NoneType", "str", "bool"], TyX K H y (.type n) ∧ RetD K (.bool false) H Q))
/-- a table with the values f in plain form -/
def TP (K : PySem.W.Frag) (H : Hp) (x : Addr) (f : Nat → Option Int) : Prop := ∃ h l r, TabAt K H x h l r ∧ Pl f h l r
theorem TP.ex {K : PySem.W.Frag} {H H' : Hp} {x : Addr} {f : Nat → Option Int} (e : Ex H H') (t : TP K H x f) : TP K H' x f := by
  obtain ⟨h, l, r, a, b⟩ := t
  exact ⟨h, l, r, ex_tab e a, b⟩
theorem TB.tp {PP N : Nat} {K : PySem.W.Frag} {H : Hp} {x : Addr} {f : Nat → Option Int} (t : TB PP N K H x f) : TP K H x f := by
  obtain ⟨h, l, r, a, b, c⟩ := t
  exact ⟨h, l, r, a, c⟩
theorem bs_tb {N : Nat} {K : PySem.W.Frag} {H : Hp} {x : Addr} {h l : List Int} {r : Int} (t : TabAt K H x h l r) (X : Bs h l r) (hN : 4 ≤ N) : TB 144 N K H x (TV h l r) := ⟨h, l, r, t, X.cl hN, X.val, X.pf, fun _ => rfl⟩
theorem cmp_tb {K : PySem.W.Frag} {H : Hp} {x : Addr} {h1 l1 h2 l2 h l : List Int} {r1 r2 r : Int} (t : TabAt K H x h l r) (X : Bs h1 l1 r1) (Y : Bs h2 l2 r2) (C : Cmp h1 l1 r1 h2 l2 r2 h l r) : TB 144 10240 K H x (CV h1 l1 r1 (TV h2 l2 r2)) := ⟨h, l, r, t, (C.cl X Y).1, C.pl⟩
section
variable {P : Program} {K : PySem.W.Frag} {mg : Str → Option Value} {H : Hp} {Q : VK}
theorem r_eqTP (E : Env P K mg) {x y : Addr} {f f' : Nat → Option Int} (t : TP K H x f) (t' : TP K H y f') (e : f = f') (q : ∀ H', Ex H H' → Q (.bl true) H') : rEqO K (He.ga K "Table") (spEqT K) (.ref x) (.ref y) H Q := by
  subst e
  obtain ⟨h, l, r, a, P⟩ := t
  obtain ⟨h', l', r', a', P'⟩ := t'
  obtain ⟨rfl, rfl, rfl⟩ := P.uniq P'
  obtain ⟨dx, th, tl, i, _⟩ := id a
  obtain ⟨dy, th2, tl2, j, _⟩ := id a'
  refine r_ownEq i (insB_ok E.ins_Table E.c_Table j) E.nf_Table_self ⟨x, h, l, r, rfl, a, .inl ⟨y, h, l, r, rfl, a', fun b H' e d => ?_⟩⟩
  rw [decide_eq_true ⟨rfl, rfl, rfl⟩] at d
  obtain rfl := dp_toBl d
  exact ⟨⟨_, rfl⟩, q H' e⟩
theorem r_opTB {g : Bool} {PP N : Nat} {x y : Addr} {f1 f2 : Nat → Option Int} (t1 : TB PP N K H x f1) (t2 : TB PP N K H y f2) (hP : 0 < PP) (zP : PP ≤ 2000) (zN : N ≤ 40000) (s12 : Sr PP N f1 f2) (s21 : Sr PP N f2 f1) (k : ∀ z H', Ex H H' → TB PP N K H' z (JV g f1 f2) → Q (.ref z) H') :
    rOwnB (He.ga K "Table") (spTB g K) (.ref x) (.ref y) H Q := by
  obtain ⟨dx, fs, i⟩ := t1.ins
  obtain ⟨dy, fs', j⟩ := t2.ins
  exact r_ownB i j ⟨PP, N, x, y, f1, f2, rfl, rfl, t1, t2, hP, zP, zN, s12, s21, fun z H' e t => ⟨⟨_, rfl⟩, k z H' e t⟩⟩
theorem r_joinB {g : Bool} {x y : Addr} {h1 l1 h2 l2 : List Int} {r1 r2 : Int} (t1 : TabAt K H x h1 l1 r1) (t2 : TabAt K H y h2 l2 r2) (X : Bs h1 l1 r1) (Y : Bs h2 l2 r2)
    (k : ∀ z H' h l r, Ex H H' → TabAt K H' z h l r → Md h l r → Pl (JV g (TV h1 l1 r1) (TV h2 l2 r2)) h l r → Q (.ref z) H') : rOwnB (He.ga K "Table") (spTB g K) (.ref x) (.ref y) H Q :=
  r_opTB (bs_tb t1 X (show 4 ≤ 640 by decide)) (bs_tb t2 Y (by decide)) (by decide) (by decide) (by decide) (X.sr Y) (Y.sr X) fun z H' e ⟨h, l, r, a, C, P⟩ => k z H' h l r e a (md_join X Y C P) P
theorem r_mulB {x y : Addr} {h1 l1 h2 l2 : List Int} {r1 r2 : Int} (t1 : TabAt K H x h1 l1 r1) (t2 : TabAt K H y h2 l2 r2) (X : Bs h1 l1 r1) (Y : Bs h2 l2 r2)
    (k : ∀ z H' h l r, Ex H H' → TabAt K H' z h l r → Cmp h1 l1 r1 h2 l2 r2 h l r → Q (.ref z) H') : rOwnB (He.ga K "Table") (spMul K) (.ref x) (.ref y) H Q :=
  r_mulT t1 t2 X.val Y.val (bs_zz X Y) (by have := X.br; omega) (by have := Y.br; omega) k
theorem r_mulL {x y : Addr} {h1 l1 h2 l2 : List Int} {r1 r2 : Int} (t1 : TabAt K H x h1 l1 r1) (t2 : TabAt K H y h2 l2 r2) (X : Md h1 l1 r1) (Y : Bs h2 l2 r2)
    (k : ∀ z H' h l r, Ex H H' → TabAt K H' z h l r → Cmp h1 l1 r1 h2 l2 r2 h l r → Q (.ref z) H') : rOwnB (He.ga K "Table") (spMul K) (.ref x) (.ref y) H Q :=
  r_mulT t1 t2 X.val Y.val (zz_l X Y) (by have := X.br; omega) (by have := Y.br; omega) k
theorem r_mulR {x y : Addr} {h1 l1 h2 l2 : List Int} {r1 r2 : Int} (t1 : TabAt K H x h1 l1 r1) (t2 : TabAt K H y h2 l2 r2) (X : Bs h1 l1 r1) (Y : Md h2 l2 r2)
    (k : ∀ z H' h l r, Ex H H' → TabAt K H' z h l r → Cmp h1 l1 r1 h2 l2 r2 h l r → Q (.ref z) H') : rOwnB (He.ga K "Table") (spMul K) (.ref x) (.ref y) H Q :=
  r_mulT t1 t2 X.val Y.val (zz_r X Y) (by have := X.br; omega) (by have := Y.br; omega) k
end

/-- the least count of further pieces behind which a value is above j -/
def Fst (f : Nat → Option Int) (j m : Nat) : Prop := leO (f m) (some (j : Int)) = false ∧ ∀ i, i < m → leO (f i) (some (j : Int)) = true
theorem Fst.uniq {f : Nat → Option Int} {j m n : Nat} (a : Fst f j m) (b : Fst f j n) : m = n := by
  rcases Nat.lt_trichotomy m n with h | h | h
  · have := b.2 m h; rw [a.1] at this; cases this
  · exact h
  · have := a.2 n h; rw [b.1] at this; cases this
/-- g is the turn of f -/
def IsTurn (f g : Nat → Option Int) : Prop := ∀ j : Nat, (g j = none ∧ ∀ m, leO (f m) (some (j : Int)) = true) ∨ ∃ m : Nat, g j = some (m : Int) ∧ Fst f j m
theorem IsTurn.gal {f g : Nat → Option Int} (G : Gd f) (T : IsTurn f g) (i j : Nat) : leO (f i) (some (j : Int)) = leO (some ((i : Int) + 1)) (g j) := by
  rcases T j with ⟨e, h⟩ | ⟨m, e, h1, h2⟩
  · rw [e, h i]; rfl
  · rw [e]
    by_cases c : i < m
    · rw [h2 i c]
      exact (leO_some.mpr (by omega)).symm
    · have q : leO (f i) (some (j : Int)) = false := by
        cases w : leO (f i) (some (j : Int)) with
        | false => rfl
        | true =>
          have := leO_trans (gd_mono G (show m ≤ i by omega)) w
          rw [h1] at this
          cases this
      rw [q]
      cases w : leO (some ((i : Int) + 1)) (some (m : Int)) with
      | false => rfl
      | true =>
        rw [leO_some] at w
        omega
theorem IsTurn.uniq {f g g' : Nat → Option Int} (a : IsTurn f g) (b : IsTurn f g') : g = g' := funext fun j => by
  rcases a j with ⟨e, h⟩ | ⟨m, e, h⟩
  · rcases b j with ⟨e', _⟩ | ⟨m', _, h'⟩
    · rw [e, e']
    · have := h m'; rw [h'.1] at this; cases this
  · rcases b j with ⟨_, h'⟩ | ⟨m', e', h'⟩
    · have := h' m; rw [h.1] at this; cases this
    · rw [e, e', h.uniq h']
/-- turned twice -/
theorem IsTurn.twice {f g : Nat → Option Int} (G : Gd f) (T : IsTurn f g) : IsTurn g f := fun j => by
  have gal := T.gal G j
  cases e : f j with
  | none =>
    refine .inl ⟨rfl, fun m => ?_⟩
    have := gal m
    rw [e] at this
    cases w : leO (g m) (some (j : Int)) with
    | true => rfl
    | false =>
      have n := leO_not (a := g m) (b := some (j : Int)) (by rw [w]; decide)
      cases q : g m with
      | none => rw [q] at this; cases this
      | some v =>
        rw [q, leO_some] at n
        rw [q] at w this
        have w2 : ¬ v ≤ (j : Int) := fun h => by rw [leO_some.mpr h] at w; cases w
        rw [leO_some.mpr (show (j : Int) + 1 ≤ v by omega)] at this
        cases this
  | some v =>
    obtain ⟨n, rfl⟩ := Int.eq_ofNat_of_zero_le (G.nn j v e)
    refine .inr ⟨n, rfl, ?_, fun i hi => ?_⟩
    · have := gal n
      rw [e, leO_some.mpr (Int.le_refl _)] at this
      cases w : leO (g n) (some (j : Int)) with
      | false => rfl
      | true =>
        have h := leO_trans this.symm w
        rw [leO_some] at h
        omega
    · have := gal i
      rw [e] at this
      cases w : leO (g i) (some (j : Int)) with
      | true => rfl
      | false =>
        have z : leO (some ((n : Nat) : Int)) (some (i : Int)) = false := by
          cases q : leO (some ((n : Nat) : Int)) (some (i : Int)) with
          | false => rfl
          | true => rw [leO_some] at q; omega
        cases q : g i with
        | none => rw [q] at this; rw [show leO (some ((n : Nat) : Int)) (some (i : Int)) = true from this] at z; cases z
        | some v =>
          rw [q] at w this
          have w2 : ¬ v ≤ (j : Int) := fun h => by rw [leO_some.mpr h] at w; cases w
          rw [leO_some.mpr (show (j : Int) + 1 ≤ v by omega)] at this
          rw [show leO (some ((n : Nat) : Int)) (some (i : Int)) = true from this] at z
          cases z
abbrev spCb (K : PySem.W.Frag) : Sp := sp2 fun a b H Q _ => ∃ (h l : List Int) (r : Int) (n M : Nat), Dp K H a (dRaw h l r) ∧ b = .int n ∧ n ≤ 50000 ∧ Val h l r ∧ (∀ j, j < n → leO (TV h l r M) (some (j : Int)) = false) ∧
  ∀ p H' (ms : List Int), H p = none → Ex H H' → H' p = some (.lst (vI ms)) → ms.length = n → (∀ j, j < n → ∃ m : Nat, gI ms j = m ∧ Fst (TV h l r) j m) → Q (.ref p) H'
abbrev N_counts_below : List Str := ["raw", "upto", "told", "many", "bound", "value"]
theorem sc_counts_below : FnScope N_counts_below ["raw", "upto"] (defScope s_counts_below) := ⟨rfl, rfl, rfl, by decide +kernel, rfl, by decide +kernel, by decide +kernel⟩
theorem ok_counts_below {P : Program} {w : World} {K : PySem.W.Frag} {mg : Str → Option Value} {base : Heap} (E : Env P K mg) : Fn P w K mg base CX0 3 "counts_below" (spCb K) := by
  obtain ⟨fd, F⟩ := E.dd_counts_below
  refine Fn.mk0 F E.g_counts_below sc_counts_below sp2_len (fun _ _ _ _ _ _ us hl => match us, hl with | [_, _], _ => rfl) (fun cdv A outer s H vs Q X hr h => ?_)
  have nd := sc_counts_below.nd
  obtain ⟨v0, v1, rfl, h⟩ := h
  refine ⟨_, (pss_cons (ps_set (i := 2) nd rfl (.inl rfl) (pe_lst (pa_nil)))
  (pss_cons (ps_set (i := 3) nd rfl (.inl rfl) (pe_int))
  (pss_cons (ps_for PassesOwn.never rfl (pi_range2 (by rfl) E.f_range (pa_cons (pe_int) (pa_cons (pe_op (kAdd K) (pv 1) (pe_int)) pa_nil))) (pg_name (i := 4) nd rfl (.inl rfl))
   (pss_cons (ps_set (i := 5) nd rfl (.inl rfl) (pc (ok_value_at E) hr (by decide) pass0 rfl (pa_cons (pv 0) (pa_cons (pe_op (kAdd K) (pv 3) (pe_int)) pa_nil))))
  (pss_cons (ps_while PassesOwn.never (PW.pt (pw_and (pt_cmpR xIsNot (pv 5) (pe_non) (nomark _)) (pw_and1 (pt_cmpR op_lt (pv 5) (pv 4) (nomark _)))))
   (pss_cons (ps_set (i := 3) nd rfl (.inl rfl) (pe_op (kAdd K) (pv 3) (pe_int)))
  (pss_one (ps_set (i := 5) nd rfl (.inl rfl) (pc (ok_value_at E) hr (by decide) pass0 rfl (pa_cons (pv 0) (pa_cons (pe_op (kAdd K) (pv 3) (pe_int)) pa_nil)))))))
  (pss_one (ps_expr (kBM K (pe_bm PySem.F.plainAttrs_list PySem.F.slot_list_append PySem.F.type_list_append mt_append (pv 2) (pa_cons (pv 3) pa_nil))))))))
  (pss_one (ps_ret (pv 2)))))), ?_⟩
  change (_ : TS) _ [some v0, some v1, none, none, none, none] H
  try dsimp only [cxOf, Cx.nox, Cx.blk]
  obtain ⟨h, l, r, n, M, d, rfl, zn, W, hM, k⟩ := h
  obtain ⟨a1, th, tl, rfl, s1, s2, s3⟩ := dp_raw d
  walk_at "w"
  intro p H1 n1 e1 g1
  walk_at "w"
  have G := Gd.of W
  refine for_range (lo := 1) (Pv := fun i σ' H' => ∃ (m : Nat) (ms : List Int) (x y : Option V), σ' = [some (.ref a1), some (.int n), some (.ref p), some (.int m), x, y] ∧ Ex H H' ∧ H' p = some (.lst (vI ms)) ∧ ms.length = i ∧ (∀ t, t < m → leO (TV h l r t) (some (i : Int)) = true) ∧ ∀ j, j < i → ∃ m : Nat, gI ms j = m ∧ Fst (TV h l r) j m)
    ⟨0, [], _, _, rfl, e1, g1, rfl, fun t ht => by omega, fun j hj => by omega⟩ ?_ ?_
  · rintro i σ' H' hi ⟨m0, ms, x, y, rfl, e, gp, hl, hm, hf⟩
    have hin : i < n := by omega
    walk_at "w"
    refine ⟨h, l, r, some ((m0 : Int) + 1), dp_of_raw (ex_t e s1) (ex_t e s2) (ex_t e s3), dp_of_opt (p := some _), fun q hq => by cases hq; omega, W.sm, fun v H2 e2 q2 => ?_⟩
    rw [show valueAt h l r (some ((m0 : Int) + 1)) = TV h l r m0 from vat_TV m0] at q2
    obtain rfl := dp_toOpt q2
    walk_at "w"
    refine ⟨fun w σ' H3 => ∃ m : Nat, σ' = [some (.ref a1), some (.int n), some (.ref p), some (.int m), some (.int (1 + (i : Int))), some (optV (TV h l r m))] ∧ Ex H2 H3 ∧ (∀ t, t < m → leO (TV h l r t) (some (i : Int)) = true) ∧ w = M - m, ⟨M - m0, m0, rfl, Ex.refl _, hm, rfl⟩, ?_⟩
    rintro w σ' H3 ⟨m, rfl, e3, hm', rfl⟩
    have e03 := (e.trans e2).trans e3
    have gp3 := e3 _ _ (e2 _ _ gp)
    have done : leO (TV h l r m) (some (i : Int)) = false → ∃ (m' : Nat) (ms' : List Int) (x y : Option V), [some (V.ref a1), some (.int n), some (.ref p), some (.int m), some (.int (1 + (i : Int))), some (optV (TV h l r m))] = [some (.ref a1), some (.int n), some (.ref p), some (.int m'), x, y] ∧ Ex H (upd H3 p (.lst (vI ms ++ [V.int m]))) ∧ upd H3 p (.lst (vI ms ++ [V.int m])) p = some (.lst (vI ms')) ∧ ms'.length = i + 1 ∧ (∀ t, t < m' → leO (TV h l r t) (some ((i + 1 : Nat) : Int)) = true) ∧ ∀ j, j < i + 1 → ∃ m : Nat, gI ms' j = m ∧ Fst (TV h l r) j m := fun hv => by
      refine ⟨m, ms ++ [(m : Int)], _, _, rfl, Ex.mut e03 n1, ?_, by rw [List.length_append, hl]; rfl, fun t ht => leO_trans (hm' t ht) (leO_some.mpr (by omega)), fun j hj => ?_⟩
      · rw [show vI (ms ++ [(m : Int)]) = vI ms ++ [V.int m] from List.map_append ..]
        exact upd_same
      · rw [gI_app]
        by_cases c : j < i
        · rw [if_pos (by omega)]
          exact hf j c
        · have : j = i := by omega
          subst this
          rw [if_neg (by omega), if_pos hl.symm]
          exact ⟨m, rfl, hv, hm'⟩
    have hs : SqL K H3 p (vI ms) := sq_of gp3
    cases hv : TV h l r m with
    | none =>
      rw [hv] at done
      simp only [optV] at done ⊢
      walk_at "w"
      refine r_app (K := K) gp3 (sz_lt (by rw [List.length_map]; omega)) ?_
      walk_at "w"
      exact done rfl
    | some v =>
      rw [hv] at done
      simp only [optV] at done ⊢
      walk_at "w"
      by_cases c : v < 1 + (i : Int)
      · walk_at "w"
        refine ⟨_, fun σ2 H2 h2 => h2, ?_⟩
        walk_at "w"
        have hle : leO (TV h l r m) (some (i : Int)) = true := by
          rw [hv, leO_some]
          omega
        have mM : m < M := by
          by_cases q : m < M
          · exact q
          · have := leO_trans (gd_mono G (show M ≤ m by omega)) hle
            rw [hM i hin] at this
            cases this
        refine ⟨h, l, r, some ((m : Int) + 1 + 1), dp_of_raw (ex_t e03 s1) (ex_t e03 s2) (ex_t e03 s3), dp_of_opt (p := some _), fun q hq => by cases hq; omega, W.sm, fun v' H4 e4 q4 => ?_⟩
        rw [show valueAt h l r (some ((m : Int) + 1 + 1)) = TV h l r (m + 1) by
          show vat h l r _ = _
          rw [show (m : Int) + 1 + 1 = ((m + 1 : Nat) : Int) + 1 by omega]
          exact vat_TV _] at q4
        obtain rfl := dp_toOpt q4
        walk_at "w"
        refine ⟨M - (m + 1), by omega, m + 1, rfl, e3.trans e4, fun t ht => ?_, rfl⟩
        by_cases q : t = m
        · subst q; exact hle
        · exact hm' t (by omega)
      · walk_at "w"
        refine r_app (K := K) gp3 (sz_lt (by rw [List.length_map]; omega)) ?_
        walk_at "w"
        exact done (decide_eq_false (by omega))
  · rintro σ' H' ⟨m, ms, x, y, rfl, e, gp, hl, _, hf⟩
    rw [show ((n : Int) + 1 - 1).toNat = n by omega] at hl hf
    walk_at "w"
    exact k p H' ms n1 e gp hl hf

theorem fst_ex {f : Nat → Option Int} {j : Nat} : ∀ {m : Nat}, leO (f m) (some (j : Int)) = false → ∃ n, Fst f j n ∧ n ≤ m := by
  intro m
  induction m using Nat.strongRecOn with
  | ind m ih =>
    intro h
    by_cases c : ∃ i, i < m ∧ leO (f i) (some (j : Int)) = false
    · obtain ⟨i, hi, hf⟩ := c
      obtain ⟨n, a, b⟩ := ih i hi hf
      exact ⟨n, a, by omega⟩
    · refine ⟨m, ⟨h, fun i hi => ?_⟩, Nat.le_refl _⟩
      cases w : leO (f i) (some (j : Int)) with
      | true => rfl
      | false => exact absurd ⟨i, hi, w⟩ c
/-- the turn -/
noncomputable def turnF (f : Nat → Option Int) (j : Nat) : Option Int := open Classical in if h : ∃ m, Fst f j m then some ((Classical.choose h : Nat) : Int) else none
theorem turnF_at {f : Nat → Option Int} {j m : Nat} (h : Fst f j m) : turnF f j = some (m : Int) := by
  have e : ∃ m, Fst f j m := ⟨m, h⟩
  unfold turnF
  rw [dif_pos e]
  rw [(Classical.choose_spec e).uniq h]
theorem turnF_no {f : Nat → Option Int} {j : Nat} (h : ∀ m, leO (f m) (some (j : Int)) = true) : turnF f j = none := by
  have e : ¬ ∃ m, Fst f j m := fun ⟨m, a⟩ => by
    have := h m
    rw [a.1] at this
    cases this
  unfold turnF
  rw [dif_neg e]
theorem turnF_is (f : Nat → Option Int) : IsTurn f (turnF f) := fun j => by
  by_cases c : ∀ m, leO (f m) (some (j : Int)) = true
  · exact .inl ⟨turnF_no c, c⟩
  · obtain ⟨m, hm⟩ := Classical.not_forall.mp c
    obtain ⟨n, h, _⟩ := fst_ex (f := f) (j := j) (m := m) (by cases w : leO (f m) (some (j : Int)) with | true => exact absurd w hm | false => rfl)
    exact .inr ⟨n, turnF_at h, h⟩
theorem turnF_gd (f : Nat → Option Int) : Gd (turnF f) := by
  refine ⟨fun j => ?_, fun j v e => ?_⟩
  · rcases turnF_is f j with ⟨e, h⟩ | ⟨m, e, h⟩
    · have : turnF f (j + 1) = none := turnF_no fun m => leO_trans (h m) (leO_some.mpr (by omega))
      rw [this]
      exact leO_none
    · rcases turnF_is f (j + 1) with ⟨e', _⟩ | ⟨m', e', h'⟩
      · rw [e']; exact leO_none
      · rw [e, e', leO_some]
        refine Int.ofNat_le.mpr (Nat.le_of_not_lt fun q => ?_)
        have := leO_trans (h.2 m' q) (leO_some.mpr (show (j : Int) ≤ ((j + 1 : Nat) : Int) by omega))
        rw [h'.1] at this
        cases this
  · rcases turnF_is f j with ⟨e', _⟩ | ⟨m, e', _⟩
    · rw [e] at e'; cases e'
    · rw [e] at e'; cases e'; omega
/-- the turn of a steady table goes on -/
theorem turn_per {h l : List Int} {r : Int} (V : Val h l r) (hl : l ≠ []) {j m : Nat} (hj : gI l 0 ≤ j) {rn : Nat} (er : r = rn) (F : Fst (TV h l r) j m) : Fst (TV h l r) (j + rn) (m + l.length) := by
  have l0 : 0 < l.length := List.length_pos_iff.mpr hl
  have e0 : fV h l r h.length = gI l 0 := by
    rw [fV_loop (Nat.le_refl _), show ((h.length : Int) - h.length) = ((0 : Nat) : Int) by omega, extL_small l0]
    rfl
  have per : ∀ i, h.length ≤ i → fV h l r (i + l.length) = fV h l r i + r := fun i hi => by rw [fV_per hl (Nat.dvd_refl _) hi, slp_self hl]
  have f1 : ¬ fV h l r m ≤ j := fun q => by
    have := F.1
    rw [tv_some hl, leO_some.mpr q] at this
    cases this
  have hm : h.length < m := by
    refine Nat.lt_of_not_le fun q => ?_
    have := fV_mono V hl q
    omega
  refine ⟨?_, fun i hi => ?_⟩
  · rw [tv_some hl, per m (by omega)]
    exact decide_eq_false (by omega)
  · rw [tv_some hl, leO_some]
    by_cases c : h.length + l.length ≤ i
    · obtain ⟨i', rfl⟩ : ∃ i', i = i' + l.length := ⟨i - l.length, by omega⟩
      have := F.2 i' (by omega)
      rw [tv_some hl, leO_some] at this
      rw [per i' (by omega)]
      omega
    · have := fV_mono V hl (show i ≤ h.length + l.length by omega)
      rw [per _ (Nat.le_refl _), e0] at this
      omega

/-- the last value of a table that ends -/
def lastV (h : List Int) : Int := if h = [] then 0 else gI h (h.length - 1)
theorem lastV_nn {h l : List Int} {r : Int} (V : Val h l r) : 0 ≤ lastV h := by
  unfold lastV
  split
  · exact Int.le_refl _
  · exact gI_nn V.p1 _
theorem turn_ended {h : List Int} {r : Int} (V : Val h [] r) {j : Nat} (hj : lastV h ≤ j) : Fst (TV h [] r) j h.length := by
  refine ⟨by rw [tv_nil rfl (Nat.le_refl _)]; rfl, fun i hi => ?_⟩
  rw [tv_head hi, leO_some]
  have ne : h ≠ [] := fun e => by rw [e] at hi; exact Nat.not_lt_zero _ hi
  unfold lastV at hj
  rw [if_neg ne] at hj
  have := rising_le V.r1 (h.length - 1 - i) i (by omega)
  rw [show (i : Int) + ((h.length - 1 - i : Nat) : Int) = (h.length : Int) - 1 by omega] at this
  omega
/-- values of the turn as the list tells them -/
theorem turn_list {f : Nat → Option Int} {n : Nat} {ms : List Int} (hl : ms.length = n) (h : ∀ j, j < n → ∃ m : Nat, gI ms j = m ∧ Fst f j m) : ms.map some = (List.range n).map (turnF f) := by
  refine List.ext_getElem (by rw [List.length_map, List.length_map, List.length_range, hl]) fun i a b => ?_
  rw [List.length_map] at a
  rw [List.getElem_map, List.getElem_map, List.getElem_range]
  obtain ⟨m, e, F⟩ := h i (by omega)
  rw [turnF_at F, ← e]
  have := gI_get a
  rw [List.getElem?_eq_getElem a] at this
  exact this
/-- what the turn of a table is -/
structure Trn (h l : List Int) (r : Int) (h' l' : List Int) (r' : Int) : Prop where
  pl : Pl (turnF (TV h l r)) h' l' r'
  zh : ∀ b : Nat, (∀ v ∈ h, v ≤ b) → (∀ v ∈ l, v ≤ b) → h'.length ≤ b
  dv : l' ≠ [] → l'.length = 1 ∨ (l ≠ [] ∧ 0 < r ∧ (l'.length : Int) ∣ r)
  br : r' ≤ l.length
  zs : ∀ b : Nat, (∀ v ∈ h, v ≤ b) → (l ≠ [] → gI l 0 ≤ b) → h'.length ≤ b
theorem trn_ended {h : List Int} {r : Int} {n : Nat} {ms : List Int} (V : Val h [] r) (en : lastV h = n) (zn : n ≤ 40000) (hl : ms.length = n) (hf : ∀ j, j < n → ∃ m : Nat, gI ms j = m ∧ Fst (TV h [] r) j m) :
    RSm ((ms ++ [(h.length : Int)]).take n) ((ms ++ [(h.length : Int)]).drop n) 0 ∧ (ms ++ [(h.length : Int)]).length = n + 1 ∧
      Trn h [] r (plainF ((ms ++ [(h.length : Int)]).take n) ((ms ++ [(h.length : Int)]).drop n) 0).1 (plainF ((ms ++ [(h.length : Int)]).take n) ((ms ++ [(h.length : Int)]).drop n) 0).2.1 (plainF ((ms ++ [(h.length : Int)]).take n) ((ms ++ [(h.length : Int)]).drop n) 0).2.2 := by
  have hc : ∀ j, turnF (TV h [] r) j ≠ none := fun j e => by
    obtain ⟨m, a, _⟩ := fst_ex (f := TV h [] r) (j := j) (m := h.length) (by rw [tv_nil rfl (Nat.le_refl _)]; rfl)
    rw [turnF_at a] at e
    cases e
  have he : ∀ j, n ≤ j → turnF (TV h [] r) j = some (h.length : Int) := fun j hj => turnF_at (turn_ended V (by omega))
  have hx : (ms ++ [(h.length : Int)]).map some = (List.range (n + 1)).map (turnF (TV h [] r)) := by
    rw [List.map_append, turn_list hl hf, List.range_succ, List.map_append]
    show _ ++ [some (h.length : Int)] = _ ++ [turnF (TV h [] r) n]
    rw [he n (Nat.le_refl _)]
  obtain ⟨a, b, p, q, s, t⟩ := go_on (turnF_gd _) (Nat.le_refl 1) hc (d := 0) (fun j hj => by
    rw [he _ hj, he _ (by omega)]
    exact congrArg some (Int.add_zero _).symm) hx (by omega) (by decide) (by decide)
  have lc : ∀ c : Nat, (∀ v ∈ h, v ≤ c) → lastV h ≤ c := fun c h1 => by
    unfold lastV
    split
    · omega
    · rename_i ne
      have l0 : 0 < h.length := List.length_pos_iff.mpr ne
      exact h1 _ (gI_mem (by omega) (by omega))
  refine ⟨a, b, p, fun c h1 _ => ?_, fun _ => .inl (Nat.dvd_one.mp s), Int.le_trans t (by omega), fun c h1 _ => ?_⟩
  · have := lc c h1
    omega
  · have := lc c h1
    omega

theorem getD_list {f : Nat → Option Int} {n : Nat} {ms : List Int} (h : ms.map some = (List.range n).map f) : ms = (List.range n).map fun j => (f j).getD 0 := by
  have := congrArg (List.map fun o : Option Int => o.getD 0) h
  rw [List.map_map, List.map_map] at this
  rw [show ((fun o : Option Int => o.getD 0) ∘ some) = (id : Int → Int) from rfl, List.map_id] at this
  exact this
theorem settled_le {h l : List Int} (V : Val h l 0) (hl : l ≠ []) (i : Nat) : fV h l 0 i ≤ gI l (l.length - 1) := by
  rw [← settled V hl (show h.length ≤ i + h.length by omega)]
  exact fV_mono V hl (by omega)
theorem trn_settled {h l : List Int} {n : Nat} {ms : List Int} (V : Val h l 0) (c : l ≠ []) (en : gI l (l.length - 1) = n) (zn : n ≤ 40000) (hl : ms.length = n) (hf : ∀ j, j < n → ∃ m : Nat, gI ms j = m ∧ Fst (TV h l 0) j m) : Trn h l 0 ms [] 0 := by
  have no : ∀ j, n ≤ j → turnF (TV h l 0) j = none := fun j hj => turnF_no fun m => by
    rw [tv_some c, leO_some]
    have := settled_le V c m
    omega
  have tl := turn_list hl hf
  have hc : ∀ j, j < n → turnF (TV h l 0) j ≠ none := fun j hj e => by
    obtain ⟨m, _, F⟩ := hf j hj
    rw [turnF_at F] at e
    cases e
  obtain ⟨W, T, zl⟩ := val_end (turnF_gd (TV h l 0)) (no n (Nat.le_refl _)) (by omega)
  rw [cnts_full hc (no n (Nat.le_refl _)), ← getD_list tl] at W T zl
  have l0 : 0 < l.length := List.length_pos_iff.mpr c
  refine ⟨⟨W, plainF_nil, T⟩, fun b _ h2 => ?_, fun e => absurd rfl e, by omega, fun b _ h2 => ?_⟩
  · have := h2 _ (gI_mem (ns := l) (r := (l.length : Int) - 1) (by omega) (by omega))
    omega
  · have := h2 c
    have := V.ll c
    omega
theorem trn_steady {h l : List Int} {r : Int} {s rn : Nat} {ms : List Int} (V : Val h l r) (c : l ≠ []) (r0 : 0 < r) (es : gI l 0 = s) (er : r = rn) (zs : s + rn ≤ 40000) (hl : ms.length = s + rn) (hf : ∀ j, j < s + rn → ∃ m : Nat, gI ms j = m ∧ Fst (TV h l r) j m) :
    RSm (ms.take s) (ms.drop s) l.length ∧ Trn h l r (plainF (ms.take s) (ms.drop s) l.length).1 (plainF (ms.take s) (ms.drop s) l.length).2.1 (plainF (ms.take s) (ms.drop s) l.length).2.2 := by
  have l0 : 0 < l.length := List.length_pos_iff.mpr c
  have all : ∀ j, ∃ m, Fst (TV h l r) j m := fun j => by
    have g := grows V c r0 j
    obtain ⟨m, a, _⟩ := fst_ex (f := TV h l r) (j := j) (m := h.length + l.length * (j + 1)) (by
      rw [tv_some c]
      exact decide_eq_false (by omega))
    exact ⟨m, a⟩
  have hc : ∀ j, turnF (TV h l r) j ≠ none := fun j e => by
    obtain ⟨m, F⟩ := all j
    rw [turnF_at F] at e
    cases e
  obtain ⟨_, _, _, zl⟩ := id V.sm
  obtain ⟨a, b, p, q, t, u⟩ := go_on (turnF_gd (TV h l r)) (S := s) (m := rn) (by omega) hc (d := (l.length : Int)) (fun j hj => by
    obtain ⟨m, F⟩ := all j
    rw [turnF_at F, turnF_at (turn_per V c (by omega) er F)]
    show some (((m + l.length : Nat) : Int)) = some ((m : Int) + l.length)
    rw [Int.natCast_add]) (turn_list hl hf) (by omega) (by omega) (by omega)
  refine ⟨a, p, fun b _ h2 => ?_, fun _ => .inr ⟨c, r0, ?_⟩, u, fun b _ h2 => ?_⟩
  · have := h2 _ (gI_mem (ns := l) (r := 0) (Int.le_refl _) (by omega))
    omega
  · rw [er]
    exact Int.natCast_dvd_natCast.mpr t
  · have := h2 c
    omega

abbrev spTurn (K : PySem.W.Frag) : Sp := sp1 fun a H Q _ => ∃ (h l : List Int) (r : Int), Dp K H a (dRaw h l r) ∧ Val h l r ∧ lastV h ≤ 40000 ∧ (l ≠ [] → gI l (l.length - 1) ≤ 40000 ∧ gI l 0 + r ≤ 40000) ∧
  ∀ v H' h' l' r', Ex H H' → Dp K H' v (dRaw h' l' r') → Trn h l r h' l' r' → Q v H'
abbrev N_turned_raw : List Str := ["raw", "head", "loop", "rise", "upto"]
theorem sc_turned_raw : FnScope N_turned_raw ["raw"] (defScope s_turned_raw) := ⟨rfl, rfl, rfl, by decide +kernel, rfl, by decide +kernel, by decide +kernel⟩
theorem ok_turned_raw {P : Program} {w : World} {K : PySem.W.Frag} {mg : Str → Option Value} {base : Heap} (E : Env P K mg) : Fn P w K mg base CX0 5 "turned_raw" (spTurn K) := by
  obtain ⟨fd, F⟩ := E.dd_turned_raw
  refine Fn.mk0 F E.g_turned_raw sc_turned_raw sp1_len (fun _ _ _ _ _ _ us hl => match us, hl with | [_], _ => rfl) (fun cdv A outer s H vs Q X hr h => ?_)
  have nd := sc_turned_raw.nd
  obtain ⟨v0, rfl, h⟩ := h
  refine ⟨_, (pss_cons (ps_asg (pv 0) (kGtup K rfl (pgs_cons (pg_name (i := 1) nd rfl (.inl rfl)) (pgs_cons (pg_name (i := 2) nd rfl (.inl rfl)) (pgs_cons (pg_name (i := 3) nd rfl (.inl rfl)) (pgs_nil))))))
  (pss_cons (ps_if (pt_cmpR (kEq K hr) (pe_callB (kLen K) (by rfl) E.f_len (by decide +kernel) (pa_cons (pv 2) pa_nil)) (pe_int) (nomark _))
   (pss_cons (ps_set (i := 4) nd rfl (.inl rfl) (pe_ifExp (pt_cmpR op_gt (pe_callB (kLen K) (by rfl) E.f_len (by decide +kernel) (pa_cons (pv 1) pa_nil)) (pe_int) (nomark _)) (pe_ix (kIx K) (pv 1) (pe_un un_neg (pe_int)) (fun _ _ => rfl)) (pe_int)))
  (pss_one (ps_ret (pc (ok_formed E) hr (by decide) pass0 rfl (pa_cons (pe_op (kAdd K) (pc (ok_counts_below E) hr (by decide) pass0 rfl (pa_cons (pv 0) (pa_cons (pv 4) pa_nil))) (pe_lst (pa_cons (pe_callB (kLen K) (by rfl) E.f_len (by decide +kernel) (pa_cons (pv 1) pa_nil)) pa_nil))) (pa_cons (pe_int) (pa_cons (pe_int) pa_nil)))))))
   pss_nil)
  (pss_cons (ps_if (pt_cmpR (kEq K hr) (pv 3) (pe_int) (nomark _))
   (pss_one (ps_ret (pe_tup (pa_cons (pe_callTy (kTup K) (by rfl) E.f_tuple (by decide +kernel) (pa_cons (pc (ok_counts_below E) hr (by decide) pass0 rfl (pa_cons (pv 0) (pa_cons (pe_ix (kIx K) (pv 2) (pe_un un_neg (pe_int)) (fun _ _ => rfl)) pa_nil))) pa_nil)) (pa_cons (pe_tup pa_nil) (pa_cons (pe_int) pa_nil))))))
   pss_nil)
  (pss_one (ps_ret (pc (ok_formed E) hr (by decide) pass0 rfl (pa_cons (pc (ok_counts_below E) hr (by decide) pass0 rfl (pa_cons (pv 0) (pa_cons (pe_op (kAdd K) (pe_ix (kIx K) (pv 2) (pe_int) (fun _ _ => rfl)) (pv 3)) pa_nil))) (pa_cons (pv 3) (pa_cons (pe_callB (kLen K) (by rfl) E.f_len (by decide +kernel) (pa_cons (pv 2) pa_nil)) pa_nil))))))))), ?_⟩
  change (_ : TS) _ [some v0, none, none, none, none] H
  try dsimp only [cxOf, Cx.nox, Cx.blk]
  obtain ⟨h, l, r, d, W, z1, z2, k⟩ := h
  obtain ⟨a1, th, tl, rfl, s1, s2, s3⟩ := dp_raw d
  walk_at "w"
  by_cases c : l = []
  · subst c
    have q0 : (([] : List Int).length : Int) = 0 := rfl
    obtain ⟨n, en⟩ := Int.eq_ofNat_of_zero_le (lastV_nn W)
    have hM : ∀ j, j < n → leO (TV h [] r h.length) (some (j : Int)) = false := fun j _ => by rw [tv_nil rfl (Nat.le_refl _)]; rfl
    by_cases ch : h = []
    · have el : lastV h = 0 := by unfold lastV; rw [if_pos ch]
      have q1 : h.length = 0 := by rw [ch]; rfl
      walk_at "w"
      refine ⟨h, [], r, n, h.length, dp_of_raw s1 s2 s3, by rw [show (0 : Int) = n by omega], by omega, W, hM, fun p H1 ms m1 e1 g1 hl hf => ?_⟩
      walk_at "w"
      intro p2 H2 m2 e2 g2
      refine r_addL (e2 _ _ g1) g2 (sz_of (show _ + 1 ≤ _ by rw [List.length_map]; omega)) fun p3 H3 m3 e3 g3 => ?_
      walk_at "w"
      obtain ⟨w1, w2, w3⟩ := trn_ended W en (by omega) hl hf
      have g4 : SqL K H3 p3 (vI (ms ++ [(h.length : Int)])) := by
        rw [show vI (ms ++ [(h.length : Int)]) = vI ms ++ [V.int h.length] from List.map_append ..]
        exact sq_of g3
      exact ⟨p3, _, n, 1, 0, rfl, rfl, rfl, g4, w2, Int.le_refl _, w1, fun v H4 e4 d4 => k v H4 _ _ _ (((e1.trans e2).trans e3).trans e4) d4 w3⟩
    · have el : lastV h = gI h (h.length - 1) := by unfold lastV; rw [if_neg ch]
      have h0 : 0 < h.length := List.length_pos_iff.mpr ch
      walk_at "w"
      refine ⟨h, [], r, n, h.length, dp_of_raw s1 s2 s3, by rw [show (-1 : Int) + h.length = h.length - 1 by omega, ← el, en], by omega, W, hM, fun p H1 ms m1 e1 g1 hl hf => ?_⟩
      walk_at "w"
      intro p2 H2 m2 e2 g2
      refine r_addL (e2 _ _ g1) g2 (sz_of (show _ + 1 ≤ _ by rw [List.length_map]; omega)) fun p3 H3 m3 e3 g3 => ?_
      walk_at "w"
      obtain ⟨w1, w2, w3⟩ := trn_ended W en (by omega) hl hf
      have g4 : SqL K H3 p3 (vI (ms ++ [(h.length : Int)])) := by
        rw [show vI (ms ++ [(h.length : Int)]) = vI ms ++ [V.int h.length] from List.map_append ..]
        exact sq_of g3
      exact ⟨p3, _, n, 1, 0, rfl, rfl, rfl, g4, w2, Int.le_refl _, w1, fun v H4 e4 d4 => k v H4 _ _ _ (((e1.trans e2).trans e3).trans e4) d4 w3⟩
  · have l0 : 0 < l.length := List.length_pos_iff.mpr c
    obtain ⟨y1, y2⟩ := z2 c
    walk_at "w"
    by_cases cr : r = 0
    · subst cr
      obtain ⟨n, en⟩ := Int.eq_ofNat_of_zero_le (gI_nn W.p2 ((l.length : Int) - 1))
      walk_at "w"
      refine ⟨h, l, 0, n, h.length, dp_of_raw s1 s2 s3, by rw [show (-1 : Int) + l.length = l.length - 1 by omega, en], by omega, W, fun j hj => ?_, fun p H1 ms m1 e1 g1 hl hf => ?_⟩
      · rw [tv_some c, settled W c (Nat.le_refl _)]
        exact decide_eq_false (by omega)
      · walk_at "w"
        intro p2 H2 e2 g2
        walk_at "w"
        intro p3 H3 m3 e3 g3
        walk_at "w"
        intro p4 H4 m4 e4 g4
        exact k _ _ ms [] 0 (e1.trans (by walk_at "ex")) (dp_of_raw (st_of g4) (ex_t e4 (ex_t e3 g2)) (ex_t e4 (st_of g3))) (trn_settled W c en (by omega) hl hf)
    · have r0 : 0 < r := by
        have := W.r0
        omega
      obtain ⟨s, es⟩ := Int.eq_ofNat_of_zero_le (gI_nn W.p2 0)
      obtain ⟨rn, er⟩ := Int.eq_ofNat_of_zero_le W.r0
      have gr := grows W c r0 (s + rn)
      walk_at "w"
      refine ⟨h, l, r, s + rn, h.length + l.length * (s + rn + 1), dp_of_raw s1 s2 s3, by rw [Int.natCast_add, ← es, ← er], by omega, W, fun j hj => ?_, fun p H1 ms m1 e1 g1 hl hf => ?_⟩
      · rw [tv_some c]
        exact decide_eq_false (by omega)
      · walk_at "w"
        obtain ⟨w1, w2⟩ := trn_steady W c r0 es er (by omega) hl hf
        exact ⟨p, ms, s, rn, l.length, rfl, by rw [er], rfl, sq_of g1, hl, by omega, w1, fun v H4 e4 d4 => k v H4 _ _ _ (e1.trans e4) d4 w2⟩

abbrev spInv (K : PySem.W.Frag) : Sp := sp1 fun x H Q _ => ∃ (p : Addr) (h l : List Int) (r : Int), x = .ref p ∧ TabAt K H p h l r ∧ Val h l r ∧ lastV h ≤ 40000 ∧ (l ≠ [] → gI l (l.length - 1) ≤ 40000 ∧ gI l 0 + r ≤ 40000) ∧
  ∀ z H' h' l' r', Ex H H' → TabAt K H' z h' l' r' → Trn h l r h' l' r' → Q (.ref z) H'
abbrev N_Table_invert : List Str := ["self"]
theorem sc_Table_invert : FnScope N_Table_invert ["self"] (defScope s_Table_invert) := ⟨rfl, rfl, rfl, by decide +kernel, rfl, by decide +kernel, by decide +kernel⟩
theorem fx_Table_invert {P : Program} {w : World} {K : PySem.W.Frag} {mg : Str → Option Value} {base : Heap} (E : Env P K mg) : ∃ fd, FunD K "__invert__" "Table.__invert__" (defArgs s_Table_invert) (defBody s_Table_invert) (defScope s_Table_invert) (d_Table_invert.dvs K) [] (d_Table_invert.adr K) fd ∧ FnOk P w K mg base CX0 13 (d_Table_invert.adr K) fd ["self"] (spInv K) := by
  obtain ⟨fd, F⟩ := E.dd_Table_invert
  refine ⟨fd, F, fnok0 F sc_Table_invert sp1_len (fun cdv A outer s H vs Q X hr h => ?_)⟩
  have nd := sc_Table_invert.nd
  obtain ⟨v0, rfl, h⟩ := h
  refine ⟨_, (pss_one (ps_ret (pc (ok_table_from E) hr (by decide) pass0 rfl (pa_cons (pc (ok_turned_raw E) hr (by decide) pass0 rfl (pa_cons (pmt0 (ok_Table_raw E) hr (by decide) pass0 (pv 0)) pa_nil)) pa_nil)))), ?_⟩
  change (_ : TS) _ [some v0] H
  try dsimp only [cxOf, Cx.nox, Cx.blk]
  obtain ⟨p, h, l, r, rfl, u1, W, z1, z2, k⟩ := h
  walk_at "w"
  obtain ⟨dx1, th1, tl1, i1, _⟩ := id u1
  refine r_meth i1 (tFlds_no (by decide) (by decide) (by decide)) ?_
  walk_at "w"
  refine w_callM1 ⟨p, h, l, r, rfl, u1, fun v1 H1 e1 d1 => ?_⟩
  walk_at "w"
  refine ⟨h, l, r, d1, W, z1, z2, fun v2 H2 h' l' r' e2 d2 T => ?_⟩
  walk_at "w"
  refine ⟨h', l', r', d2, T.pl.val, fun x H3 e3 t3 => ?_⟩
  rw [T.pl.pf] at t3
  exact k x H3 h' l' r' ((e1.trans e2).trans e3) t3 T
theorem ok_Table_invert {P : Program} {w : World} {K : PySem.W.Frag} {mg : Str → Option Value} {base : Heap} (E : Env P K mg) : BinOf P w K mg base 13 (He.ga K "Table") "__invert__" (spInv K) := by
  obtain ⟨fd, F, k⟩ := fx_Table_invert (P := P) (w := w) (base := base) E
  exact ⟨⟨_, fd, _, E.m_Table_invert.at_, E.m_Table_invert.fn, k, F.bindsN (fun _ _ _ _ _ _ us hl => match us, hl with | [_], _ => rfl)⟩, E.sf_Table⟩

/-- whether a value is beyond j, by the end -/
theorem turn_none {h l : List Int} {r : Int} (V : Val h l r) {j : Nat} : turnF (TV h l r) j = none ↔ leO (endOf l r) (some (j : Int)) = true := by
  have e := end_of_tab V
  constructor
  · intro q
    rcases turnF_is (TV h l r) j with ⟨_, a⟩ | ⟨m, a, _⟩
    · exact e.lo _ a
    · rw [q] at a; cases a
  · intro q
    exact turnF_no fun m => leO_trans (e.up m) q
theorem turn_some {h l : List Int} {r : Int} (V : Val h l r) {j : Nat} (q : ¬ leO (endOf l r) (some (j : Int)) = true) : ∃ m : Nat, Fst (TV h l r) j m := by
  rcases turnF_is (TV h l r) j with ⟨a, _⟩ | ⟨m, _, F⟩
  · exact absurd ((turn_none V).mp a) q
  · exact ⟨m, F⟩
/-- how the law's own turn is cut: S ahead, m in the loop, rise d -/
structure Cut (h l : List Int) (r : Int) (S m : Nat) (d : Int) : Prop where
  m0 : 1 ≤ m
  per : turnF (TV h l r) (S + m - 1) ≠ none → ∀ j, S ≤ j → turnF (TV h l r) (j + m) = (turnF (TV h l r) j).map (· + d)
  d0 : 0 ≤ d
  zd : d ≤ 50000
  z : S + m ≤ 40001
theorem cut_ended {h : List Int} {r : Int} {n : Nat} (V : Val h [] r) (en : lastV h = n) (z : n ≤ 40000) : Cut h [] r n 1 0 :=
  ⟨Nat.le_refl _, fun _ j hj => by
    rw [turnF_at (turn_ended V (j := j) (by omega)), turnF_at (turn_ended V (j := j + 1) (by omega))]
    exact congrArg some (Int.add_zero _).symm, Int.le_refl _, by decide, by omega⟩
theorem cut_settled {h l : List Int} {n : Nat} (V : Val h l 0) (c : l ≠ []) (en : gI l (l.length - 1) = n) (z : n ≤ 40000) : Cut h l 0 n 1 0 :=
  ⟨Nat.le_refl _, fun q => absurd (turnF_no fun m => by
    rw [tv_some c, leO_some]
    have := settled_le V c m
    omega) q, Int.le_refl _, by decide, by omega⟩
theorem cut_steady {h l : List Int} {r : Int} {s rn : Nat} (V : Val h l r) (c : l ≠ []) (r0 : 0 < r) (es : gI l 0 = s) (er : r = rn) (z : s + rn ≤ 40000) : Cut h l r s rn l.length := by
  obtain ⟨_, _, _, zl⟩ := id V.sm
  refine ⟨by omega, fun _ j hj => ?_, by omega, by omega, by omega⟩
  have en : endOf l r = none := by
    unfold endOf
    rw [if_pos (.inr r0)]
  obtain ⟨m, F⟩ := turn_some V (j := j) (by rw [en]; intro q; cases q)
  rw [turnF_at F, turnF_at (turn_per V c (by omega) er F)]
  show some (((m + l.length : Nat) : Int)) = some ((m : Int) + l.length)
  rw [Int.natCast_add]

theorem IsTurn.of_gal {f g : Nat → Option Int} (nn : ∀ j v, g j = some v → 0 ≤ v) (h : ∀ i j : Nat, leO (f i) (some (j : Int)) = leO (some ((i : Int) + 1)) (g j)) : IsTurn f g := fun j => by
  cases e : g j with
  | none => exact .inl ⟨rfl, fun m => by rw [h, e]; rfl⟩
  | some v =>
    obtain ⟨m, rfl⟩ := Int.eq_ofNat_of_zero_le (nn j v e)
    refine .inr ⟨m, rfl, ?_, fun i hi => ?_⟩
    · rw [h, e]
      exact decide_eq_false (by omega)
    · rw [h, e]
      exact leO_some.mpr (by omega)
theorem leO_jnl (g : Bool) (a b c : Option Int) : leO (jnO g a b) c = if g = true then (leO a c && leO b c) else (leO a c || leO b c) := by
  have := @jn_le g a b c
  rw [Bool.eq_iff_iff, this]
  cases g <;> simp
theorem leO_jnr (g : Bool) (a b c : Option Int) : leO c (jnO g a b) = if g = true then (leO c a || leO c b) else (leO c a && leO c b) := by
  cases a with
  | none =>
    cases g
    · rw [(jnF_none _).2]; simp [leO_none]
    · rw [(jnT_none _).2]; simp [leO_none]
  | some a =>
    cases b with
    | none =>
      cases g
      · rw [(jnF_none _).1]; simp [leO_none]
      · rw [(jnT_none _).1]; simp [leO_none]
    | some b =>
      cases c with
      | none => cases g <;> rw [jnO_some] <;> rfl
      | some c =>
        rw [jnO_some, Bool.eq_iff_iff]
        cases g
        · simp only [leO_some, Bool.and_eq_true, if_false]
          simp [leO_some]
          omega
        · simp only [leO_some, Bool.or_eq_true, if_true]
          omega
/-- the turn of both is either of the turns, and the other way round -/
theorem IsTurn.join {g : Bool} {f1 f2 t1 t2 : Nat → Option Int} (G1 : Gd f1) (G2 : Gd f2) (D1 : Gd t1) (D2 : Gd t2) (T1 : IsTurn f1 t1) (T2 : IsTurn f2 t2) : IsTurn (JV g f1 f2) (JV (!g) t1 t2) := by
  refine IsTurn.of_gal (D1.join (!g) D2).nn fun i j => ?_
  unfold JV
  rw [leO_jnl, leO_jnr, T1.gal G1, T2.gal G2]
  cases g <;> rfl
theorem IsTurn.anti {f f' t t' : Nat → Option Int} (T : IsTurn f t) (T' : IsTurn f' t') (h : ∀ j, leO (f j) (f' j) = true) (j : Nat) : leO (t' j) (t j) = true := by
  rcases T j with ⟨e, _⟩ | ⟨m, e, F⟩
  · rw [e]; exact leO_none
  · have q : leO (f' m) (some (j : Int)) = false := by
      cases w : leO (f' m) (some (j : Int)) with
      | false => rfl
      | true =>
        have := leO_trans (h m) w
        rw [F.1] at this
        cases this
    obtain ⟨n, a, b⟩ := fst_ex q
    rcases T' j with ⟨_, x⟩ | ⟨n', e', F'⟩
    · have := x n; rw [a.1] at this; cases this
    · rw [e, e', F'.uniq a, leO_some]
      omega
/-- and back -/
theorem IsTurn.anti' {f f' t t' : Nat → Option Int} (G : Gd f) (G' : Gd f') (T : IsTurn f t) (T' : IsTurn f' t') (h : ∀ j, leO (t' j) (t j) = true) (j : Nat) : leO (f j) (f' j) = true :=
  IsTurn.anti (T'.twice G') (T.twice G) h j

theorem sh_val (k : Int) (j : Nat) : TV (shH k) (shL k) 1 j = some (max 0 ((j : Int) + 1 + k)) := by
  by_cases c : 0 ≤ k
  · have e1 : shH k = [] := if_pos c
    have e2 : shL k = [1 + k] := if_pos c
    rw [e1, e2, tv_some (by simp), fV_loop (by simp)]
    unfold extL
    rw [show (([1 + k] : List Int).length : Int) = 1 from rfl, Int.emod_one, Int.ediv_one]
    congr 1
    show (1 + k) + 1 * ((j : Int) - ((0 : Nat) : Int)) = _
    omega
  · have e1 : shH k = List.replicate (-k - 1).toNat 0 := if_neg c
    have e2 : shL k = [0] := if_neg c
    rw [e1, e2]
    generalize hm : (-k - 1).toNat = m
    have zl : (List.replicate m (0 : Int)).length = m := List.length_replicate ..
    by_cases q : j < m
    · rw [tv_head (by omega), gI_rep]
      congr 1
      omega
    · rw [tv_some (by simp), fV_loop (by omega), zl]
      unfold extL
      rw [show (([0] : List Int).length : Int) = 1 from rfl, Int.emod_one, Int.ediv_one]
      congr 1
      show (0 : Int) + 1 * ((j : Int) - (m : Int)) = _
      omega
/-- shifts turn to shifts -/
theorem sh_turn (k : Int) : IsTurn (TV (shH k) (shL k) 1) (TV (shH (-1 - k)) (shL (-1 - k)) 1) := by
  refine IsTurn.of_gal (fun j v e => ?_) fun i j => ?_
  · rw [sh_val] at e
    cases e
    omega
  · rw [sh_val, sh_val, Bool.eq_iff_iff, leO_some, leO_some]
    omega
/-- the end of a turned table -/
theorem turn_end {h l h' l' : List Int} {r r' : Int} (V : Val h l r) (V' : Val h' l' r') (T : IsTurn (TV h l r) (TV h' l' r')) {j : Nat} : TV h' l' r' j = none ↔ leO (endOf l r) (some (j : Int)) = true := by
  rw [T.uniq (turnF_is _)]
  exact turn_none V

/-- numbers near a line, turned round: B f(n) is near A n, so A m is near B n -/
theorem Ln.turn {A B Kl Ku : Int} {f : Nat → Option Int} (X : Ln A B Kl Ku f) (G : Gd f) (A0 : 0 ≤ A) (B0 : 0 ≤ B) (k0 : 0 ≤ Kl) (k1 : 0 ≤ Ku) (hn : ∀ j, f j ≠ none) : Ln B A (Ku + A + B) (Kl + A + B) (turnF f) := by
  intro j v e
  rcases turnF_is f j with ⟨q, _⟩ | ⟨m, q, F⟩
  · rw [e] at q; cases q
  · rw [e] at q
    cases q
    have hi : ∃ u, f m = some u ∧ (j : Int) + 1 ≤ u := by
      cases w : f m with
      | none => exact absurd w (hn m)
      | some u =>
        refine ⟨u, rfl, ?_⟩
        have := F.1
        rw [w] at this
        refine Int.not_lt.mp fun c => ?_
        rw [leO_some.mpr (show u ≤ (j : Int) by omega)] at this
        cases this
    obtain ⟨u, hu, hju⟩ := hi
    obtain ⟨x1, x2⟩ := X m u hu
    have a := Int.mul_le_mul_of_nonneg_left hju B0
    refine ⟨?_, ?_⟩
    · rw [Int.mul_add A] at x2
      omega
    · cases m with
      | zero =>
        have b := Int.mul_nonneg B0 (show (0 : Int) ≤ (j : Int) + 1 by omega)
        rw [show A * ((0 : Nat) : Int) = 0 from Int.mul_zero A]
        have := X 0 u hu
        omega
      | succ t =>
        have ht := F.2 t (Nat.lt_succ_self t)
        cases w : f t with
        | none => exact absurd w (hn t)
        | some z =>
          rw [w, leO_some] at ht
          obtain ⟨y1, _⟩ := X t z w
          have b := Int.mul_le_mul_of_nonneg_left (show z ≤ (j : Int) + 1 by omega) B0
          rw [show ((t + 1 : Nat) : Int) = (t : Int) + 1 from rfl]
          omega

theorem last_at {h : List Int} {r : Int} : valueAt h [] r (some (h.length : Int)) = some (lastV h) := by
  show vat h [] r _ = _
  unfold vat lastV
  by_cases c : h = []
  · rw [if_pos c, if_pos (by rw [c]; rfl)]
  · have h0 : 0 < h.length := List.length_pos_iff.mpr c
    rw [if_neg c, if_neg (by omega), if_pos (Int.le_refl _)]
theorem Cut.list {h l : List Int} {r : Int} {S m : Nat} {d : Int} (V : Val h l r) (C : Cut h l r S m d) (e : turnF (TV h l r) (S + m - 1) ≠ none) {xs : List Int}
    (hx : xs = (List.range (S + m)).map fun j => (turnF (TV h l r) j).getD 0) :
    RSm (xs.take S) (xs.drop S) d ∧ xs.length = S + m ∧ vI xs = ((List.range (S + m)).map (turnF (TV h l r))).map optV ∧
      Pl (turnF (TV h l r)) (plainF (xs.take S) (xs.drop S) d).1 (plainF (xs.take S) (xs.drop S) d).2.1 (plainF (xs.take S) (xs.drop S) d).2.2 := by
  have G := turnF_gd (TV h l r)
  have hall : ∀ t : Nat, turnF (TV h l r) (S + m - 1 + m * t) ≠ none := fun t => by
    induction t with
    | zero => exact e
    | succ t ih =>
      have m0 := C.m0
      rw [Nat.mul_succ, ← Nat.add_assoc, C.per e _ (by omega)]
      cases q : turnF (TV h l r) (S + m - 1 + m * t) with
      | none => exact absurd q ih
      | some v => intro w; cases w
  have hc : ∀ j, turnF (TV h l r) j ≠ none := fun j q => by
    have m0 := C.m0
    have : j ≤ S + m - 1 + m * j := by
      have := Nat.le_mul_of_pos_left j m0
      omega
    exact hall j (gd_none G q _ this)
  obtain ⟨v1, v2⟩ := vals_some (S + m) fun j _ => hc j
  rw [← hx] at v1 v2
  have z := C.z
  have zd := C.zd
  have d0 := C.d0
  obtain ⟨a, b, p, _⟩ := go_on G C.m0 hc (C.per e) v2 (by omega) (by omega) (by omega)
  exact ⟨a, b, by rw [← v1, List.map_map]; rfl, p⟩
theorem Cut.none' {h l : List Int} {r : Int} {S m : Nat} {d : Int} (C : Cut h l r S m d) (e : turnF (TV h l r) (S + m - 1) = none) :
    Pl (turnF (TV h l r)) (cnts ((List.range (S + m)).map (turnF (TV h l r)))) [] 0 := by
  have m0 := C.m0
  have z := C.z
  obtain ⟨V, T, _⟩ := val_end (turnF_gd (TV h l r)) e (by omega)
  rw [show S + m - 1 + 1 = S + m by omega] at V T
  exact ⟨V, plainF_nil, T⟩
abbrev N__law_turn : List Str := ["raw", "many", "rise", "upto", "values", "count", "n"]
theorem sc__law_turn : FnScope N__law_turn ["raw"] (defScope s__law_turn) := ⟨rfl, rfl, rfl, by decide +kernel, rfl, by decide +kernel, by decide +kernel⟩
theorem ok__law_turn {P : Program} {w : World} {K : PySem.W.Frag} {mg : Str → Option Value} {base : Heap} (E : Env P K mg) : Fn P w K mg base CX0 3 "_law_turn" (sp1 fun a H Q _ => ∃ (h l : List Int) (r : Int), Dp K H a (dRaw h l r) ∧ Val h l r ∧ lastV h ≤ 40000 ∧ (l ≠ [] → gI l (l.length - 1) ≤ 40000 ∧ gI l 0 + r ≤ 40000) ∧ ∀ v H' h' l' r', Ex H H' → Dp K H' v (dRaw h' l' r') → Pl (turnF (TV h l r)) h' l' r' → Q v H') := by
  obtain ⟨fd, F⟩ := E.dd__law_turn
  refine Fn.mk0 F E.g__law_turn sc__law_turn sp1_len (fun _ _ _ _ _ _ us hl => match us, hl with | [_], _ => rfl) (fun cdv A outer s H vs Q X hr h => ?_)
  have nd := sc__law_turn.nd
  obtain ⟨v0, rfl, h⟩ := h
  refine ⟨_, (pss_cons (ps_set (i := 1) nd rfl (.inl rfl) (pe_int))
  (pss_cons (ps_set (i := 2) nd rfl (.inl rfl) (pe_int))
  (pss_cut (ps_if (pt_cmpR (kEq K hr) (pe_callB (kLen K) (by rfl) E.f_len (by decide +kernel) (pa_cons (pe_ix (kIx K) (pv 0) (pe_int) (fun _ _ => rfl)) pa_nil)) (pe_int) (nomark _))
   (pss_one (ps_set (i := 3) nd rfl (.inl rfl) (pe_op (kAdd K) (pc (ok__law_at E) hr (by decide) pass0 rfl (pa_cons (pv 0) (pa_cons (pe_callB (kLen K) (by rfl) E.f_len (by decide +kernel) (pa_cons (pe_ix (kIx K) (pv 0) (pe_int) (fun _ _ => rfl)) pa_nil)) pa_nil))) (pe_int))))
   (pss_one (ps_if (pt_cmpR (kEq K hr) (pe_ix (kIx K) (pv 0) (pe_int) (fun _ _ => rfl)) (pe_int) (nomark _))
   (pss_one (ps_set (i := 3) nd rfl (.inl rfl) (pe_op (kAdd K) (pe_ix (kIx K) (pe_ix (kIx K) (pv 0) (pe_int) (fun _ _ => rfl)) (pe_un un_neg (pe_int)) (fun _ _ => rfl)) (pe_int))))
   (pss_cons (ps_set (i := 3) nd rfl (.inl rfl) (pe_op (kAdd K) (pe_ix (kIx K) (pe_ix (kIx K) (pv 0) (pe_int) (fun _ _ => rfl)) (pe_int) (fun _ _ => rfl)) (pe_ix (kIx K) (pv 0) (pe_int) (fun _ _ => rfl))))
  (pss_cons (ps_set (i := 1) nd rfl (.inl rfl) (pe_ix (kIx K) (pv 0) (pe_int) (fun _ _ => rfl)))
  (pss_one (ps_set (i := 2) nd rfl (.inl rfl) (pe_callB (kLen K) (by rfl) E.f_len (by decide +kernel) (pa_cons (pe_ix (kIx K) (pv 0) (pe_int) (fun _ _ => rfl)) pa_nil)))))))))
  (pss_cons (ps_set (i := 4) nd rfl (.inl rfl) (pe_lst (pa_nil)))
  (pss_cons (ps_set (i := 5) nd rfl (.inl rfl) (pe_int))
  (pss_cons (ps_for PassesOwn.never rfl (pi_range2 (by rfl) E.f_range (pa_cons (pe_int) (pa_cons (pe_op (kAdd K) (pv 3) (pe_int)) pa_nil))) (pg_name (i := 6) nd rfl (.inl rfl))
   (pss_cons (ps_if (PW.pt (pw_and (pt_cmpR xIsNot (pc (ok__law_end E) hr (by decide) pass0 rfl (pa_cons (pv 0) pa_nil)) (pe_non) (nomark _)) (pw_and1 (pt_cmpR op_lt (pc (ok__law_end E) hr (by decide) pass0 rfl (pa_cons (pv 0) pa_nil)) (pv 6) (nomark _)))))
   (pss_cons (ps_expr (kBM K (pe_bm PySem.F.plainAttrs_list PySem.F.slot_list_append PySem.F.type_list_append mt_append (pv 4) (pa_cons (pe_non) pa_nil))))
  (pss_one (ps_continue)))
   pss_nil)
  (pss_cons (ps_while PassesOwn.never (PW.pt (pw_and (pt_cmpR xIsNot (pc (ok__law_at E) hr (by decide) pass0 rfl (pa_cons (pv 0) (pa_cons (pe_op (kAdd K) (pv 5) (pe_int)) pa_nil))) (pe_non) (nomark _)) (pw_and1 (pt_cmpR op_lt (pc (ok__law_at E) hr (by decide) pass0 rfl (pa_cons (pv 0) (pa_cons (pe_op (kAdd K) (pv 5) (pe_int)) pa_nil))) (pv 6) (nomark _)))))
   (pss_one (ps_set (i := 5) nd rfl (.inl rfl) (pe_op (kAdd K) (pv 5) (pe_int)))))
  (pss_one (ps_expr (kBM K (pe_bm PySem.F.plainAttrs_list PySem.F.slot_list_append PySem.F.type_list_append mt_append (pv 4) (pa_cons (pv 5) pa_nil))))))))
  (pss_cons (ps_if (pt_cmpR xIs (pe_ix (kIx K) (pv 4) (pe_un un_neg (pe_int)) (fun _ _ => rfl)) (pe_non) (nomark _))
   (pss_one (ps_ret (pe_tup (pa_cons (pe_callTy (kTup K) (by rfl) E.f_tuple (by decide +kernel) (pa_cons (pc (ok__law_counts E) hr (by decide) pass0 rfl (pa_cons (pv 4) pa_nil)) pa_nil)) (pa_cons (pe_tup pa_nil) (pa_cons (pe_int) pa_nil))))))
   pss_nil)
  (pss_one (ps_ret (pc (ok__law_fit E) hr (by decide) pass0 rfl (pa_cons (pv 4) (pa_cons (pv 1) (pa_cons (pv 2) pa_nil))))))))))))), ?_⟩
  change (_ : TS) _ [some v0, none, none, none, none, none, none] H
  try dsimp only [cxOf, Cx.nox, Cx.blk]
  obtain ⟨h, l, r, d, W, z1, z2, k⟩ := h
  obtain ⟨a1, th, tl, rfl, s1, s2, s3⟩ := dp_raw d
  have G := Gd.of W
  walk_at "w"
  refine w_cut (M := fun σ' H' => ∃ (S m : Nat) (d : Int), σ' = [some (.ref a1), some (.int m), some (.int d), some (.int ((S : Int) + m)), none, none, none] ∧ Ex H H' ∧ Cut h l r S m d) ?_ ?_
  · walk_at "w"
    by_cases c : l = []
    · subst c
      obtain ⟨n, en⟩ := Int.eq_ofNat_of_zero_le (lastV_nn W)
      walk_at "w"
      refine ⟨h, [], r, some (h.length : Int), dp_of_raw s1 s2 s3, dp_of_opt (p := some _), fun n hn => by cases hn; omega, W.sm, fun v H2 e2 q2 => ?_⟩
      rw [last_at, en] at q2
      obtain rfl := dp_toOpt q2
      simp only [optV]
      walk_at "w"
      exact ⟨n, 1, 0, rfl, e2, cut_ended W en (by omega)⟩
    · have l0 : 0 < l.length := List.length_pos_iff.mpr c
      obtain ⟨y1, y2⟩ := z2 c
      have r0 := W.r0
      walk_at "w"
      by_cases cr : r = 0
      · subst cr
        obtain ⟨n, en⟩ := Int.eq_ofNat_of_zero_le (gI_nn W.p2 ((l.length : Int) - 1))
        walk_at "w"
        rw [show (-1 : Int) + l.length = l.length - 1 by omega, en]
        exact ⟨n, 1, 0, rfl, Ex.refl _, cut_settled W c en (by omega)⟩
      · obtain ⟨s, es⟩ := Int.eq_ofNat_of_zero_le (gI_nn W.p2 0)
        obtain ⟨rn, er⟩ := Int.eq_ofNat_of_zero_le W.r0
        walk_at "w"
        refine ⟨s, rn, l.length, ?_, Ex.refl _, cut_steady W c (by omega) es er (by omega)⟩
        rw [er, es]
  rintro σ' H1 ⟨S, m, d, rfl, e1, C⟩
  have m0 := C.m0
  have zz := C.z
  walk_at "w"
  intro p H2 n2 e2 g2
  walk_at "w"
  have e12 := e1.trans e2
  have en := end_of_tab W
  refine for_range (lo := 1) (Pv := fun i σ' H' => ∃ (m0 : Nat) (x : Option V), σ' = [some (.ref a1), some (.int m), some (.int d), some (.int ((S : Int) + m)), some (.ref p), some (.int m0), x] ∧ Ex H H' ∧ H' p = some (.lst (((List.range i).map (turnF (TV h l r))).map optV)) ∧ (∀ t, t < m0 → leO (TV h l r t) (some (i : Int)) = true))
    ⟨0, _, rfl, e12, g2, fun t ht => by omega⟩ ?_ ?_
  · rintro i σ' H3 hi ⟨c0, x, rfl, e3, gp, hm⟩
    have hin : i < S + m := by omega
    have hs3 : SqL K H3 p (((List.range i).map (turnF (TV h l r))).map optV) := sq_of gp
    have grow : ∀ {H4 H5 : Hp} {o : Option Int} {y : V} {z : Nat} {m1 d1 : Int}, Ex H3 H4 → turnF (TV h l r) i = o → (∀ t, t < z → leO (TV h l r t) (some (i : Int)) = true) →
        ∃ (m0 : Nat) (x : Option V), [some (V.ref a1), some (.int m), some (.int d), some (.int ((S : Int) + m)), some (.ref p), some (.int z), some y] = [some (.ref a1), some (.int m), some (.int d), some (.int ((S : Int) + m)), some (.ref p), some (.int m0), x] ∧ Ex H (upd H4 p (.lst (((List.range i).map (turnF (TV h l r))).map optV ++ [optV o]))) ∧ upd H4 p (.lst (((List.range i).map (turnF (TV h l r))).map optV ++ [optV o])) p = some (.lst (((List.range (i + 1)).map (turnF (TV h l r))).map optV)) ∧ (∀ t, t < m0 → leO (TV h l r t) (some ((i + 1 : Nat) : Int)) = true) := by
      intro H4 H5 o y z _ _ e ho hz
      refine ⟨z, _, rfl, Ex.mut (e3.trans e) (fresh_back e1 n2), ?_, fun t ht => leO_trans (hz t ht) (leO_some.mpr (by omega))⟩
      rw [List.range_succ, List.map_append, List.map_append]
      show upd _ p _ p = some (HO.lst (_ ++ [optV (turnF (TV h l r) i)]))
      rw [ho]
      exact upd_same
    walk_at "w"
    refine ⟨h, l, r, dp_of_raw (ex_t e3 s1) (ex_t e3 s2) (ex_t e3 s3), fun v H4 e4 q4 => ?_⟩
    by_cases cn : turnF (TV h l r) i = none
    · have le := (turn_none W).mp cn
      obtain ⟨ee, hee, hle⟩ : ∃ ee, endOf l r = some ee ∧ ee ≤ i := by
        cases q : endOf l r with
        | none => rw [q] at le; cases le
        | some ee => rw [q, leO_some] at le; exact ⟨ee, rfl, le⟩
      rw [hee] at q4
      obtain rfl := dp_toOpt q4
      simp only [optV]
      walk_at "w"
      have e34 := e3.trans e4
      refine ⟨h, l, r, dp_of_raw (ex_t e34 s1) (ex_t e34 s2) (ex_t e34 s3), fun v H5 e5 q5 => ?_⟩
      rw [hee] at q5
      obtain rfl := dp_toOpt q5
      simp only [optV]
      have hsx := sq_of (K := K) (e5 _ _ (e4 _ _ gp))
      walk_at "w"
      refine r_app (K := K) (e5 _ _ (e4 _ _ gp)) (sz_lt (by rw [List.length_map, List.length_map, List.length_range]; omega)) ?_
      walk_at "w"
      exact grow (o := none) (m1 := 0) (d1 := 0) (H5 := H) (e4.trans e5) cn hm
    · obtain ⟨m', F⟩ := turn_some W (fun q => cn ((turn_none W).mpr q))
      have key : endOf l r = none ∨ ∃ ee, endOf l r = some ee ∧ (i : Int) < ee := by
        cases q : endOf l r with
        | none => exact .inl rfl
        | some ee =>
          refine .inr ⟨ee, rfl, Int.not_le.mp fun w => cn ((turn_none W).mpr ?_)⟩
          rw [q]
          exact leO_some.mpr w
      rcases key with he | ⟨ee, he, hee⟩
      case' inl =>
        rw [he] at q4
        obtain rfl := dp_toOpt q4
        simp only [optV]
        have eA := e4
        walk_at "w"
      case' inr =>
        rw [he] at q4
        obtain rfl := dp_toOpt q4
        simp only [optV]
        walk_at "w"
        refine ⟨h, l, r, dp_of_raw (ex_t (e3.trans e4) s1) (ex_t (e3.trans e4) s2) (ex_t (e3.trans e4) s3), fun v H5 e5 q5 => ?_⟩
        rw [he] at q5
        obtain rfl := dp_toOpt q5
        simp only [optV]
        have eA := e4.trans e5
        walk_at "w"
      all_goals
        refine ⟨fun w σ' H6 => ∃ c : Nat, σ' = [some (.ref a1), some (.int m), some (.int d), some (.int ((S : Int) + m)), some (.ref p), some (.int c), some (.int (1 + (i : Int)))] ∧ Ex H3 H6 ∧ (∀ t, t < c → leO (TV h l r t) (some (i : Int)) = true) ∧ w = m' - c, ⟨m' - c0, c0, rfl, eA, hm, rfl⟩, ?_⟩
        rintro w σ' H6 ⟨c, rfl, e6, hm', rfl⟩
        walk_at "w"
        have e36 := e3.trans e6
        refine ⟨h, l, r, some ((c : Int) + 1), dp_of_raw (ex_t e36 s1) (ex_t e36 s2) (ex_t e36 s3), dp_of_opt (p := some _), fun q hq => by cases hq; omega, W.sm, fun v H7 e7 q7 => ?_⟩
        rw [show valueAt h l r (some ((c : Int) + 1)) = TV h l r c from vat_TV c] at q7
        obtain rfl := dp_toOpt q7
        have e67 := e6.trans e7
        have e37 := e3.trans e67
        cases hv : TV h l r c with
        | none =>
          simp only [optV]
          have hsx := sq_of (K := K) (e67 _ _ gp)
          walk_at "w"
          refine r_app (K := K) (e67 _ _ gp) (sz_lt (by rw [List.length_map, List.length_map, List.length_range]; omega)) ?_
          walk_at "w"
          exact grow (o := some (c : Int)) (m1 := 0) (d1 := 0) (H5 := H) e67 (turnF_at ⟨by rw [hv]; rfl, hm'⟩) hm'
        | some v =>
          simp only [optV]
          walk_at "w"
          refine ⟨h, l, r, some ((c : Int) + 1), dp_of_raw (ex_t e37 s1) (ex_t e37 s2) (ex_t e37 s3), dp_of_opt (p := some _), fun q hq => by cases hq; omega, W.sm, fun v H8 e8 q8 => ?_⟩
          rw [show valueAt h l r (some ((c : Int) + 1)) = TV h l r c from vat_TV c, hv] at q8
          obtain rfl := dp_toOpt q8
          simp only [optV]
          have e68 := e67.trans e8
          walk_at "w"
          by_cases cv : v < 1 + (i : Int)
          · walk_at "w"
            refine ⟨_, fun σ2 H2 h2 => h2, ?_⟩
            walk_at "w"
            have hle : leO (TV h l r c) (some (i : Int)) = true := by
              rw [hv, leO_some]
              omega
            have mM : c < m' := by
              by_cases q : c < m'
              · exact q
              · have := leO_trans (gd_mono G (show m' ≤ c by omega)) hle
                rw [F.1] at this
                cases this
            refine ⟨m' - (c + 1), by omega, c + 1, rfl, e68, fun t ht => ?_, rfl⟩
            by_cases q : t = c
            · subst q; exact hle
            · exact hm' t (by omega)
          · have hsx := sq_of (K := K) (e68 _ _ gp)
            walk_at "w"
            refine r_app (K := K) (e68 _ _ gp) (sz_lt (by rw [List.length_map, List.length_map, List.length_range]; omega)) ?_
            walk_at "w"
            exact grow (o := some (c : Int)) (m1 := 0) (d1 := 0) (H5 := H) e68 (turnF_at ⟨by rw [hv]; exact decide_eq_false (by omega), hm'⟩) hm'
  · rintro σ' H3 ⟨c0, x, rfl, e3, gp, _⟩
    rw [show ((S : Int) + m + 1 - 1).toNat = S + m by omega] at gp
    have hL : SqL K H3 p (((List.range (S + m)).map (turnF (TV h l r))).map optV) := sq_of gp
    have lst : atI (((List.range (S + m)).map (turnF (TV h l r))).map optV) (-1) = some (optV (turnF (TV h l r) (S + m - 1))) := by
      obtain ⟨q, hq⟩ : ∃ q, S + m = q + 1 := ⟨S + m - 1, by omega⟩
      rw [hq, List.map_map]
      exact range_last _ _
    walk_at "w"
    refine r_ixL hL lst ?_
    by_cases ce : turnF (TV h l r) (S + m - 1) = none
    · rw [ce]
      simp only [optV]
      walk_at "w"
      refine ⟨p, (List.range (S + m)).map (turnF (TV h l r)), rfl, hL, by rw [List.length_map, List.length_range]; omega, fun p10 H10 n10 e10 h10 => ?_⟩
      walk_at "w"
      intro p11 H11 e11 s11
      walk_at "w"
      intro p12 H12 n12 e12 h12
      walk_at "w"
      intro p13 H13 n13 e13 h13
      exact k _ _ _ [] 0 (e3.trans (by walk_at "ex")) (dp_of_raw (st_of h13) (ex_t e13 (ex_t e12 s11)) (ex_t e13 (st_of h12))) (C.none' ce)
    · obtain ⟨w1, w2, w3, w4⟩ := C.list W ce rfl
      obtain ⟨vv, cv⟩ : ∃ vv, turnF (TV h l r) (S + m - 1) = some vv := by
        cases q : turnF (TV h l r) (S + m - 1) with
        | none => exact absurd q ce
        | some vv => exact ⟨vv, rfl⟩
      rw [cv]
      simp only [optV]
      rw [← w3] at hL
      walk_at "w"
      exact ⟨p, _, S, m, d, rfl, rfl, rfl, hL, w2, C.d0, w1, fun v H10 e10 d10 => k v H10 _ _ _ (e3.trans e10) d10 w4⟩

abbrev N__law_above : List Str := ["first", "second", "start", "many", "n", "climb", "found"]
theorem sc__law_above : FnScope N__law_above ["first", "second"] (defScope s__law_above) := ⟨rfl, rfl, rfl, by decide +kernel, rfl, by decide +kernel, by decide +kernel⟩
theorem ok__law_above {P : Program} {w : World} {K : PySem.W.Frag} {mg : Str → Option Value} {base : Heap} (E : Env P K mg) : Fn P w K mg base CX0 3 "_law_above" (spAbove K) := by
  obtain ⟨fd, F⟩ := E.dd__law_above
  refine Fn.mk0 F E.g__law_above sc__law_above sp2_len (fun _ _ _ _ _ _ us hl => match us, hl with | [_, _], _ => rfl) (fun cdv A outer s H vs Q X hr h => ?_)
  have nd := sc__law_above.nd
  obtain ⟨v0, v1, rfl, h⟩ := h
  refine ⟨_, (pss_cons (ps_set (i := 2) nd rfl (.inl rfl) (pe_callB (xMax2 rfl) (by rfl) E.f_max (by decide +kernel) (pa_cons (pe_callB (kLen K) (by rfl) E.f_len (by decide +kernel) (pa_cons (pe_ix (kIx K) (pv 0) (pe_int) (fun _ _ => rfl)) pa_nil)) (pa_cons (pe_callB (kLen K) (by rfl) E.f_len (by decide +kernel) (pa_cons (pe_ix (kIx K) (pv 1) (pe_int) (fun _ _ => rfl)) pa_nil)) pa_nil))))
  (pss_cons (ps_set (i := 3) nd rfl (.inl rfl) (pe_callB (xMax3 rfl) (by rfl) E.f_max (by decide +kernel) (pa_cons (pe_int) (pa_cons (pe_callB (kLen K) (by rfl) E.f_len (by decide +kernel) (pa_cons (pe_ix (kIx K) (pv 0) (pe_int) (fun _ _ => rfl)) pa_nil)) (pa_cons (pe_callB (kLen K) (by rfl) E.f_len (by decide +kernel) (pa_cons (pe_ix (kIx K) (pv 1) (pe_int) (fun _ _ => rfl)) pa_nil)) pa_nil)))))
  (pss_cut (ps_if (PW.pt (pw_and (pt_cmpR op_gt (pe_callB (kLen K) (by rfl) E.f_len (by decide +kernel) (pa_cons (pe_ix (kIx K) (pv 0) (pe_int) (fun _ _ => rfl)) pa_nil)) (pe_int) (nomark _)) (pw_and1 (pt_cmpR op_gt (pe_callB (kLen K) (by rfl) E.f_len (by decide +kernel) (pa_cons (pe_ix (kIx K) (pv 1) (pe_int) (fun _ _ => rfl)) pa_nil)) (pe_int) (nomark _)))))
   (pss_one (ps_set (i := 3) nd rfl (.inl rfl) (pe_op (kMul K) (pe_op xDiv (pe_callB (kLen K) (by rfl) E.f_len (by decide +kernel) (pa_cons (pe_ix (kIx K) (pv 0) (pe_int) (fun _ _ => rfl)) pa_nil)) (pc (ok__law_gcd E) hr (by decide) pass0 rfl (pa_cons (pe_callB (kLen K) (by rfl) E.f_len (by decide +kernel) (pa_cons (pe_ix (kIx K) (pv 0) (pe_int) (fun _ _ => rfl)) pa_nil)) (pa_cons (pe_callB (kLen K) (by rfl) E.f_len (by decide +kernel) (pa_cons (pe_ix (kIx K) (pv 1) (pe_int) (fun _ _ => rfl)) pa_nil)) pa_nil)))) (pe_callB (kLen K) (by rfl) E.f_len (by decide +kernel) (pa_cons (pe_ix (kIx K) (pv 1) (pe_int) (fun _ _ => rfl)) pa_nil)))))
   pss_nil)
  (pss_cons (ps_for PassesOwn.never rfl (pi_range2 (by rfl) E.f_range (pa_cons (pe_int) (pa_cons (pe_op (kAdd K) (pe_op (kAdd K) (pv 2) (pv 3)) (pe_int)) pa_nil))) (pg_name (i := 4) nd rfl (.inl rfl))
   (pss_one (ps_if (pt_not (kTru K (pc (ok__law_le E) hr (by decide) pass0 rfl (pa_cons (pc (ok__law_at E) hr (by decide) pass0 rfl (pa_cons (pv 0) (pa_cons (pv 4) pa_nil))) (pa_cons (pc (ok__law_at E) hr (by decide) pass0 rfl (pa_cons (pv 1) (pa_cons (pv 4) pa_nil))) pa_nil))) (by intro _; rfl)))
   (pss_one (ps_ret (pv 4)))
   pss_nil)))
  (pss_cons (ps_if (PW.pt (pw_or (pt_cmpR (kEq K hr) (pe_callB (kLen K) (by rfl) E.f_len (by decide +kernel) (pa_cons (pe_ix (kIx K) (pv 0) (pe_int) (fun _ _ => rfl)) pa_nil)) (pe_int) (nomark _)) (pw_or1 (pt_cmpR (kEq K hr) (pe_callB (kLen K) (by rfl) E.f_len (by decide +kernel) (pa_cons (pe_ix (kIx K) (pv 1) (pe_int) (fun _ _ => rfl)) pa_nil)) (pe_int) (nomark _)))))
   (pss_one (ps_ret (pe_non)))
   pss_nil)
  (pss_cons (ps_set (i := 5) nd rfl (.inl rfl) (pe_op xSub (pe_op (kMul K) (pe_ix (kIx K) (pv 0) (pe_int) (fun _ _ => rfl)) (pe_op xDiv (pv 3) (pe_callB (kLen K) (by rfl) E.f_len (by decide +kernel) (pa_cons (pe_ix (kIx K) (pv 0) (pe_int) (fun _ _ => rfl)) pa_nil)))) (pe_op (kMul K) (pe_ix (kIx K) (pv 1) (pe_int) (fun _ _ => rfl)) (pe_op xDiv (pv 3) (pe_callB (kLen K) (by rfl) E.f_len (by decide +kernel) (pa_cons (pe_ix (kIx K) (pv 1) (pe_int) (fun _ _ => rfl)) pa_nil))))))
  (pss_cons (ps_if (pt_cmpR op_le (pv 5) (pe_int) (nomark _))
   (pss_one (ps_ret (pe_non)))
   pss_nil)
  (pss_cons (ps_set (i := 6) nd rfl (.inl rfl) (pe_lst (pa_nil)))
  (pss_cons (ps_for PassesOwn.never rfl (pi_range2 (by rfl) E.f_range (pa_cons (pe_op (kAdd K) (pv 2) (pe_int)) (pa_cons (pe_op (kAdd K) (pe_op (kAdd K) (pv 2) (pv 3)) (pe_int)) pa_nil))) (pg_name (i := 4) nd rfl (.inl rfl))
   (pss_one (ps_expr (kBM K (pe_bm PySem.F.plainAttrs_list PySem.F.slot_list_append PySem.F.type_list_append mt_append (pv 6) (pa_cons (pe_op (kAdd K) (pv 4) (pe_op (kMul K) (pe_op (kAdd K) (pe_op xDiv (pe_op xSub (pc (ok__law_at E) hr (by decide) pass0 rfl (pa_cons (pv 1) (pa_cons (pv 4) pa_nil))) (pc (ok__law_at E) hr (by decide) pass0 rfl (pa_cons (pv 0) (pa_cons (pv 4) pa_nil)))) (pv 5)) (pe_int)) (pv 3))) pa_nil))))))
  (pss_one (ps_ret (pe_callB (kMinL K rfl) (by rfl) E.f_min (by decide +kernel) (pa_cons (pv 6) pa_nil))))))))))))), ?_⟩
  change (_ : TS) _ [some v0, some v1, none, none, none, none, none] H
  try dsimp only [cxOf, Cx.nox, Cx.blk]
  obtain ⟨h1, l1, h2, l2, r1, r2, d1, d2, A1, A2, AZ, k⟩ := h
  obtain ⟨a1, th1, tl1, rfl, s1, s2, s3⟩ := dp_raw d1
  obtain ⟨a2, th2, tl2, rfl, t1, t2, t3⟩ := dp_raw d2
  have zh1 := A1.zh
  have zh2 := A2.zh
  have zl1 := A1.zl
  have zl2 := A2.zl
  have r10 := A1.val.r0
  have r20 := A2.val.r0
  have rr1 := A1.br
  have rr2 := A2.br
  walk_at "w"
  obtain ⟨S, hS⟩ : ∃ S : Nat, (S : Int) = max (h1.length : Int) h2.length := ⟨max h1.length h2.length, by omega⟩
  rw [← hS]
  have S1 : h1.length ≤ S := by omega
  have S2 : h2.length ≤ S := by omega
  have S3 : S ≤ 20000 := by omega
  walk_at "w"
  refine r_max3 ?_
  obtain ⟨mm, hm⟩ : ∃ m : Nat, (m : Int) = max (max (1 : Int) l1.length) l2.length := ⟨max (max 1 l1.length) l2.length, by omega⟩
  rw [← hm]
  walk_at "w"
  refine w_cut (M := fun σ' H' => ∃ m : Nat, σ' = [some (.ref a1), some (.ref a2), some (.int S), some (.int m), none, none, none] ∧ H' = H ∧ 1 ≤ m ∧ m ≤ 20000 ∧ (l1 ≠ [] → l2 ≠ [] → l1.length ∣ m ∧ l2.length ∣ m)) ?_ ?_
  · walk_at "w"
    by_cases c1 : l1 = []
    · subst c1
      walk_at "w"
      exact ⟨mm, rfl, rfl, by omega, by omega, fun e => absurd rfl e⟩
    · have l10 : 0 < l1.length := List.length_pos_iff.mpr c1
      walk_at "w"
      by_cases c2 : l2 = []
      · subst c2
        walk_at "w"
        exact ⟨mm, rfl, rfl, by omega, by omega, fun _ e => absurd rfl e⟩
      · have l20 : 0 < l2.length := List.length_pos_iff.mpr c2
        have g0 : (0 : Int) < Int.gcd l1.length l2.length := by
          have := Int.gcd_pos_of_ne_zero_left (l2.length : Int) (show (l1.length : Int) ≠ 0 by omega)
          omega
        have gg : (Int.gcd l1.length l2.length : Int) ≤ l1.length := Int.le_of_dvd (by omega) (Int.gcd_dvd_left ..)
        have q1 : (l1.length : Int) / (Int.gcd l1.length l2.length : Int) ≤ l1.length := Int.ediv_le_self _ (by omega)
        have q2 : 0 ≤ (l1.length : Int) / (Int.gcd l1.length l2.length : Int) := Int.ediv_nonneg (by omega) (by omega)
        walk_at "w"
        refine ⟨_, _, rfl, rfl, by omega, by omega, ?_⟩
        walk_at "w"
        rw [lcm_div]
        have m0 : 0 < Nat.lcm l1.length l2.length := Nat.lcm_pos l10 l20
        have m1 : Nat.lcm l1.length l2.length ≤ l1.length * l2.length := Nat.le_of_dvd (Nat.mul_pos l10 l20) (Nat.lcm_dvd_mul ..)
        exact ⟨_, rfl, rfl, m0, by omega, fun _ _ => ⟨Nat.dvd_lcm_left .., Nat.dvd_lcm_right ..⟩⟩
  rintro σ' H' ⟨m, rfl, rfl, m0, m16, dv⟩
  walk_at "w"
  refine for_range (lo := 1) (Pv := fun i σ' H2 => ∃ x, σ' = [some (.ref a1), some (.ref a2), some (.int S), some (.int m), x, none, none] ∧ Ex H' H2 ∧ ∀ j, j < i → leO (TV h1 l1 r1 j) (TV h2 l2 r2 j) = true) ⟨_, rfl, Ex.refl _, fun j hj => by omega⟩ ?_ ?_
  · rintro i σ' H2 hi ⟨x, rfl, e, hw⟩
    walk_at "w"
    refine ⟨h1, l1, r1, some (1 + (i : Int)), dp_of_raw (ex_t e s1) (ex_t e s2) (ex_t e s3), dp_of_opt (p := some (1 + (i : Int))), fun m hm => by cases hm; omega, A1.val.sm, fun v H3 e3 q3 => ?_⟩
    rw [vat1] at q3
    obtain rfl := dp_toOpt q3
    walk_at "w"
    have e' := e.trans e3
    refine ⟨h2, l2, r2, some (1 + (i : Int)), dp_of_raw (ex_t e' t1) (ex_t e' t2) (ex_t e' t3), dp_of_opt (p := some (1 + (i : Int))), fun m hm => by cases hm; omega, A2.val.sm, fun v H4 e4 q4 => ?_⟩
    rw [vat1] at q4
    obtain rfl := dp_toOpt q4
    walk_at "w"
    refine ⟨_, _, rfl, rfl, ?_⟩
    walk_at "w"
    cases hb : leO (TV h1 l1 r1 i) (TV h2 l2 r2 i) with
    | true =>
      walk_at "w"
      refine ⟨_, rfl, e'.trans e4, fun j hj => ?_⟩
      by_cases c : j = i
      · rw [c]; exact hb
      · exact hw j (by omega)
    | false =>
      walk_at "w"
      refine k (some (1 + (i : Int))) _ (e'.trans e4) (.inr ⟨i, by rw [show (1 : Int) + i = i + 1 by omega], hb, hw⟩)
  rintro σ' H2 ⟨x, rfl, e, hw⟩
  have hw2 : ∀ j, j < S + m → leO (TV h1 l1 r1 j) (TV h2 l2 r2 j) = true := fun j hj => hw j (by omega)
  clear hw
  have U1 := ex_t e s1
  have U2 := ex_t e s2
  have U3 := ex_t e s3
  have V1 := ex_t e t1
  have V2 := ex_t e t2
  have V3 := ex_t e t3
  walk_at "w"
  by_cases c1 : l1 = []
  · have hall := above_ended S1 S2 m0 (.inl c1) hw2
    subst c1
    walk_at "w"
    exact k none _ e (.inl ⟨rfl, hall⟩)
  · have l10 : 0 < l1.length := List.length_pos_iff.mpr c1
    walk_at "w"
    by_cases c2 : l2 = []
    · have hall := above_ended S1 S2 m0 (.inr c2) hw2
      subst c2
      walk_at "w"
      exact k none _ e (.inl ⟨rfl, hall⟩)
    · have l20 : 0 < l2.length := List.length_pos_iff.mpr c2
      obtain ⟨v1, v2⟩ := dv c1 c2
      have q1 := slp_le (l := l1) r10 (show r1 ≤ 1000000000000 by omega) (show m ≤ 50000 by omega)
      have q2 := slp_le (l := l2) r20 (show r2 ≤ 1000000000000 by omega) (show m ≤ 50000 by omega)
      walk_at "w"
      rw [show r1 * ((m : Int) / l1.length) = slp l1 r1 m from rfl, show r2 * ((m : Int) / l2.length) = slp l2 r2 m from rfl]
      by_cases hc : slp l1 r1 m - slp l2 r2 m ≤ 0
      · walk_at "w"
        exact k none _ e (.inl ⟨rfl, above_le c1 c2 S1 S2 m0 v1 v2 hw2 hc⟩)
      · walk_at "w"
        intro p5 H5 n5 e5 g5
        walk_at "w"
        refine for_range (lo := (S : Int) + 1) (Pv := fun i σ' H3 => ∃ (x : Option V), σ' = [some (.ref a1), some (.ref a2), some (.int S), some (.int m), x, some (.int (slp l1 r1 m - slp l2 r2 m)), some (.ref p5)] ∧ Ex H2 H3 ∧ H3 p5 = some (.lst (vI ((List.range i).map (seenV h1 l1 r1 h2 l2 r2 S m)))))
          ⟨_, rfl, e5, g5⟩ ?_ ?_
        · rintro i σ' H3 hi ⟨x, rfl, e3, gp⟩
          walk_at "w"
          have hsp : SqL K H3 p5 _ := sq_of gp
          walk_at "w"
          refine ⟨h2, l2, r2, some ((S : Int) + 1 + (i : Int)), dp_of_raw (ex_t e3 V1) (ex_t e3 V2) (ex_t e3 V3), dp_of_opt (p := some _), fun n hn => by cases hn; omega, A2.val.sm, fun v H4 e4 q4 => ?_⟩
          rw [vatS S i c2] at q4
          obtain rfl := dp_toOpt q4
          walk_at "w"
          have e' := e3.trans e4
          refine ⟨h1, l1, r1, some ((S : Int) + 1 + (i : Int)), dp_of_raw (ex_t e' U1) (ex_t e' U2) (ex_t e' U3), dp_of_opt (p := some _), fun n hn => by cases hn; omega, A1.val.sm, fun v H6 e6 q6 => ?_⟩
          rw [vatS S i c1] at q6
          obtain rfl := dp_toOpt q6
          simp only [optV]
          walk_at "w"
          rw [show ((S : Int) + 1 + i + ((fV h2 l2 r2 (S + i) - fV h1 l1 r1 (S + i)) / (slp l1 r1 m - slp l2 r2 m) + 1) * m) = seenV h1 l1 r1 h2 l2 r2 S m i from rfl]
          have gp6 := e6 _ _ (e4 _ _ gp)
          refine r_app (K := K) gp6 (sz_lt (by rw [List.length_map, List.length_map, List.length_range]; omega)) ?_
          walk_at "w"
          refine ⟨_, rfl, Ex.mut (e'.trans e6) n5, ?_⟩
          rw [List.range_succ, List.map_append]
          show _ = some (HO.lst (List.map V.int _))
          rw [List.map_append]
          exact upd_same
        · rintro σ' H3 ⟨x, rfl, e3, gp⟩
          rw [show ((S : Int) + m + 1 - ((S : Int) + 1)).toNat = m by omega] at gp
          walk_at "w"
          refine r_minL (sq_of gp) (by rw [List.length_map, List.length_range]; omega) fun v hv hmin => ?_
          obtain ⟨k0, hk0, rfl⟩ := List.mem_map.mp hv
          rw [List.mem_range] at hk0
          exact k (some _) _ (e.trans e3) (above_gt c1 c2 S1 S2 m0 v1 v2 hw2 (by omega) (fun k hk => hmin _ (List.mem_map.mpr ⟨k, List.mem_range.mpr hk, rfl⟩)) ⟨k0, hk0, rfl⟩)

/-- values below a line -/
def Lin (A B : Int) (f : Nat → Option Int) : Prop := ∀ (j : Nat) v, f j = some v → v ≤ A * j + B
theorem Lin.join {A B : Int} {f g : Nat → Option Int} (w : Bool) (a : Lin A B f) (b : Lin A B g) : Lin A B (JV w f g) := fun j v e => (jnO_val e).elim (a j v) (b j v)
theorem Lin.mono {A B A' B' : Int} {f : Nat → Option Int} (a : Lin A B f) (h : A ≤ A') (h' : B ≤ B') : Lin A' B' f := fun j v e => by
  have := a j v e
  have := Int.mul_le_mul_of_nonneg_right h (show (0 : Int) ≤ j by omega)
  omega
theorem tv_hd {h l : List Int} {r : Int} {j : Nat} (c : j < h.length) : TV h l r j = some (gI h j) := tv_head c
theorem tv_lp {h l : List Int} {r : Int} {j : Nat} (c : j < l.length) : TV h l r (h.length + j) = some (gI l j) := by
  have hl : l ≠ [] := fun e => by rw [e] at c; exact Nat.not_lt_zero _ c
  rw [tv_some hl, fV_loop (Nat.le_add_right _ _), show (((h.length + j : Nat) : Int) - h.length) = j by omega, extL_small c]
theorem Lin.comp {h l : List Int} {r A B A' B' : Int} {g : Nat → Option Int} (V : Val h l r) (X : Lin A B (TV h l r)) (Y : Lin A' B' g) (A0 : 0 ≤ A) (B0 : 0 ≤ B) (A0' : 0 ≤ A') (B0' : 0 ≤ B') : Lin (A * A') (A * (B' + h.length) + B) (CV h l r g) := fun j v e => by
  have hh : (0 : Int) ≤ h.length := by omega
  have p1 : 0 ≤ A * (A' * j) := Int.mul_nonneg A0 (Int.mul_nonneg A0' (by omega))
  have p2 : 0 ≤ A * B' := Int.mul_nonneg A0 B0'
  have p3 : 0 ≤ A * (h.length : Int) := Int.mul_nonneg A0 hh
  have key : ∀ x : Int, x ≤ A * (A' * j + B' + h.length) + B → x ≤ A * A' * j + (A * (B' + h.length) + B) := fun x hx => by
    rw [Int.mul_add, Int.mul_add] at hx
    rw [Int.mul_add, Int.mul_assoc]
    omega
  refine key v ?_
  unfold CV at e
  cases q : g j with
  | none =>
    rw [q] at e
    have e2 : endOf l r = some v := e
    unfold endOf at e2
    split at e2
    · cases e2
    · rename_i c
      have hl : l ≠ [] := fun w => c (.inl w)
      have hr : r = 0 := by
        have := V.r0
        have : ¬ r > 0 := fun w => c (.inr w)
        omega
      cases e2
      have l0 : 0 < l.length := List.length_pos_iff.mpr hl
      subst hr
      have x := X h.length (gI l (l.length - 1)) (by rw [tv_some hl, settled V hl (Nat.le_refl _)])
      rw [Int.mul_add, Int.mul_add]
      omega
  | some y =>
    rw [q] at e
    have y1 := Y j y q
    have hy : vat h l r y = some v := e
    by_cases c : y ≤ 0
    · by_cases c0 : y = 0
      · unfold vat at hy
        rw [if_pos c0] at hy
        cases hy
        rw [Int.mul_add, Int.mul_add]
        omega
      · unfold vat at hy
        rw [if_neg c0, if_pos (by omega)] at hy
        cases hy
        by_cases ch : h = []
        · rw [show gI h (y - 1) = 0 by rw [ch]; unfold gI; simp]
          rw [Int.mul_add, Int.mul_add]
          omega
        · have h0 : 0 < h.length := List.length_pos_iff.mpr ch
          have x := X 0 (gI h ((0 : Nat) : Int)) (tv_hd h0)
          rw [show gI h (y - 1) = gI h ((0 : Nat) : Int) by unfold gI; rw [show (y - 1).toNat = 0 by omega]; rfl]
          rw [Int.mul_add, Int.mul_add]
          have := Int.mul_nonneg A0 (show (0 : Int) ≤ ((0 : Nat) : Int) by omega)
          rw [show A * ((0 : Nat) : Int) = 0 from Int.mul_zero A] at x
          omega
    · obtain ⟨i, hi⟩ := Int.eq_ofNat_of_zero_le (show 0 ≤ y - 1 by omega)
      obtain rfl : y = (i : Int) + 1 := by omega
      rw [vat_TV] at hy
      have x := X i v hy
      have := Int.mul_le_mul_of_nonneg_left (show (i : Int) ≤ A' * j + B' + h.length by omega) A0
      omega
/-- what the turn asks -/
def IvOk (h l : List Int) (r : Int) : Prop := lastV h ≤ 40000 ∧ (l ≠ [] → gI l (l.length - 1) ≤ 40000 ∧ gI l 0 + r ≤ 40000)
theorem Lin.iv {h l : List Int} {r A B : Int} (V : Val h l r) (X : Lin A B (TV h l r)) (A0 : 0 ≤ A) (B0 : 0 ≤ B) {m : Nat} (z1 : h.length + l.length ≤ m) (z : A * m + B ≤ 40000) : IvOk h l r := by
  have up : ∀ (j : Nat) v, TV h l r j = some v → j ≤ m → v ≤ 40000 := fun j v e hj => by
    have := X j v e
    have := Int.mul_le_mul_of_nonneg_left (show (j : Int) ≤ (m : Int) by omega) A0
    omega
  refine ⟨?_, fun hl => ?_⟩
  · unfold lastV
    split
    · decide
    · rename_i c
      have h0 : 0 < h.length := List.length_pos_iff.mpr c
      have := up (h.length - 1) _ (tv_hd (show h.length - 1 < h.length by omega)) (by omega)
      rwa [show ((h.length - 1 : Nat) : Int) = (h.length : Int) - 1 by omega] at this
  · have l0 : 0 < l.length := List.length_pos_iff.mpr hl
    refine ⟨?_, ?_⟩
    · have := up _ _ (tv_lp (h := h) (r := r) (show l.length - 1 < l.length by omega)) (by omega)
      rwa [show ((l.length - 1 : Nat) : Int) = (l.length : Int) - 1 by omega] at this
    · have e : TV h l r (h.length + l.length) = some (gI l 0 + r) := by
        have := tv_lp (h := h) (r := r) l0
        rw [Nat.add_zero, tv_some hl] at this
        rw [tv_some hl, fV_per hl (Nat.dvd_refl _) (Nat.le_refl _), slp_self hl, Option.some.inj this]
        rfl
      exact up _ _ e (by omega)
theorem Lin.hd {h l : List Int} {r A B : Int} (X : Lin A B (TV h l r)) (A0 : 0 ≤ A) {m : Nat} (z1 : h.length + l.length ≤ m) {b : Int} (z : A * m + B ≤ b) : (∀ v ∈ h, v ≤ b) ∧ ∀ v ∈ l, v ≤ b := by
  have up : ∀ (j : Nat) v, TV h l r j = some v → j ≤ m → v ≤ b := fun j v e hj => by
    have := X j v e
    have := Int.mul_le_mul_of_nonneg_left (show (j : Int) ≤ (m : Int) by omega) A0
    omega
  refine ⟨fun v hv => ?_, fun v hv => ?_⟩
  · obtain ⟨i, hi, rfl⟩ := List.getElem_of_mem hv
    refine up i _ ?_ (by omega)
    rw [tv_hd hi, ← gI_get hi, List.getElem?_eq_getElem hi]
  · obtain ⟨i, hi, rfl⟩ := List.getElem_of_mem hv
    refine up (h.length + i) _ ?_ (by omega)
    rw [tv_lp hi, ← gI_get hi, List.getElem?_eq_getElem hi]
/-- small tables: with a line above -/
structure Bt (h l : List Int) (r : Int) : Prop extends Bs h l r where
  lin : Lin 12 76 (TV h l r)
theorem RawOk.lin {h l : List Int} {r : Int} (R : RawOk h l r) : Lin 12 76 (TV h l r) := fun j v e => by
  have zh := R.zh
  have zl := R.zl
  have br := R.br
  by_cases hl : l = []
  · subst hl
    by_cases c : j < h.length
    · rw [tv_head c] at e
      cases e
      have := R.bh _ (gI_mem (ns := h) (r := (j : Int)) (by omega) (by omega))
      omega
    · rw [tv_nil rfl (by omega)] at e
      cases e
  · have l0 : 0 < l.length := List.length_pos_iff.mpr hl
    obtain ⟨_, b⟩ := Ln.tab R.val hl zh zl R.bh R.bl br j v e
    have v0 := (Gd.of R.val).nn j v e
    have q1 := Int.mul_le_mul_of_nonneg_right (show (1 : Int) ≤ l.length by omega) v0
    have q2 := Int.mul_le_mul_of_nonneg_right br (show (0 : Int) ≤ (j : Int) + 1 by omega)
    omega
theorem RawOk.bt {h l : List Int} {r : Int} (R : RawOk h l r) : Bt (plainF h l r).1 (plainF h l r).2.1 (plainF h l r).2.2 :=
  ⟨R.bs, by rw [show TV (plainF h l r).1 (plainF h l r).2.1 (plainF h l r).2.2 = TV h l r from funext (plainF_val R.val).2.1]; exact R.lin⟩
theorem Bt.iv {h l : List Int} {r : Int} (X : Bt h l r) : IvOk h l r := X.lin.iv X.val (by decide) (by decide) (m := 8) (by have := X.zh; have := X.zl; omega) (by decide)
/-- the turn of a small table -/
theorem turn_lin {h l : List Int} {r : Int} (V : Val h l r) (zh : h.length ≤ 4) (zl : l.length ≤ 4) : Lin 4 8 (turnF (TV h l r)) := fun j v e => by
  rcases turnF_is (TV h l r) j with ⟨a, _⟩ | ⟨m, a, F⟩
  · rw [e] at a; cases a
  rw [e] at a
  cases a
  have le : ∀ n, leO (TV h l r n) (some (j : Int)) = false → m ≤ n := fun n hn => by
    refine Nat.le_of_not_lt fun c => ?_
    have := F.2 n c
    rw [hn] at this
    cases this
  by_cases hl : l = []
  · have := le h.length (by rw [tv_nil hl (Nat.le_refl _)]; rfl)
    omega
  · by_cases hr : r = 0
    · subst hr
      have h1 := F.1
      by_cases c : m ≤ h.length
      · omega
      · rw [tv_some hl, settled V hl (show h.length ≤ m by omega)] at h1
        have := le h.length (by rw [tv_some hl, settled V hl (Nat.le_refl _)]; exact h1)
        omega
    · have r0 := V.r0
      have g := grows V hl (by omega) j
      have := le (h.length + l.length * (j + 1)) (by rw [tv_some hl]; exact decide_eq_false (by omega))
      have z := Nat.mul_le_mul_right (j + 1) zl
      omega
/-- a turned small table -/
structure Tn (h l h' l' : List Int) (r r' : Int) : Prop where
  pl : Pl (turnF (TV h l r)) h' l' r'
  val : Val h' l' r'
  zh : h'.length ≤ 172
  zl : l'.length ≤ 12
  br : r' ≤ 4
  lin : Lin 4 8 (TV h' l' r')
theorem Trn.tn {h l h' l' : List Int} {r r' : Int} (X : Bt h l r) (T : Trn h l r h' l' r') : Tn h l h' l' r r' := by
  obtain ⟨b1, b2⟩ := X.lin.hd (by decide) (m := 8) (by have := X.zh; have := X.zl; omega) (b := 172) (by decide)
  have zl := X.zl
  have br := X.br
  refine ⟨T.pl, T.pl.val, T.zh 172 b1 b2, ?_, ?_, ?_⟩
  · by_cases c : l' = []
    · rw [c]; decide
    · rcases T.dv c with e | ⟨_, a, b⟩
      · omega
      · have := Int.le_of_dvd a b
        omega
  · have := T.br
    omega
  · rw [funext T.pl.tv]
    exact turn_lin X.val X.zh X.zl
theorem Tn.iv {h l h' l' : List Int} {r r' : Int} (X : Tn h l h' l' r r') : IvOk h' l' r' := X.lin.iv X.val (by decide) (by decide) (m := 184) (by have := X.zh; have := X.zl; omega) (by decide)
theorem Tn.twice {h l h' l' h2 l2 : List Int} {r r' r2 : Int} (X : Bs h l r) (T : Tn h l h' l' r r') (T2 : Trn h' l' r' h2 l2 r2) : h2 = h ∧ l2 = l ∧ r2 = r := by
  have e : turnF (TV h' l' r') = TV h l r := by
    rw [funext T.pl.tv]
    exact (turnF_is _).uniq ((turnF_is (TV h l r)).twice (Gd.of X.val))
  have P := T2.pl
  rw [e] at P
  exact P.uniq ⟨X.val, X.pf, fun _ => rfl⟩

theorem Bs.srP {P : Nat} {h l h' l' : List Int} {r r' : Int} (hP : 0 < P) (X : Bs h l r) (Y : Bs h' l' r') : Sr P 640 (TV h l r) (TV h' l' r') := by
  intro a b sa sb hab
  have c := slo_tabp sa
  have c' := slo_tabp sb
  have z := len_le X.zl c
  have z' := len_le Y.zl c'
  exact sr_line (c := 1) (d := 1) (A := r) (B := l.length) (A' := r') (B' := l'.length) (by rw [Int.mul_one, Int.mul_one]; exact X.ln c) (by rw [Int.mul_one, Int.mul_one]; exact Y.ln c') (by decide) (by decide) z.1 z'.1 hP (by omega) a b sa sb hab
theorem slp_smP {P : Nat} {l : List Int} {r b : Int} (h0 : 0 ≤ r) (h1 : r ≤ b) : slp l r P ≤ b * P := by
  unfold slp
  have a : (P : Int) / l.length ≤ P := Int.ediv_le_self _ (by omega)
  have b0 : 0 ≤ (P : Int) / l.length := Int.ediv_nonneg (by omega) (by omega)
  exact Int.mul_le_mul h1 a b0 (by omega)
theorem Bs.cl12 {h l : List Int} {r : Int} (R : Bs h l r) : Cl 12 640 h l r :=
  ⟨R.val, by have := R.zh; omega, dvd12 R.zl, by
    have := slp_smP (P := 12) (l := l) R.val.r0 R.br
    omega, fun _ => by have := R.zh; omega⟩
theorem Lin.br {h l : List Int} {r A B : Int} (V : Val h l r) (hl : l ≠ []) (X : Lin A B (TV h l r)) (A0 : 0 ≤ A) (B0 : 0 ≤ B) : r ≤ A * l.length := by
  refine Int.not_lt.mp fun q => ?_
  have hh : (0 : Int) ≤ A * h.length := Int.mul_nonneg A0 (by omega)
  obtain ⟨t, ht⟩ := Int.eq_ofNat_of_zero_le (show 0 ≤ A * (h.length : Int) + B + 1 by omega)
  have x := X (h.length + l.length * t) _ (tv_some hl)
  rw [fV_perN hl (Nat.dvd_refl _) (Nat.le_refl _), slp_self hl] at x
  have v0 := fV_nn V h.length
  have e : A * ((h.length + l.length * t : Nat) : Int) = A * h.length + A * l.length * t := by
    rw [Int.natCast_add, Int.natCast_mul, Int.mul_add, Int.mul_assoc]
  rw [e] at x
  have := Int.mul_le_mul_of_nonneg_right (show A * l.length + 1 ≤ r by omega) (show (0 : Int) ≤ (t : Int) by omega)
  rw [Int.add_mul] at this
  omega
/-- two small tables joined -/
structure Jt (h l : List Int) (r : Int) : Prop where
  val : Val h l r
  zh : h.length ≤ 664
  zl : l.length ≤ 12
  br : r ≤ 144
  lin : Lin 12 76 (TV h l r)
theorem jt_join {g : Bool} {h1 l1 h2 l2 h l : List Int} {r1 r2 r : Int} (X : Bt h1 l1 r1) (Y : Bt h2 l2 r2) (C : Cl 12 640 h l r) (P : Pl (JV g (TV h1 l1 r1) (TV h2 l2 r2)) h l r) : Jt h l r := by
  have L : Lin 12 76 (TV h l r) := by
    rw [funext P.tv]
    exact X.lin.join g Y.lin
  have zl := C.zl (by decide)
  refine ⟨C.val, C.zh, zl, ?_, L⟩
  by_cases hl : l = []
  · rw [C.val.e0 hl]; decide
  · have := L.br C.val hl (by decide) (by decide)
    omega
theorem Jt.iv {h l : List Int} {r : Int} (X : Jt h l r) : IvOk h l r := X.lin.iv X.val (by decide) (by decide) (m := 676) (by have := X.zh; have := X.zl; omega) (by decide)
theorem Jt.smp {h l h' l' : List Int} {r r' : Int} (X : Jt h l r) (T : Trn h l r h' l' r') : SmP h' l' r' ∧ l'.length ≤ 144 := by
  obtain ⟨b1, b2⟩ := X.lin.hd (by decide) (m := 676) (by have := X.zh; have := X.zl; omega) (b := ((8188 : Nat) : Int)) (by decide)
  have zh := T.zh 8188 b1 b2
  have zl := X.zl
  have br := X.br
  have br' := T.br
  have zl' : l'.length ≤ 144 := by
    by_cases c : l' = []
    · rw [c]; decide
    · rcases T.dv c with e | ⟨_, a, b⟩
      · omega
      · have := Int.le_of_dvd a b
        omega
  exact ⟨⟨T.pl.val, by omega, by omega, by omega⟩, zl'⟩
theorem Tn.smp {h l h' l' : List Int} {r r' : Int} (T : Tn h l h' l' r r') : SmP h' l' r' ∧ l'.length ≤ 12 :=
  ⟨⟨T.val, by have := T.zh; omega, by have := T.zl; omega, by have := T.br; omega⟩, T.zl⟩
/-- slopes of turns -/
theorem trn_slo {P : Nat} {h l : List Int} {r a : Int} (V : Val h l r) (S : Slo P (turnF (TV h l r)) a) : (l = [] ∧ a = 0) ∨ (l ≠ [] ∧ 0 < r) := by
  obtain ⟨c, hc⟩ := S
  by_cases hl : l = []
  · subst hl
    obtain ⟨n, en⟩ := Int.eq_ofNat_of_zero_le (lastV_nn V)
    obtain ⟨v, e1, e2⟩ := hc (c + n) (by omega)
    rw [turnF_at (turn_ended V (by omega))] at e1
    rw [turnF_at (turn_ended V (by omega))] at e2
    have := Option.some.inj e1
    have := Option.some.inj e2
    exact .inl ⟨rfl, by omega⟩
  · have r0 := V.r0
    by_cases hr : r = 0
    · subst hr
      obtain ⟨n, en⟩ := Int.eq_ofNat_of_zero_le (gI_nn V.p2 ((l.length : Int) - 1))
      obtain ⟨v, e1, _⟩ := hc (c + n) (by omega)
      rw [turnF_no fun m => by
        rw [tv_some hl, leO_some]
        have := settled_le V hl m
        omega] at e1
      cases e1
    · exact .inr ⟨hl, by omega⟩
theorem Bs.turn_ln {h l : List Int} {r : Int} (X : Bs h l r) (hl : l ≠ []) : Ln l.length r (64 + r + l.length) (96 + r + l.length) (turnF (TV h l r)) :=
  (X.ln hl).turn (Gd.of X.val) X.val.r0 (by omega) (by decide) (by decide) fun j => by rw [tv_some hl]; intro e; cases e
theorem turn_sr {P : Nat} {h l h' l' : List Int} {r r' : Int} (hP : 0 < P) (X : Bs h l r) (Y : Bs h' l' r') : Sr P 3000 (turnF (TV h l r)) (turnF (TV h' l' r')) := by
  intro a b sa sb hab
  have g0 := Slo.nn (turnF_gd _) sb
  rcases trn_slo X.val sa with ⟨_, e⟩ | ⟨c, r0⟩
  · omega
  have L := X.turn_ln c
  have z := len_le X.zl c
  have br := X.br
  rcases trn_slo Y.val sb with ⟨c', e⟩ | ⟨c', r0'⟩
  · have L' : Ln 0 1 0 4 (turnF (TV h' l' r')) := fun j v e => by
      have v0 := (turnF_gd (TV h' l' r')).nn j v e
      rcases turnF_is (TV h' l' r') j with ⟨a, _⟩ | ⟨m, a, F⟩
      · rw [e] at a; cases a
      rw [e] at a
      cases a
      have : m ≤ h'.length := Nat.le_of_not_lt fun q => by
        have := F.2 _ q
        rw [tv_nil c' (Nat.le_refl _)] at this
        cases this
      have := Y.zh
      omega
    exact sr_line (c := 1) (d := 1) (A := l.length) (B := r) (A' := 0) (B' := 1) (by rw [Int.mul_one, Int.mul_one]; exact L) (by rw [Int.mul_one, Int.mul_one]; exact L') (by decide) (by decide) (by omega) (by decide) hP (by omega) a b sa sb hab
  · have L' := Y.turn_ln c'
    have z' := len_le Y.zl c'
    have br' := Y.br
    have m1 : r' * (64 + r + l.length) ≤ 12 * 80 := Int.mul_le_mul br' (by omega) (by omega) (by decide)
    have m2 : r * (96 + r' + l'.length) ≤ 12 * 112 := Int.mul_le_mul br (by omega) (by omega) (by decide)
    exact sr_line (c := 1) (d := 1) (A := l.length) (B := r) (A' := l'.length) (B' := r') (by rw [Int.mul_one, Int.mul_one]; exact L) (by rw [Int.mul_one, Int.mul_one]; exact L') (by decide) (by decide) (by omega) (by omega) hP (by omega) a b sa sb hab
def ppn (l : List Int) : Nat := max 1 l.length
theorem ppn_0 (l : List Int) : 1 ≤ ppn l := Nat.le_max_left ..
theorem ppn_le {l : List Int} {b : Nat} (h : l.length ≤ b) (hb : 1 ≤ b) : ppn l ≤ b := Nat.max_le.mpr ⟨hb, h⟩
theorem ppn_at {l : List Int} (h : l ≠ []) : ppn l = l.length := Nat.max_eq_right (List.length_pos_iff.mpr h)
theorem Tn.cl {P : Nat} {h l h' l' : List Int} {r r' : Int} (T : Tn h l h' l' r r') (hd : l' ≠ [] → l'.length ∣ P) (zP : P ≤ 2000) : Cl P 3000 h' l' r' :=
  ⟨T.val, by have := T.zh; omega, hd, by
    have := slp_smP (P := P) (l := l') T.val.r0 T.br
    omega, fun _ => by have := T.zh; omega⟩
section
variable {P : Program} {K : PySem.W.Frag} {mg : Str → Option Value} {H : Hp} {Q : VK}
theorem r_joinT {g : Bool} {x y : Addr} {h1 l1 h2 l2 h1' l1' h2' l2' : List Int} {r1 r2 r1' r2' : Int} (t1 : TabAt K H x h1' l1' r1') (t2 : TabAt K H y h2' l2' r2') (X : Bs h1 l1 r1) (Y : Bs h2 l2 r2) (T1 : Tn h1 l1 h1' l1' r1 r1') (T2 : Tn h2 l2 h2' l2' r2 r2')
    (k : ∀ z H', Ex H H' → TP K H' z (JV g (turnF (TV h1 l1 r1)) (turnF (TV h2 l2 r2))) → Q (.ref z) H') : rOwnB (He.ga K "Table") (spTB g K) (.ref x) (.ref y) H Q := by
  have z1 : ppn l1' ≤ 12 := ppn_le T1.zl (by decide)
  have z2 : ppn l2' ≤ 12 := ppn_le T2.zl (by decide)
  have zP : ppn l1' * ppn l2' ≤ 12 * 12 := Nat.mul_le_mul z1 z2
  have hP : 0 < ppn l1' * ppn l2' := Nat.mul_pos (ppn_0 _) (ppn_0 _)
  exact r_opTB (PP := ppn l1' * ppn l2') (N := 3000) ⟨h1', l1', r1', t1, T1.cl (fun c => by rw [ppn_at c]; exact Nat.dvd_mul_right ..) (by omega), T1.pl⟩ ⟨h2', l2', r2', t2, T2.cl (fun c => by rw [ppn_at c]; exact Nat.dvd_mul_left ..) (by omega), T2.pl⟩
    hP (by omega) (by decide) (turn_sr hP X Y) (turn_sr hP Y X) fun z H' e t => k z H' e t.tp
theorem r_joinS {g : Bool} {x y : Addr} {h1 l1 h2 l2 : List Int} {r1 r2 : Int} (t1 : TabAt K H x h1 l1 r1) (t2 : TabAt K H y h2 l2 r2) (X : Bt h1 l1 r1) (Y : Bt h2 l2 r2)
    (k : ∀ z H' h l r, Ex H H' → TabAt K H' z h l r → Jt h l r → Pl (JV g (TV h1 l1 r1) (TV h2 l2 r2)) h l r → Q (.ref z) H') : rOwnB (He.ga K "Table") (spTB g K) (.ref x) (.ref y) H Q :=
  r_opTB (PP := 12) (N := 640) ⟨h1, l1, r1, t1, X.cl12, X.val, X.pf, fun _ => rfl⟩ ⟨h2, l2, r2, t2, Y.cl12, Y.val, Y.pf, fun _ => rfl⟩ (by decide) (by decide) (by decide) (X.toBs.srP (by decide) Y.toBs) (Y.toBs.srP (by decide) X.toBs)
    fun z H' e ⟨h, l, r, a, C, P⟩ => k z H' h l r e a (jt_join X Y C P) P
end

section
variable {P : Program} {K : PySem.W.Frag} {mg : Str → Option Value} {H : Hp} {Q : VK}
theorem r_invT {x : Addr} {h l : List Int} {r : Int} (t : TabAt K H x h l r) (V : Val h l r) (iv : IvOk h l r) (k : ∀ z H' h' l' r', Ex H H' → TabAt K H' z h' l' r' → Trn h l r h' l' r' → Q (.ref z) H') : rOwnI (He.ga K "Table") (spInv K) (.ref x) H Q := by
  obtain ⟨dx, th, tl, i, _⟩ := id t
  exact r_ownI i ⟨x, h, l, r, rfl, t, V, iv.1, iv.2, k⟩
end
abbrev spUnder (K : PySem.W.Frag) : Sp := sp2 fun x y H Q _ => ∃ (p q : Addr) (h1 l1 h2 l2 : List Int) (r1 r2 : Int), x = .ref p ∧ y = .ref q ∧ TabAt K H p h1 l1 r1 ∧ TabAt K H q h2 l2 r2 ∧ Val h1 l1 r1 ∧ Val h2 l2 r2 ∧ IvOk h2 l2 r2 ∧ r1 ≤ 1000000 ∧
  (∀ h' l' r', Trn h2 l2 r2 h' l' r' → h1.length + l1.length * (h'.length + l'.length + 1) ≤ 40000 ∧ r' ≤ 1000000 ∧ ∀ h l r, Cmp h' l' r' h1 l1 r1 h l r → IvOk h l r) ∧
  ∀ z H' h' l' r' hc lc rc h l r, Ex H H' → TabAt K H' z h l r → Trn h2 l2 r2 h' l' r' → Cmp h' l' r' h1 l1 r1 hc lc rc → Trn hc lc rc h l r → Q (.ref z) H'
abbrev N_under : List Str := ["first", "second"]
theorem sc_under : FnScope N_under ["first", "second"] (defScope s_under) := ⟨rfl, rfl, rfl, by decide +kernel, rfl, by decide +kernel, by decide +kernel⟩
theorem ok_under {P : Program} {w : World} {K : PySem.W.Frag} {mg : Str → Option Value} {base : Heap} (E : Env P K mg) : Fn P w K mg base CX0 14 "under" (spUnder K) := by
  obtain ⟨fd, F⟩ := E.dd_under
  refine Fn.mk0 F E.g_under sc_under sp2_len (fun _ _ _ _ _ _ us hl => match us, hl with | [_, _], _ => rfl) (fun cdv A outer s H vs Q X hr h => ?_)
  have nd := sc_under.nd
  obtain ⟨v0, v1, rfl, h⟩ := h
  refine ⟨_, (pss_one (ps_ret (pe_un (kOwnI K (ok_Table_invert E) hr (by decide)) (pe_op (kOwnB K (ok_Table_mul E) hr (by decide)) (pe_un (kOwnI K (ok_Table_invert E) hr (by decide)) (pv 1)) (pv 0))))), ?_⟩
  change (_ : TS) _ [some v0, some v1] H
  try dsimp only [cxOf, Cx.nox, Cx.blk]
  obtain ⟨p, q, h1, l1, h2, l2, r1, r2, rfl, rfl, t1, t2, V1, V2, iv, z1, ok, k⟩ := h
  walk_at "w"
  refine r_invT t2 V2 iv fun a H1 h' l' r' e1 ta T => ?_
  obtain ⟨o1, o2, o3⟩ := ok h' l' r' T
  walk_at "w"
  refine r_mulT ta (ex_tab e1 t1) T.pl.val V1 o1 o2 z1 fun b H2 hc lc rc e2 tb C => ?_
  walk_at "w"
  refine r_invT tb C.pl.val (o3 hc lc rc C) fun c H3 h l r e3 tc T2 => ?_
  walk_at "w"
  exact k c H3 h' l' r' hc lc rc h l r ((e1.trans e2).trans e3) tc T C T2
theorem w_lstRg2 {K : PySem.W.Frag} {m n : Int} {σ : L2.St} {H : Hp} {Q : VK} (ok : RgOk m n) (q : ∀ p H1, H p = none → Ex H H1 → H1 p = some (.lst (rgV m n)) → Q (.ref p) H1) : tLstRg (tRg2 (tC (.int m)) (tC (.int n))) σ H Q := ⟨m, n, rfl, rfl, ok, fun p hp => q p _ hp (Ex.new hp) upd_same⟩
theorem turn_back {h l : List Int} {r : Int} (V : Val h l r) {j m : Nat} (F : Fst (TV h l r) j m) : ∃ w, valueAt h l r (some (m : Int)) = some w ∧ w ≤ j := by
  cases m with
  | zero => exact ⟨0, vat_zero h l r, by omega⟩
  | succ t =>
    have := F.2 t (Nat.lt_succ_self t)
    cases e : TV h l r t with
    | none => rw [e] at this; cases this
    | some v =>
      rw [e, leO_some] at this
      exact ⟨v, (vat_TV t).trans e, this⟩
theorem turn_fwd {h l : List Int} {r : Int} {j m : Nat} (F : Fst (TV h l r) j m) {v : Int} (e : TV h l r m = some v) : (j : Int) + 1 ≤ v := by
  have := F.1
  rw [e] at this
  exact Int.not_lt.mp fun q => by rw [leO_some.mpr (show v ≤ (j : Int) by omega)] at this; cases this
theorem RawOk.iv {h l : List Int} {r : Int} (R : RawOk h l r) : IvOk h l r := R.lin.iv R.val (by decide) (by decide) (m := 8) (by have := R.zh; have := R.zl; omega) (by decide)
theorem turn_plain {h l : List Int} {r : Int} (V : Val h l r) : turnF (TV (plainF h l r).1 (plainF h l r).2.1 (plainF h l r).2.2) = turnF (TV h l r) := by rw [funext (plainF_val V).2.1]

theorem cmp_iv {h1 l1 h2 l2 h l : List Int} {r1 r2 r : Int} (X : Bt h1 l1 r1) (Y : Bt h2 l2 r2) (C : Cmp h1 l1 r1 h2 l2 r2 h l r) : IvOk h l r := by
  obtain ⟨_, a, b, _⟩ := C.cl X.toBs Y.toBs
  have L : Lin 144 1036 (TV h l r) := by
    rw [funext C.pl.tv]
    exact (X.lin.comp X.val Y.lin (by decide) (by decide) (by decide) (by decide)).mono (by decide) (by have := X.zh; omega)
  exact L.iv C.pl.val (by decide) (by decide) (m := 168) (by omega) (by decide)
theorem turn_join {g : Bool} {h1 l1 h2 l2 h l : List Int} {r1 r2 r : Int} (V1 : Val h1 l1 r1) (V2 : Val h2 l2 r2) (P : Pl (JV g (TV h1 l1 r1) (TV h2 l2 r2)) h l r) :
    turnF (TV h l r) = JV (!g) (turnF (TV h1 l1 r1)) (turnF (TV h2 l2 r2)) := by
  rw [funext P.tv]
  exact (turnF_is _).uniq (IsTurn.join (Gd.of V1) (Gd.of V2) (turnF_gd _) (turnF_gd _) (turnF_is _) (turnF_is _))
theorem turn_anti {f f' : Nat → Option Int} (h : ∀ j, leO (f j) (f' j) = true) (j : Nat) : leO (turnF f' j) (turnF f j) = true := IsTurn.anti (turnF_is f) (turnF_is f') h j
theorem turn_le {f f' : Nat → Option Int} (G : Gd f) (G' : Gd f') : (∀ j, leO (turnF f' j) (turnF f j) = true) ↔ ∀ j, leO (f j) (f' j) = true :=
  ⟨fun h => IsTurn.anti' G G' (turnF_is f) (turnF_is f') h, turn_anti⟩
theorem lst_iff {f g : Nat → Option Int} {o : Option Int} (L : Lst f g o) : o = none ↔ ∀ j, leO (f j) (g j) = true := by
  refine ⟨fun e => ?_, lst_none L⟩
  rcases L with ⟨_, h⟩ | ⟨n, a, _⟩
  · exact h
  · rw [e] at a; cases a
theorem up_le {a b : Option Int} : leO a (jnO true a b) = true := by
  rw [leO_jnr, if_pos rfl, leO_refl]; rfl
theorem RawOk.sm {h l : List Int} {r : Int} (R : RawOk h l r) : Sm h l r := ⟨R.val, by have := R.zh; omega, R.zl, by have := R.br; omega⟩
theorem sh_plain {k : Int} (h0 : -5 ≤ k) (h1 : k ≤ 5) : plainF (shH k) (shL k) 1 = (shH k, shL k, 1) := by
  have : k = -5 ∨ k = -4 ∨ k = -3 ∨ k = -2 ∨ k = -1 ∨ k = 0 ∨ k = 1 ∨ k = 2 ∨ k = 3 ∨ k = 4 ∨ k = 5 := by omega
  rcases this with rfl | rfl | rfl | rfl | rfl | rfl | rfl | rfl | rfl | rfl | rfl <;> first | rfl | decide
theorem sh_inv (k : Int) : turnF (TV (shH k) (shL k) 1) = TV (shH (-1 - k)) (shL (-1 - k)) 1 := (turnF_is _).uniq (sh_turn k)
theorem tab_sh {K : PySem.W.Frag} {H : Hp} {x : Addr} {k : Int} (h0 : -5 ≤ k) (h1 : k ≤ 5) (t : TabAt K H x (plainF (shH k) (shL k) 1).1 (plainF (shH k) (shL k) 1).2.1 (plainF (shH k) (shL k) 1).2.2) : TabAt K H x (shH k) (shL k) 1 := by
  rwa [sh_plain h0 h1] at t

/-- with bounds of the entries -/
structure Bv (h l : List Int) (r : Int) : Prop extends Bt h l r where
  bh : ∀ v ∈ h, v ≤ 16
  bl : ∀ v ∈ l, v ≤ 16
theorem RawOk.at16 {h l : List Int} {r : Int} (R : RawOk h l r) {j : Nat} {v : Int} (e : TV h l r j = some v) (hj : j < h.length + l.length) : v ≤ 16 := by
  by_cases c : j < h.length
  · rw [tv_hd c] at e
    cases e
    have := R.bh _ (gI_mem (ns := h) (r := (j : Int)) (by omega) (by omega))
    omega
  · obtain ⟨i, rfl⟩ : ∃ i, j = h.length + i := ⟨j - h.length, by omega⟩
    rw [tv_lp (by omega)] at e
    cases e
    exact R.bl _ (gI_mem (ns := l) (r := (i : Int)) (by omega) (by omega))
theorem RawOk.bv {h l : List Int} {r : Int} (R : RawOk h l r) : Bv (plainF h l r).1 (plainF h l r).2.1 (plainF h l r).2.2 := by
  obtain ⟨_, _, _, _, z1, z2⟩ := plainF_ok R.val
  have tv := (plainF_val R.val).2.1
  refine ⟨R.bt, fun v hv => ?_, fun v hv => ?_⟩
  · obtain ⟨i, hi, rfl⟩ := List.getElem_of_mem hv
    refine R.at16 (j := i) ?_ (by omega)
    rw [← tv, tv_hd hi, ← gI_get hi, List.getElem?_eq_getElem hi]
  · obtain ⟨i, hi, rfl⟩ := List.getElem_of_mem hv
    refine R.at16 (j := (plainF h l r).1.length + i) ?_ (by omega)
    rw [← tv, tv_lp hi, ← gI_get hi, List.getElem?_eq_getElem hi]
theorem Trn.zh16 {h l h' l' : List Int} {r r' : Int} (X : Bv h l r) (T : Trn h l r h' l' r') : h'.length ≤ 16 := T.zh 16 X.bh X.bl
/-- a small table behind a turned small one -/
structure Cu (h l : List Int) (r : Int) : Prop where
  val : Val h l r
  zh : h.length ≤ 72
  zl : l.length ≤ 48
  br : r ≤ 48
  lin : Lin 48 376 (TV h l r)
theorem cu_of {h l h' l' h1 l1 hc lc : List Int} {r r' r1 rc : Int} (T : Tn h l h' l' r r') (z : h'.length ≤ 16) (X : Bt h1 l1 r1) (C : Cmp h' l' r' h1 l1 r1 hc lc rc) : Cu hc lc rc := by
  have a1 := X.zh
  have a2 := X.zl
  have a3 := T.zl
  have zh := C.zh
  have m1 : l1.length * (h'.length + 1) ≤ 4 * 17 := Nat.mul_le_mul a2 (by omega)
  have m2 : l1.length * l'.length ≤ 4 * 12 := Nat.mul_le_mul a2 a3
  refine ⟨C.pl.val, by omega, ?_, ?_, ?_⟩
  · by_cases c : lc = []
    · rw [c]; decide
    · rcases C.dv c with e | ⟨c1, c2, d⟩
      · omega
      · have := Nat.le_of_dvd (Nat.mul_pos (List.length_pos_iff.mpr c2) (List.length_pos_iff.mpr c1)) d
        omega
  · have := C.br
    have m3 : r' * r1 ≤ 4 * 12 := Int.mul_le_mul T.br X.br X.val.r0 (by decide)
    omega
  · rw [funext C.pl.tv]
    exact (T.lin.comp T.val X.lin (by decide) (by decide) (by decide) (by decide)).mono (by decide) (by omega)
theorem Cu.iv {h l : List Int} {r : Int} (X : Cu h l r) : IvOk h l r := X.lin.iv X.val (by decide) (by decide) (m := 120) (by have := X.zh; have := X.zl; omega) (by decide)
/-- the residue -/
structure Du (h l : List Int) (r : Int) : Prop where
  val : Val h l r
  pf : plainF h l r = (h, l, r)
  zh : h.length ≤ 6136
  zl : l.length ≤ 48
  br : r ≤ 48
theorem Cu.du {h l h' l' : List Int} {r r' : Int} (X : Cu h l r) (T : Trn h l r h' l' r') : Du h' l' r' := by
  obtain ⟨b1, b2⟩ := X.lin.hd (by decide) (m := 120) (by have := X.zh; have := X.zl; omega) (b := ((6136 : Nat) : Int)) (by decide)
  have zl := X.zl
  have br := X.br
  refine ⟨T.pl.val, T.pl.pf, T.zh 6136 b1 b2, ?_, ?_⟩
  · by_cases c : l' = []
    · rw [c]; decide
    · rcases T.dv c with e | ⟨_, a, b⟩
      · omega
      · have := Int.le_of_dvd a b
        omega
  · have := T.br
    omega
/-- u is the residue of g under f: at each place the greatest count at which f is at most g there -/
def Res (f g u : Nat → Option Int) : Prop := ∀ j, (u j = none ∧ ∀ i, leO (f i) (g j) = true) ∨ ∃ m : Nat, u j = some (m : Int) ∧ leO (f m) (g j) = false ∧ ∀ i, i < m → leO (f i) (g j) = true
theorem leO_none' {x : Option Int} : leO none x = true ↔ x = none := by
  cases x with
  | none => exact ⟨fun _ => rfl, fun _ => rfl⟩
  | some v => exact ⟨fun h => (by cases h), fun h => (by cases h)⟩
theorem leO_zero {x : Option Int} (h : ∀ v, x = some v → 0 ≤ v) : leO (some 0) x = true := by
  cases x with
  | none => rfl
  | some v => exact leO_some.mpr (h v rfl)
theorem und_key {hg lg h' l' : List Int} {rg r' : Int} {f : Nat → Option Int} (Vg : Val hg lg rg) (Gf : Gd f) (P : Pl (turnF (TV hg lg rg)) h' l' r') (i j : Nat) : leO (CV h' l' r' f i) (some (j : Int)) = leO (f i) (TV hg lg rg j) := by
  have T2 : IsTurn (TV h' l' r') (TV hg lg rg) := by
    rw [funext P.tv]
    exact (turnF_is _).twice (Gd.of Vg)
  have Gg := Gd.of Vg
  unfold CV
  cases e : f i with
  | none =>
    rw [Bool.eq_iff_iff, leO_none', T2.uniq (turnF_is _)]
    exact (turn_none P.val).symm
  | some v =>
    have v0 := Gf.nn i v e
    by_cases c : v = 0
    · subst c
      rw [vat_zero, leO_zero (Gg.nn j), leO_some.mpr (by omega)]
    · obtain ⟨t, ht⟩ := Int.eq_ofNat_of_zero_le (show 0 ≤ v - 1 by omega)
      obtain rfl : v = (t : Int) + 1 := by omega
      rw [show valueAt h' l' r' (some ((t : Int) + 1)) = TV h' l' r' t from vat_TV t]
      exact T2.gal (Gd.of P.val) t j
theorem und_res {hg lg h' l' : List Int} {rg r' : Int} {f : Nat → Option Int} (Vg : Val hg lg rg) (Gf : Gd f) (P : Pl (turnF (TV hg lg rg)) h' l' r') : Res f (TV hg lg rg) (turnF (CV h' l' r' f)) := fun j => by
  rcases turnF_is (CV h' l' r' f) j with ⟨e, h⟩ | ⟨m, e, F⟩
  · exact .inl ⟨e, fun i => by rw [← und_key Vg Gf P]; exact h i⟩
  · exact .inr ⟨m, e, by rw [← und_key Vg Gf P]; exact F.1, fun i hi => by rw [← und_key Vg Gf P]; exact F.2 i hi⟩
theorem Res.nn {f g u : Nat → Option Int} (R : Res f g u) : ∀ j v, u j = some v → 0 ≤ v := fun j v e => by
  rcases R j with ⟨a, _⟩ | ⟨m, a, _⟩
  · rw [e] at a; cases a
  · rw [e] at a; cases a; omega
theorem res_key {h1 l1 : List Int} {r1 : Int} {g u : Nat → Option Int} (V1 : Val h1 l1 r1) (Gg : Gd g) (R : Res (TV h1 l1 r1) g u) {p : Option Int} (hp : Cnt p) (j : Nat) : leO (valueAt h1 l1 r1 p) (g j) = leO p (u j) := by
  have E := end_of_tab V1
  have G := Gd.of V1
  rcases at_cases hp with rfl | rfl | ⟨t, rfl⟩
  · rw [Bool.eq_iff_iff, leO_none']
    rcases R j with ⟨a, al⟩ | ⟨m, a, b, _⟩
    · exact ⟨fun _ => a, fun _ => E.lo _ al⟩
    · refine ⟨fun h => ?_, fun h => (by rw [a] at h; cases h)⟩
      have := leO_trans (E.up m) h
      rw [b] at this
      cases this
  · rw [vat_zero, leO_zero (Gg.nn j), leO_zero (R.nn j)]
  · rw [show valueAt h1 l1 r1 (some ((t : Int) + 1)) = TV h1 l1 r1 t from vat_TV t]
    rcases R j with ⟨a, al⟩ | ⟨m, a, b, c⟩
    · rw [a, al t]; rfl
    · rw [a]
      by_cases q : t < m
      · rw [c t q, leO_some.mpr (by omega)]
      · have e1 : leO (TV h1 l1 r1 t) (g j) = false := by
          cases w : leO (TV h1 l1 r1 t) (g j) with
          | false => rfl
          | true =>
            have := leO_trans (gd_mono G (show m ≤ t by omega)) w
            rw [b] at this
            cases this
        rw [e1]
        exact (decide_eq_false (by omega)).symm
theorem res_cmp {h1 l1 : List Int} {r1 : Int} {g u t : Nat → Option Int} (V1 : Val h1 l1 r1) (Gg : Gd g) (Gt : Gd t) (R : Res (TV h1 l1 r1) g u) : (∀ j, leO (CV h1 l1 r1 t j) (g j) = true) ↔ ∀ j, leO (t j) (u j) = true :=
  forall_congr' fun j => by
    unfold CV
    rw [res_key V1 Gg R (fun i e => Gt.nn j i e)]
theorem lst_fail {f g : Nat → Option Int} {o : Option Int} (L : Lst f g o) {j : Nat} (h : leO (f j) (g j) = false) : o ≠ none := fun e => by
  have := (lst_iff L).mp e j
  rw [h] at this
  cases this

theorem beyond_ex {f : Nat → Int} {m b q : Nat} (hq : m ≤ q) (h : (b : Int) < f q) : ∃ p, Beyond f m b p := by
  obtain ⟨p, hp, ⟨p1, p2⟩, hmin⟩ := least_nat (p := fun p => m ≤ p ∧ (b : Int) < f p) (n := q) ⟨hq, h⟩
  exact ⟨p, p1, p2, fun j hj hlt => Int.not_lt.mp fun c => hmin j hlt ⟨hj, c⟩⟩
/-- the product of two tables is there -/
theorem cmp_ex {h1 l1 h2 l2 : List Int} {r1 r2 : Int} (V1 : Val h1 l1 r1) (V2 : Val h2 l2 r2) (z : h2.length + l2.length * (h1.length + l1.length + 1) ≤ 40000) (z1 : r1 ≤ 1000000) (z2 : r2 ≤ 1000000) : ∃ h l r, Cmp h1 l1 r1 h2 l2 r2 h l r := by
  have zz' : h2.length + l2.length * (h1.length + 1) ≤ 40000 := Nat.le_trans (Nat.add_le_add_left (Nat.mul_le_mul_left _ (by omega)) _) z
  by_cases c : l2 = [] ∨ r2 = 0
  · by_cases e : valueAt h1 l1 r1 (endOf l2 r2) = none
    · exact ⟨_, _, _, cmp_none V1 V2 c (by omega) e⟩
    · exact ⟨_, _, _, (cmp_set V1 V2 c (by omega) e rfl).2.2.2⟩
  · have c2 : l2 ≠ [] := fun e => c (.inl e)
    have hr : 0 < r2 := by
      have := V2.r0
      have : ¬ r2 = 0 := fun e => c (.inr e)
      omega
    by_cases c1 : l1 = []
    · subst c1
      obtain ⟨p, B⟩ := beyond_ex (Nat.zero_le _) (grows V2 c2 hr h1.length)
      exact ⟨_, _, _, (cmp_cut V1 V2 c2 hr zz' B).2.2⟩
    · obtain ⟨p, B⟩ := beyond_ex (Nat.le_add_right ..) (grows V2 c2 hr h1.length)
      obtain ⟨t, e, t0, dt, _, he, _⟩ := turns_ok (List.length_pos_iff.mpr c1) hr
      exact ⟨_, _, _, (cmp_go V1 V2 c1 c2 hr z z1 z2 B t0 dt he rfl).2.2.2.2.2.2⟩

/-- mild raw tables -/
structure Mild (h l : List Int) (r : Int) : Prop where
  val : Val h l r
  zh : h.length ≤ 3
  zl : l.length ≤ 2
  bh : ∀ n ∈ h, n ≤ 6
  bl : ∀ n ∈ l, n ≤ 8
  br : r ≤ 3
theorem Mild.lin {h l : List Int} {r : Int} (R : Mild h l r) : Lin 3 8 (TV h l r) := fun j v e => by
  have zh := R.zh
  have zl := R.zl
  have br := R.br
  have r0 := R.val.r0
  by_cases c : j < h.length
  · rw [tv_hd c] at e
    cases e
    have := R.bh _ (gI_mem (ns := h) (r := (j : Int)) (by omega) (by omega))
    omega
  · by_cases hl : l = []
    · rw [tv_nil hl (by omega)] at e
      cases e
    · have l0 : 0 < l.length := List.length_pos_iff.mpr hl
      rw [tv_some hl, fV_loop (by omega)] at e
      cases e
      unfold extL
      have e0 := Int.emod_nonneg ((j : Int) - h.length) (show (l.length : Int) ≠ 0 by omega)
      have e1 := Int.emod_lt_of_pos ((j : Int) - h.length) (show (0 : Int) < l.length by omega)
      have b := R.bl _ (gI_mem (ns := l) e0 e1)
      have q1 : ((j : Int) - h.length) / l.length ≤ (j : Int) - h.length := Int.ediv_le_self _ (by omega)
      have q0 : 0 ≤ ((j : Int) - h.length) / l.length := Int.ediv_nonneg (by omega) (by omega)
      have m : r * (((j : Int) - h.length) / l.length) ≤ 3 * ((j : Int) - h.length) := Int.mul_le_mul br q1 q0 (by decide)
      omega
/-- mild tables in plain form -/
structure Mt0 (h l : List Int) (r : Int) : Prop where
  val : Val h l r
  pf : plainF h l r = (h, l, r)
  zh : h.length ≤ 3
  zl : l.length ≤ 2
  bh : ∀ v ∈ h, v ≤ 8
  bl : ∀ v ∈ l, v ≤ 8
  br : r ≤ 3
  lin : Lin 3 8 (TV h l r)
theorem Mild.at8 {h l : List Int} {r : Int} (R : Mild h l r) {j : Nat} {v : Int} (e : TV h l r j = some v) (hj : j < h.length + l.length) : v ≤ 8 := by
  by_cases c : j < h.length
  · rw [tv_hd c] at e
    cases e
    have := R.bh _ (gI_mem (ns := h) (r := (j : Int)) (by omega) (by omega))
    omega
  · obtain ⟨i, rfl⟩ : ∃ i, j = h.length + i := ⟨j - h.length, by omega⟩
    rw [tv_lp (by omega)] at e
    cases e
    exact R.bl _ (gI_mem (ns := l) (r := (i : Int)) (by omega) (by omega))
theorem Mild.pl {h l : List Int} {r : Int} (R : Mild h l r) : Mt0 (plainF h l r).1 (plainF h l r).2.1 (plainF h l r).2.2 := by
  obtain ⟨_, _, _, z0, z1, z2⟩ := plainF_ok R.val
  obtain ⟨pv, tv, pf, _⟩ := plainF_val R.val
  have zh := R.zh
  have zl := R.zl
  have br := R.br
  refine ⟨pv, pf, by omega, by omega, fun v hv => ?_, fun v hv => ?_, by omega, ?_⟩
  · obtain ⟨i, hi, rfl⟩ := List.getElem_of_mem hv
    refine R.at8 (j := i) ?_ (by omega)
    rw [← tv, tv_hd hi, ← gI_get hi, List.getElem?_eq_getElem hi]
  · obtain ⟨i, hi, rfl⟩ := List.getElem_of_mem hv
    refine R.at8 (j := (plainF h l r).1.length + i) ?_ (by omega)
    rw [← tv, tv_lp hi, ← gI_get hi, List.getElem?_eq_getElem hi]
  · rw [show TV (plainF h l r).1 (plainF h l r).2.1 (plainF h l r).2.2 = TV h l r from funext tv]
    exact R.lin
theorem Mild.iv {h l : List Int} {r : Int} (R : Mild h l r) : IvOk h l r := R.lin.iv R.val (by decide) (by decide) (m := 5) (by have := R.zh; have := R.zl; omega) (by decide)
theorem Mt0.iv {h l : List Int} {r : Int} (R : Mt0 h l r) : IvOk h l r := R.lin.iv R.val (by decide) (by decide) (m := 5) (by have := R.zh; have := R.zl; omega) (by decide)
/-- the turn of any table lies below a line -/
theorem turn_linG {h l : List Int} {r : Int} (V : Val h l r) : Lin l.length ((h.length + l.length : Nat) : Int) (turnF (TV h l r)) := fun j v e => by
  rcases turnF_is (TV h l r) j with ⟨a, _⟩ | ⟨m, a, F⟩
  · rw [e] at a; cases a
  rw [e] at a
  cases a
  have le : ∀ n, leO (TV h l r n) (some (j : Int)) = false → m ≤ n := fun n hn => by
    refine Nat.le_of_not_lt fun c => ?_
    have := F.2 n c
    rw [hn] at this
    cases this
  have jl : (0 : Int) ≤ (l.length : Int) * j := Int.mul_nonneg (by omega) (by omega)
  by_cases hl : l = []
  · have := le h.length (by rw [tv_nil hl (Nat.le_refl _)]; rfl)
    omega
  · by_cases hr : r = 0
    · subst hr
      have h1 := F.1
      by_cases c : m ≤ h.length
      · omega
      · rw [tv_some hl, settled V hl (show h.length ≤ m by omega)] at h1
        have := le h.length (by rw [tv_some hl, settled V hl (Nat.le_refl _)]; exact h1)
        omega
    · have r0 := V.r0
      have g := grows V hl (by omega) j
      have := le (h.length + l.length * (j + 1)) (by rw [tv_some hl]; exact decide_eq_false (by omega))
      rw [Nat.mul_succ] at this
      have e2 : ((l.length * j : Nat) : Int) = (l.length : Int) * j := Int.natCast_mul ..
      omega
/-- sizes of a table -/
structure Szd (a b : Nat) (c A B : Int) (h l : List Int) (r : Int) : Prop where
  val : Val h l r
  zh : h.length ≤ a
  zl : l.length ≤ b
  br : r ≤ c
  lin : Lin A B (TV h l r)
theorem Mt0.szd {h l : List Int} {r : Int} (X : Mt0 h l r) : Szd 3 2 3 3 8 h l r := ⟨X.val, X.zh, X.zl, X.br, X.lin⟩
theorem Szd.iv {a b : Nat} {c A B : Int} {h l : List Int} {r : Int} (X : Szd a b c A B h l r) (A0 : 0 ≤ A) (B0 : 0 ≤ B) (z : A * ((a + b : Nat) : Int) + B ≤ 40000) : IvOk h l r :=
  X.lin.iv X.val A0 B0 (m := a + b) (by have := X.zh; have := X.zl; omega) z
/-- of a turned table -/
theorem Szd.turn {a b : Nat} {c A B : Int} {h l h' l' : List Int} {r r' : Int} (X : Szd a b c A B h l r) (T : Trn h l r h' l' r') (A0 : 0 ≤ A) (c1 : 1 ≤ c) {a' : Nat} (z : A * (a : Int) + B ≤ a') : Szd a' c.toNat b b ((a + b : Nat) : Int) h' l' r' := by
  have zh := X.zh
  have zl := X.zl
  have br := X.br
  have up : ∀ (j : Nat) v, TV h l r j = some v → j ≤ a → v ≤ (a' : Int) := fun j v e hj => by
    have := X.lin j v e
    have := Int.mul_le_mul_of_nonneg_left (show (j : Int) ≤ (a : Int) by omega) A0
    omega
  refine ⟨T.pl.val, T.zs a' (fun v hv => ?_) (fun hl => ?_), ?_, ?_, ?_⟩
  · obtain ⟨i, hi, rfl⟩ := List.getElem_of_mem hv
    refine up i _ ?_ (by omega)
    rw [tv_hd hi, ← gI_get hi, List.getElem?_eq_getElem hi]
  · exact up h.length _ (tv_lp (h := h) (r := r) (j := 0) (List.length_pos_iff.mpr hl)) zh
  · by_cases q : l' = []
    · rw [q]; exact Nat.zero_le _
    · rcases T.dv q with e | ⟨_, u, w⟩
      · omega
      · have := Int.le_of_dvd u w
        omega
  · have := T.br
    omega
  · rw [funext T.pl.tv]
    exact (turn_linG X.val).mono (by omega) (by omega)
/-- of a product -/
theorem Szd.mul {a b a2 b2 : Nat} {c A B c2 A2 B2 : Int} {h1 l1 h2 l2 h l : List Int} {r1 r2 r : Int} (X : Szd a b c A B h1 l1 r1) (Y : Szd a2 b2 c2 A2 B2 h2 l2 r2) (C : Cmp h1 l1 r1 h2 l2 r2 h l r) (A0 : 0 ≤ A) (B0 : 0 ≤ B) (A20 : 0 ≤ A2) (B20 : 0 ≤ B2) (b1 : 1 ≤ b2 * b) (c0 : 0 ≤ c) :
    Szd (a2 + b2 * (a + 1)) (b2 * b) (c * c2) (A * A2) (A * (B2 + a) + B) h l r := by
  have xh := X.zh
  have xl := X.zl
  have yh := Y.zh
  have yl := Y.zl
  have zh := C.zh
  have m1 : l2.length * (h1.length + 1) ≤ b2 * (a + 1) := Nat.mul_le_mul yl (by omega)
  have m2 : l2.length * l1.length ≤ b2 * b := Nat.mul_le_mul yl xl
  refine ⟨C.pl.val, by omega, ?_, ?_, ?_⟩
  · by_cases q : l = []
    · rw [q]; exact Nat.zero_le _
    · rcases C.dv q with e | ⟨q1, q2, d⟩
      · omega
      · have := Nat.le_of_dvd (Nat.mul_pos (List.length_pos_iff.mpr q2) (List.length_pos_iff.mpr q1)) d
        omega
  · exact Int.le_trans C.br (Int.mul_le_mul X.br Y.br Y.val.r0 c0)
  · rw [funext C.pl.tv]
    refine (X.lin.comp X.val Y.lin A0 B0 A20 B20).mono (Int.le_refl _) ?_
    have := Int.mul_le_mul_of_nonneg_left (show B2 + (h1.length : Int) ≤ B2 + a by omega) A0
    omega
theorem Szd.zz {a b a2 b2 : Nat} {c A B c2 A2 B2 : Int} {h1 l1 h2 l2 : List Int} {r1 r2 : Int} (X : Szd a b c A B h1 l1 r1) (Y : Szd a2 b2 c2 A2 B2 h2 l2 r2) (z : a2 + b2 * (a + b + 1) ≤ 40000) : h2.length + l2.length * (h1.length + l1.length + 1) ≤ 40000 := by
  have xh := X.zh
  have xl := X.zl
  have yh := Y.zh
  have yl := Y.zl
  have m1 : l2.length * (h1.length + l1.length + 1) ≤ b2 * (a + b + 1) := Nat.mul_le_mul yl (by omega)
  omega
theorem Szd.smp {a b : Nat} {c A B : Int} {h l : List Int} {r : Int} (X : Szd a b c A B h l r) (z1 : a ≤ 20000) (z2 : b ≤ 600) (z3 : c ≤ 1000000) : SmP h l r := ⟨X.val, by have := X.zh; omega, by have := X.zl; omega, by have := X.br; omega⟩

theorem le_flip {a : Option Int} {j : Nat} : leO (some ((j : Int) + 1)) a = !leO a (some (j : Int)) := by
  cases a with
  | none => rfl
  | some v =>
    show decide ((j : Int) + 1 ≤ v) = !decide (v ≤ (j : Int))
    by_cases c : v ≤ (j : Int)
    · rw [decide_eq_true c, decide_eq_false (by omega)]; rfl
    · rw [decide_eq_false c, decide_eq_true (by omega)]; rfl
/-- the turn at any count -/
theorem gal_at {h l : List Int} {r : Int} (V : Val h l r) {p : Option Int} (hp : Cnt p) (j : Nat) : leO (valueAt h l r p) (some (j : Int)) = leO p (turnF (TV h l r) j) := by
  have T := turnF_is (TV h l r)
  rcases at_cases hp with rfl | rfl | ⟨t, rfl⟩
  · rw [Bool.eq_iff_iff, leO_none']
    exact (turn_none V).symm
  · rw [vat_zero, leO_zero ((turnF_gd _).nn j)]
    exact leO_some.mpr (by omega)
  · rw [show valueAt h l r (some ((t : Int) + 1)) = TV h l r t from vat_TV t]
    exact T.gal (Gd.of V) t j
theorem le_flip2 {a : Option Int} {m : Nat} : leO a (some (m : Int)) = !leO (some ((m : Int) + 1)) a := by
  rw [le_flip, Bool.not_not]
/-- u tells at each place the value of f at the least count at which g is greater -/
def OvR (f g u : Nat → Option Int) : Prop := ∀ j, (turnF g j = none ∧ u j = none) ∨ ∃ m : Nat, Fst g j m ∧ u j = f m
theorem over_val {hf lf hg lg h' l' : List Int} {rf rg r' : Int} (Vf : Val hf lf rf) (Vg : Val hg lg rg) (P : Pl (turnF (TV hf lf rf)) h' l' r') : OvR (TV hf lf rf) (TV hg lg rg) (turnF (CV hg lg rg (TV h' l' r'))) := fun j => by
  have Tf := turnF_is (TV hf lf rf)
  have key : ∀ i, leO (CV hg lg rg (TV h' l' r') i) (some (j : Int)) = leO (TV h' l' r' i) (turnF (TV hg lg rg) j) := fun i => gal_at Vg (fun k e => (Gd.of P.val).nn i k e) j
  rcases turnF_is (TV hg lg rg) j with ⟨a, _⟩ | ⟨m, a, F⟩
  · refine .inl ⟨a, turnF_no fun i => ?_⟩
    rw [key, a]
    exact leO_none
  · refine .inr ⟨m, F, ?_⟩
    have k2 : ∀ i, leO (CV hg lg rg (TV h' l' r') i) (some (j : Int)) = !leO (TV hf lf rf m) (some (i : Int)) := fun i => by
      rw [key, a, le_flip2, P.tv, Tf.gal (Gd.of Vf)]
    cases e : TV hf lf rf m with
    | none =>
      exact turnF_no fun i => by rw [k2, e]; rfl
    | some v =>
      obtain ⟨n, rfl⟩ := Int.eq_ofNat_of_zero_le ((Gd.of Vf).nn m v e)
      refine turnF_at ⟨?_, fun i hi => ?_⟩
      · rw [k2, e, leO_some.mpr (Int.le_refl _)]; rfl
      · rw [k2, e]
        have : leO (some ((n : Nat) : Int)) (some (i : Int)) = false := decide_eq_false (by omega)
        rw [this]; rfl
theorem at_ge {h l : List Int} {r : Int} (V : Val h l r) {p : Option Int} {j : Nat} (hp : leO p (some (j : Int)) = false) : leO (TV h l r j) (valueAt h l r p) = true := by
  cases p with
  | none => exact (end_of_tab V).up j
  | some v =>
    have hv : (j : Int) + 1 ≤ v := Int.not_lt.mp fun c => by rw [leO_some.mpr (show v ≤ (j : Int) by omega)] at hp; cases hp
    obtain ⟨t, rfl⟩ : ∃ t : Nat, v = (t : Int) + 1 := ⟨(v - 1).toNat, by omega⟩
    rw [show valueAt h l r (some ((t : Int) + 1)) = TV h l r t from vat_TV t]
    exact gd_mono (Gd.of V) (by omega)
theorem over_cmp {ht lt hf lf hg lg : List Int} {rt rf rg : Int} {u : Nat → Option Int} (Vt : Val ht lt rt) (Vf : Val hf lf rf) (Vg : Val hg lg rg) (R : OvR (TV hf lf rf) (TV hg lg rg) u) :
    (∀ i, leO (CV ht lt rt (TV hg lg rg) i) (TV hf lf rf i) = true) ↔ ∀ j, leO (TV ht lt rt j) (u j) = true := by
  have Gf := Gd.of Vf
  have Gg := Gd.of Vg
  constructor
  · intro H j
    rcases R j with ⟨_, b⟩ | ⟨m, F, b⟩
    · rw [b]; exact leO_none
    · rw [b]
      exact leO_trans (at_ge Vt F.1) (H m)
  · intro H i
    unfold CV
    have step : ∀ j : Nat, leO (TV hg lg rg i) (some (j : Int)) = false → leO (TV ht lt rt j) (TV hf lf rf i) = true := fun j hj => by
      have := H j
      rcases R j with ⟨a, _⟩ | ⟨m, F, b⟩
      · rcases turnF_is (TV hg lg rg) j with ⟨_, al⟩ | ⟨m, a', _⟩
        · rw [al i] at hj; cases hj
        · rw [a] at a'; cases a'
      · rw [b] at this
        have mi : m ≤ i := Nat.le_of_not_lt fun q => by rw [F.2 i q] at hj; cases hj
        exact leO_trans this (gd_mono Gf mi)
    cases e : TV hg lg rg i with
    | none => exact (end_of_tab Vt).lo _ fun j => step j (by rw [e]; rfl)
    | some v =>
      have v0 := Gg.nn i v e
      by_cases c : v = 0
      · subst c
        rw [vat_zero]
        exact leO_zero (Gf.nn i)
      · obtain ⟨t, rfl⟩ : ∃ t : Nat, v = (t : Int) + 1 := ⟨(v - 1).toNat, by omega⟩
        rw [show valueAt ht lt rt (some ((t : Int) + 1)) = TV ht lt rt t from vat_TV t]
        exact step t (by rw [e]; exact decide_eq_false (by omega))
theorem leA {f g : Nat → Option Int} (h1 : ∀ j, leO (f j) (g j) = true) (h2 : ∀ j, leO (g j) (f j) = true) : f = g := funext fun j => leO_anti (h1 j) (h2 j)
/-- residues on both sides -/
theorem both_sides {hf lf hg lg hm lm h1 l1 h2 l2 hL lL hR lR : List Int} {rf rg rm r1 r2 rL rR : Int} (Vf : Val hf lf rf) (Vg : Val hg lg rg) (Vm : Val hm lm rm) (V1 : Val h1 l1 r1) (V2 : Val h2 l2 r2) (VL : Val hL lL rL) (VR : Val hR lR rR)
    (O1 : OvR (TV hg lg rg) (TV hm lm rm) (TV h1 l1 r1)) (U1 : Res (TV hf lf rf) (TV h1 l1 r1) (TV hL lL rL)) (U2 : Res (TV hf lf rf) (TV hg lg rg) (TV h2 l2 r2)) (O2 : OvR (TV h2 l2 r2) (TV hm lm rm) (TV hR lR rR))
    (exL : ∃ h l r, Pl (CV hf lf rf (TV hL lL rL)) h l r) (exR : ∃ h l r, Pl (CV hf lf rf (TV hR lR rR)) h l r) :
    TV hL lL rL = TV hR lR rR := by
  have both : ∀ (hx lx : List Int) (rx : Int), Val hx lx rx → (∃ h l r, Pl (CV hf lf rf (TV hx lx rx)) h l r) → ((∀ j, leO (TV hx lx rx j) (TV hL lL rL j) = true) ↔ ∀ j, leO (TV hx lx rx j) (TV hR lR rR j) = true) := fun hx lx rx Vx ⟨ha, la, ra, PA⟩ => by
    have s1 := res_cmp (t := TV hx lx rx) Vf (Gd.of V1) (Gd.of Vx) U1
    have s2 := over_cmp PA.val Vg Vm O1
    have s3 := res_cmp (t := CV hx lx rx (TV hm lm rm)) Vf (Gd.of Vg) (Gd.comp Vx (Gd.of Vm)) U2
    have s4 := over_cmp Vx V2 Vm O2
    have as : CV ha la ra (TV hm lm rm) = CV hf lf rf (CV hx lx rx (TV hm lm rm)) := funext fun j => comp_at Vf Vx PA ((Gd.of Vm).nn j)
    rw [funext PA.tv, as] at s2
    rw [← s1, ← s2, s3, s4]
  have a := (both hL lL rL VL exL).mp fun j => leO_refl _
  have b := (both hR lR rR VR exR).mpr fun j => leO_refl _
  exact leA a b
/-- the end of a turned table -/
theorem trn_en {h l h' l' : List Int} {r r' v : Int} (V : Val h l r) (T : Trn h l r h' l' r') (e : endOf l' r' = some v) : v ≤ h.length := by
  have V' := T.pl.val
  have ee := e
  unfold endOf at e
  split at e
  · cases e
  rename_i c
  have hl : l' ≠ [] := fun q => c (.inl q)
  have hr : r' = 0 := by
    have := V'.r0
    have : ¬ r' > 0 := fun q => c (.inr q)
    omega
  subst hr
  have tv : ∀ j, h'.length ≤ j → turnF (TV h l r) j = some v := fun j hj => by
    rw [← T.pl.tv, tv_end V' (.inr rfl) hj, ee]
  by_cases cl : l = []
  · subst cl
    obtain ⟨n, en⟩ := Int.eq_ofNat_of_zero_le (lastV_nn V)
    have := tv (h'.length + n) (by omega)
    rw [turnF_at (turn_ended V (by omega))] at this
    have := Option.some.inj this
    omega
  · by_cases cr : r = 0
    · subst cr
      obtain ⟨n, en⟩ := Int.eq_ofNat_of_zero_le (gI_nn V.p2 ((l.length : Int) - 1))
      have := tv (h'.length + n) (by omega)
      rw [turnF_no fun m => by
        rw [tv_some cl, leO_some]
        have := settled_le V cl m
        omega] at this
      cases this
    · have r0 := V.r0
      obtain ⟨n, en⟩ := Int.eq_ofNat_of_zero_le (gI_nn V.p2 0)
      obtain ⟨rn, er⟩ := Int.eq_ofNat_of_zero_le V.r0
      have a := tv (h'.length + n) (by omega)
      rcases turnF_is (TV h l r) (h'.length + n) with ⟨a', _⟩ | ⟨m, a', F⟩
      · rw [a] at a'; cases a'
      have b := tv (h'.length + n + rn) (by omega)
      rw [turnF_at (turn_per V cl (by omega) er F)] at b
      rw [a] at a'
      have x1 := Option.some.inj b
      have x2 := Option.some.inj a'
      have l0 : 0 < l.length := List.length_pos_iff.mpr cl
      omega
theorem Lin.compE {h l : List Int} {r A B A' B' : Int} {g : Nat → Option Int} (X : Lin A B (TV h l r)) (G : Gd g) (Y : Lin A' B' g) (en : ∀ v, endOf l r = some v → v ≤ B) (A0 : 0 ≤ A) (B0 : 0 ≤ B) (A0' : 0 ≤ A') (B0' : 0 ≤ B') : Lin (A * A') (A * B' + B) (CV h l r g) := fun j v e => by
  have p1 : 0 ≤ A * A' * j := Int.mul_nonneg (Int.mul_nonneg A0 A0') (by omega)
  have p2 : 0 ≤ A * B' := Int.mul_nonneg A0 B0'
  unfold CV at e
  cases q : g j with
  | none =>
    rw [q] at e
    have := en v e
    omega
  | some y =>
    rw [q] at e
    have y1 := Y j y q
    have y0 := G.nn j y q
    by_cases c0 : y = 0
    · subst c0
      rw [vat_zero] at e
      cases e
      omega
    · obtain ⟨i, rfl⟩ : ∃ i : Nat, y = (i : Int) + 1 := ⟨(y - 1).toNat, by omega⟩
      rw [show valueAt h l r (some ((i : Int) + 1)) = TV h l r i from vat_TV i] at e
      have x := X i v e
      have := Int.mul_le_mul_of_nonneg_left (show (i : Int) ≤ A' * j + B' by omega) A0
      rw [Int.mul_add, ← Int.mul_assoc] at this
      omega
theorem Szd.mulE {a b a2 b2 : Nat} {c A B c2 A2 B2 : Int} {h1 l1 h2 l2 h l : List Int} {r1 r2 r : Int} (X : Szd a b c A B h1 l1 r1) (en : ∀ v, endOf l1 r1 = some v → v ≤ B) (Y : Szd a2 b2 c2 A2 B2 h2 l2 r2) (C : Cmp h1 l1 r1 h2 l2 r2 h l r) (A0 : 0 ≤ A) (B0 : 0 ≤ B) (A20 : 0 ≤ A2) (B20 : 0 ≤ B2) (b1 : 1 ≤ b2 * b) (c0 : 0 ≤ c) :
    Szd (a2 + b2 * (a + 1)) (b2 * b) (c * c2) (A * A2) (A * B2 + B) h l r := by
  obtain ⟨q1, q2, q3, q4, _⟩ := X.mul Y C A0 B0 A20 B20 b1 c0
  refine ⟨q1, q2, q3, q4, ?_⟩
  rw [funext C.pl.tv]
  exact X.lin.compE (Gd.of Y.val) Y.lin en A0 B0 A20 B20
theorem Mt0.en {h l : List Int} {r : Int} (X : Mt0 h l r) : ∀ v, endOf l r = some v → v ≤ 8 := fun v e => by
  unfold endOf at e
  split at e
  · cases e
  rename_i c
  have hl : l ≠ [] := fun q => c (.inl q)
  have l0 : 0 < l.length := List.length_pos_iff.mpr hl
  cases e
  exact X.bl _ (gI_mem (by omega) (by omega))
theorem Mt0.turn {h l h' l' : List Int} {r r' : Int} (X : Mt0 h l r) (T : Trn h l r h' l' r') : Szd 8 3 2 2 5 h' l' r' := by
  have zh := X.zh
  have zl := X.zl
  have br := X.br
  refine ⟨T.pl.val, T.zh 8 X.bh X.bl, ?_, by have := T.br; omega, ?_⟩
  · by_cases q : l' = []
    · rw [q]; exact Nat.zero_le _
    · rcases T.dv q with e | ⟨_, u, w⟩
      · omega
      · have := Int.le_of_dvd u w
        omega
  · rw [funext T.pl.tv]
    exact (turn_linG X.val).mono (by omega) (by omega)
theorem Mt0.turn_en {h l h' l' : List Int} {r r' : Int} (X : Mt0 h l r) (T : Trn h l r h' l' r') : ∀ v, endOf l' r' = some v → v ≤ 5 := fun v e => by
  have := trn_en X.val T e
  have := X.zh
  omega
/-- over: the product and its turn -/
theorem ov_prod {h1 l1 h2 l2 h' l' hc lc : List Int} {r1 r2 r' rc : Int} (X : Mt0 h1 l1 r1) (Y : Mt0 h2 l2 r2) (T : Trn h1 l1 r1 h' l' r') (C : Cmp h2 l2 r2 h' l' r' hc lc rc) : Szd 20 6 6 6 23 hc lc rc := Y.szd.mulE Y.en (X.turn T) C (by decide) (by decide) (by decide) (by decide) (by decide) (by decide)
theorem ov_turn {hc lc hd ld : List Int} {rc rd : Int} (P : Szd 20 6 6 6 23 hc lc rc) (T : Trn hc lc rc hd ld rd) : Szd 143 6 6 6 26 hd ld rd := P.turn T (by decide) (by decide) (by decide)
theorem ov_zz {h1 l1 h2 l2 h' l' : List Int} {r1 r2 r' : Int} (X : Mt0 h1 l1 r1) (Y : Mt0 h2 l2 r2) (T : Trn h1 l1 r1 h' l' r') : h'.length + l'.length * (h2.length + l2.length + 1) ≤ 40000 := Y.szd.zz (X.turn T) (by decide)
/-- under: the product and its turn -/
theorem un_prod {h1 l1 h2 l2 h' l' hc lc : List Int} {r1 r2 r' rc : Int} (X : Mt0 h1 l1 r1) (Y : Mt0 h2 l2 r2) (T : Trn h2 l2 r2 h' l' r') (C : Cmp h' l' r' h1 l1 r1 hc lc rc) : Szd 21 6 6 6 21 hc lc rc := (Y.turn T).mulE (Y.turn_en T) X.szd C (by decide) (by decide) (by decide) (by decide) (by decide) (by decide)
theorem un_turn {hc lc hd ld : List Int} {rc rd : Int} (P : Szd 21 6 6 6 21 hc lc rc) (T : Trn hc lc rc hd ld rd) : Szd 147 6 6 6 27 hd ld rd := P.turn T (by decide) (by decide) (by decide)
theorem un_zz {h1 l1 h2 l2 h' l' : List Int} {r1 r2 r' : Int} (X : Mt0 h1 l1 r1) (Y : Mt0 h2 l2 r2) (T : Trn h2 l2 r2 h' l' r') : h1.length + l1.length * (h'.length + l'.length + 1) ≤ 40000 := (Y.turn T).zz X.szd (by decide)
/-- under behind over -/
theorem uo_turn {hd ld h' l' : List Int} {rd r' : Int} (D : Szd 143 6 6 6 26 hd ld rd) (T : Trn hd ld rd h' l' r') : Szd 884 6 6 6 149 h' l' r' := D.turn T (by decide) (by decide) (by decide)
theorem uo_prod {h1 l1 hd ld h' l' hc lc : List Int} {r1 rd r' rc : Int} (X : Mt0 h1 l1 r1) (D : Szd 143 6 6 6 26 hd ld rd) (T : Trn hd ld rd h' l' r') (C : Cmp h' l' r' h1 l1 r1 hc lc rc) : Szd 1773 12 18 18 197 hc lc rc :=
  (uo_turn D T).mulE (fun v e => by have := trn_en D.val T e; have := D.zh; omega) X.szd C (by decide) (by decide) (by decide) (by decide) (by decide) (by decide)
theorem uo_last {hc lc hL lL : List Int} {rc rL : Int} (P : Szd 1773 12 18 18 197 hc lc rc) (T : Trn hc lc rc hL lL rL) : Szd 32111 18 12 12 1785 hL lL rL := P.turn T (by decide) (by decide) (by decide)
/-- over behind under -/
theorem ou_turn {hd ld h' l' : List Int} {rd r' : Int} (D : Szd 147 6 6 6 27 hd ld rd) (T : Trn hd ld rd h' l' r') : Szd 909 6 6 6 153 h' l' r' := D.turn T (by decide) (by decide) (by decide)
theorem ou_prod {h1 l1 hd ld h' l' hc lc : List Int} {r1 rd r' rc : Int} (X : Mt0 h1 l1 r1) (D : Szd 147 6 6 6 27 hd ld rd) (T : Trn hd ld rd h' l' r') (C : Cmp h1 l1 r1 h' l' r' hc lc rc) : Szd 933 12 18 18 467 hc lc rc :=
  X.szd.mulE X.en (ou_turn D T) C (by decide) (by decide) (by decide) (by decide) (by decide) (by decide)
theorem ou_last {hc lc hR lR : List Int} {rc rR : Int} (P : Szd 933 12 18 18 467 hc lc rc) (T : Trn hc lc rc hR lR rR) : Szd 17261 18 12 12 945 hR lR rR := P.turn T (by decide) (by decide) (by decide)

abbrev N__law_mild : List Str := ["source", "steady", "head", "low", "way", "loop", "rise"]
theorem sc__law_mild : FnScope N__law_mild ["source", "steady"] (defScope s__law_mild) := ⟨rfl, rfl, rfl, by decide +kernel, rfl, by decide +kernel, by decide +kernel⟩
theorem ok__law_mild {P : Program} {w : World} {K : PySem.W.Frag} {mg : Str → Option Value} {base : Heap} (E : Env P K mg) : Fn P w K mg base CX0 3 "_law_mild" (sp2 fun s t H Q _ => ∃ a : Addr, s = .ref a ∧ t = .bl false ∧ SrcAt H a ∧ ∀ v H' h l r, Fr a H H' → SrcAt H' a → Dp K H' v (dRaw h l r) → Mild h l r → Q v H') := by
  obtain ⟨fd, F⟩ := E.dd__law_mild
  refine Fn.mk0 F E.g__law_mild sc__law_mild sp2_len (fun _ _ _ _ _ _ us hl => match us, hl with | [_, _], _ => rfl) (fun cdv A outer s H vs Q X hr h => ?_)
  have nd := sc__law_mild.nd
  obtain ⟨v0, v1, rfl, h⟩ := h
  refine ⟨_, (pss_cons (ps_set (i := 2) nd rfl (.inl rfl) (pc (ok__law_rising E) hr (by decide) pass0 rfl (pa_cons (pv 0) (pa_cons (pc (ok__law_pick E) hr (by decide) pass0 rfl (pa_cons (pv 0) (pa_cons (pe_int) pa_nil))) (pa_cons (pe_int) (pa_cons (pe_int) pa_nil))))))
  (pss_cut (ps_set (i := 3) nd rfl (.inl rfl) (pe_ifExp (pt_cmpR op_gt (pe_callB (kLen K) (by rfl) E.f_len (by decide +kernel) (pa_cons (pv 2) pa_nil)) (pe_int) (nomark _)) (pe_ix (kIx K) (pv 2) (pe_un un_neg (pe_int)) (fun _ _ => rfl)) (pe_int)))
  (pss_cons (ps_set (i := 4) nd rfl (.inl rfl) (pc (ok__law_pick E) hr (by decide) pass0 rfl (pa_cons (pv 0) (pa_cons (pe_int) pa_nil))))
  (pss_cons (ps_if (PW.pt (pw_and (pt_not (kTru K (pv 1) (by intro _; rfl))) (pw_and1 (pt_cmpR (kEq K hr) (pv 4) (pe_int) (nomark _)))))
   (pss_one (ps_ret (pe_tup (pa_cons (pe_callTy (kTup K) (by rfl) E.f_tuple (by decide +kernel) (pa_cons (pv 2) pa_nil)) (pa_cons (pe_tup pa_nil) (pa_cons (pe_int) pa_nil))))))
   pss_nil)
  (pss_cons (ps_set (i := 5) nd rfl (.inl rfl) (pc (ok__law_rising E) hr (by decide) pass0 rfl (pa_cons (pv 0) (pa_cons (pe_op (kAdd K) (pe_int) (pc (ok__law_pick E) hr (by decide) pass0 rfl (pa_cons (pv 0) (pa_cons (pe_int) pa_nil)))) (pa_cons (pv 3) (pa_cons (pe_int) pa_nil))))))
  (pss_cons (ps_set (i := 6) nd rfl (.inl rfl) (pe_callB (xMax2 rfl) (by rfl) E.f_max (by decide +kernel) (pa_cons (pe_op xSub (pe_ix (kIx K) (pv 5) (pe_un un_neg (pe_int)) (fun _ _ => rfl)) (pe_ix (kIx K) (pv 5) (pe_int) (fun _ _ => rfl))) (pa_cons (pe_ix (kIx K) (pe_lst (pa_cons (pe_int) (pa_cons (pe_int) (pa_cons (pe_int) (pa_cons (pe_int) (pa_cons (pe_int) (pa_cons (pe_int) (pa_cons (pe_int) (pa_cons (pe_int) pa_nil))))))))) (pv 4) (fun _ _ => rfl)) pa_nil))))
  (pss_one (ps_ret (pe_tup (pa_cons (pe_callTy (kTup K) (by rfl) E.f_tuple (by decide +kernel) (pa_cons (pv 2) pa_nil)) (pa_cons (pe_callTy (kTup K) (by rfl) E.f_tuple (by decide +kernel) (pa_cons (pv 5) pa_nil)) (pa_cons (pe_ifExp (kTru K (pv 1) (by intro _; rfl)) (pe_callB (xMax2 rfl) (by rfl) E.f_max (by decide +kernel) (pa_cons (pe_int) (pa_cons (pv 6) pa_nil))) (pv 6)) pa_nil)))))))))))), ?_⟩
  change (_ : TS) _ [some v0, some v1, none, none, none, none, none] H
  try dsimp only [cxOf, Cx.nox, Cx.blk]
  obtain ⟨a, rfl, rfl, hsrc, k⟩ := h
  walk_at "w"
  refine ⟨a, 4, rfl, rfl, by decide, by decide, hsrc, fun r1 H2 r10 r14 q2 F2 => ?_⟩
  walk_at "w"
  obtain ⟨m1, rfl⟩ := Int.eq_ofNat_of_zero_le r10
  refine ⟨a, m1, 0, 3, rfl, rfl, rfl, rfl, by omega, by decide, by decide, q2, fun ph hs H3 n3 f3 q3 h3 hl3 hr3 => ?_⟩
  have hpa : ph ≠ a := q2.ne n3
  have F3 : Fr a H H3 := F2.trans f3
  have hs4 : hs.length ≤ 3 := by omega
  have hs0 : ∀ n ∈ hs, 0 ≤ n := hr3.2.1
  have hs8 : ∀ n ∈ hs, n ≤ 6 := fun n hn => by have := hr3.2.2 n hn; omega
  walk_at "w"
  refine w_cut (M := fun σ' H' => ∃ low : Int, σ' = [some (.ref a), some (.bl false), some (.ref ph), some (.int low), none, none, none] ∧ H' = H3 ∧ 0 ≤ low ∧ low ≤ 6 ∧ (hs ≠ [] → gI hs (hs.length - 1) = low)) ?_ ?_
  · walk_at "w"
    by_cases c : 0 < (hs.length : Int)
    · walk_at "w"
      have hm := gI_mem (ns := hs) (r := -1 + hs.length) (by omega) (by omega)
      exact ⟨_, rfl, rfl, hs0 _ hm, hs8 _ hm, fun _ => by rw [show (hs.length : Int) - 1 = -1 + hs.length by omega]⟩
    · walk_at "w"
      exact ⟨_, rfl, rfl, Int.le_refl _, by decide, fun h => absurd (List.length_pos_iff.mpr h) (by omega)⟩
  rintro σ' H' ⟨low, rfl, rfl, lo0, lo8, hlow⟩
  have V0 : Val hs [] 0 := ⟨hs0, fun n hn => by simp at hn, hr3.1, fun i hi => by simp at hi, Int.le_refl _, fun _ => rfl, fun _ h => absurd rfl h, fun h => absurd rfl h, ⟨by decide, by decide, by omega, by simp⟩⟩
  walk_at "w"
  refine ⟨a, 8, rfl, rfl, by decide, by decide, q3, fun r2 H4 w0 w1 q4 f4 => ?_⟩
  have h4 := f4 ph _ hpa h3
  have F4 : Fr a H H4 := F3.trans f4
  walk_at "w"
  by_cases c3 : r2 = 3
  · walk_at "w"
    intro p5 H5 e5 s5
    walk_at "w"
    intro p6 H6 n6 e6 h6
    walk_at "w"
    intro p7 H7 n7 e7 h7
    exact k _ _ hs [] 0 (F4.trans (Fr.of ((e5.trans e6).trans e7))) (q4.ex ((e5.trans e6).trans e7)) (dp_of_raw (st_of h7) (ex_t e7 (ex_t e6 s5)) (ex_t e7 (st_of h6))) ⟨V0, hs4, by simp, hs8, fun n hn => by simp at hn, by decide⟩
  · walk_at "w"
    refine ⟨a, 2, rfl, rfl, by decide, by decide, q4, fun r3 H6 u0 u1 q6 f6 => ?_⟩
    have h6 := f6 ph _ hpa h4
    have F6 : Fr a H H6 := F4.trans f6
    walk_at "w"
    obtain ⟨m3, rfl⟩ := Int.eq_ofNat_of_zero_le u0
    rw [show (1 : Int) + (m3 : Int) = ((1 + m3 : Nat) : Int) by omega]
    refine ⟨a, 1 + m3, low, 2, rfl, rfl, rfl, rfl, by omega, by decide, by decide, q6, fun pl ls H7 n7 f7 q7 h7 hl7 hr7 => ?_⟩
    have hla : pl ≠ a := q6.ne n7
    have F7 : Fr a H H7 := F6.trans f7
    have g7 := f7 ph _ hpa h6
    have hl0 : 0 < ls.length := by omega
    have ls0 : ∀ n ∈ ls, low ≤ n := hr7.2.1
    have ls8 : ∀ n ∈ ls, n ≤ 8 := fun n hn => by have := hr7.2.2 n hn; omega
    have hlast : gI ls 0 ≤ gI ls (-1 + ls.length) := by
      have := rising_le hr7.1 (ls.length - 1) 0 (by omega)
      rw [show (-1 + (ls.length : Int)) = ((0 : Nat) : Int) + ((ls.length - 1 : Nat) : Int) by omega]
      exact this
    have hf := gI_mem (ns := ls) (r := 0) (Int.le_refl _) (by omega)
    have hla2 := gI_mem (ns := ls) (r := -1 + ls.length) (by omega) (by omega)
    have z1 := ls0 _ hf
    have z2 := ls8 _ hla2
    have z3 := hr7.2.2 _ hla2
    walk_at "w"
    generalize hfe : gI ls 0 = fst at *
    generalize hle : gI ls (-1 + ls.length) = lst at *
    intro p8 H8 n8 e8 h8
    have s8 := sq_of (K := K) (xs := vI [1, 2, 1, 1, 3, 1, 2, 0]) h8
    have b8 := gI_lit (ns := [1, 2, 1, 1, 3, 1, 2, 0]) (lo := 0) (hi := 3) (by decide) w0 w1
    have g8 := e8 _ _ g7
    have h8' := e8 _ _ h7
    have q8 := q7.ex e8
    have F8 := F7.trans (Fr.of e8)
    walk_at "w"
    generalize gI [1, 2, 1, 1, 3, 1, 2, 0] r2 = more at *
    intro p10 H10 e10 s10
    walk_at "w"
    intro p11 H11 e11 s11
    walk_at "w"
    intro p12 H12 n12 e12 h12
    have ee := (e10.trans e11).trans e12
    refine k _ _ hs ls (max (lst - fst) more) (F8.trans (Fr.of ee)) (q8.ex ee) (dp_of_raw (st_of h12) (ex_t e12 (ex_t e11 s10)) (ex_t e12 s11)) ⟨⟨hs0, fun n hn => by have := ls0 n hn; omega, hr3.1, hr7.1, by omega, fun h => ?_, fun hne _ => ?_, fun _ => ?_, ⟨by omega, by omega, by omega, by omega⟩⟩, hs4, by omega, hs8, fun n hn => by have := ls8 n hn; omega, by omega⟩
    · subst h; simp at hl0
    · rw [hlow hne, hfe]; exact z1
    · rw [show (ls.length : Int) - 1 = -1 + ls.length by omega, hle, hfe]; omega
abbrev spOver (K : PySem.W.Frag) : Sp := sp2 fun x y H Q _ => ∃ (p q : Addr) (h1 l1 h2 l2 : List Int) (r1 r2 : Int), x = .ref p ∧ y = .ref q ∧ TabAt K H p h1 l1 r1 ∧ TabAt K H q h2 l2 r2 ∧ Val h1 l1 r1 ∧ Val h2 l2 r2 ∧ IvOk h1 l1 r1 ∧ r2 ≤ 1000000 ∧
  (∀ h' l' r', Trn h1 l1 r1 h' l' r' → h'.length + l'.length * (h2.length + l2.length + 1) ≤ 40000 ∧ r' ≤ 1000000 ∧ ∀ h l r, Cmp h2 l2 r2 h' l' r' h l r → IvOk h l r) ∧
  ∀ z H' h' l' r' hc lc rc h l r, Ex H H' → TabAt K H' z h l r → Trn h1 l1 r1 h' l' r' → Cmp h2 l2 r2 h' l' r' hc lc rc → Trn hc lc rc h l r → Q (.ref z) H'
abbrev N_over : List Str := ["first", "second"]
theorem sc_over : FnScope N_over ["first", "second"] (defScope s_over) := ⟨rfl, rfl, rfl, by decide +kernel, rfl, by decide +kernel, by decide +kernel⟩
theorem ok_over {P : Program} {w : World} {K : PySem.W.Frag} {mg : Str → Option Value} {base : Heap} (E : Env P K mg) : Fn P w K mg base CX0 14 "over" (spOver K) := by
  obtain ⟨fd, F⟩ := E.dd_over
  refine Fn.mk0 F E.g_over sc_over sp2_len (fun _ _ _ _ _ _ us hl => match us, hl with | [_, _], _ => rfl) (fun cdv A outer s H vs Q X hr h => ?_)
  have nd := sc_over.nd
  obtain ⟨v0, v1, rfl, h⟩ := h
  refine ⟨_, (pss_one (ps_ret (pe_un (kOwnI K (ok_Table_invert E) hr (by decide)) (pe_op (kOwnB K (ok_Table_mul E) hr (by decide)) (pv 1) (pe_un (kOwnI K (ok_Table_invert E) hr (by decide)) (pv 0)))))), ?_⟩
  change (_ : TS) _ [some v0, some v1] H
  try dsimp only [cxOf, Cx.nox, Cx.blk]
  obtain ⟨p, q, h1, l1, h2, l2, r1, r2, rfl, rfl, t1, t2, V1, V2, iv, z1, ok, k⟩ := h
  walk_at "w"
  refine r_invT t1 V1 iv fun a H1 h' l' r' e1 ta T => ?_
  obtain ⟨o1, o2, o3⟩ := ok h' l' r' T
  walk_at "w"
  refine r_mulT (ex_tab e1 t2) ta V2 T.pl.val o1 z1 o2 fun b H2 hc lc rc e2 tb C => ?_
  walk_at "w"
  refine r_invT tb C.pl.val (o3 hc lc rc C) fun c H3 h l r e3 tc T2 => ?_
  walk_at "w"
  exact k c H3 h' l' r' hc lc rc h l r ((e1.trans e2).trans e3) tc T C T2
abbrev N__law_over : List Str := ["first", "second"]
theorem sc__law_over : FnScope N__law_over ["first", "second"] (defScope s__law_over) := ⟨rfl, rfl, rfl, by decide +kernel, rfl, by decide +kernel, by decide +kernel⟩
theorem ok__law_over {P : Program} {w : World} {K : PySem.W.Frag} {mg : Str → Option Value} {base : Heap} (E : Env P K mg) : Fn P w K mg base CX0 4 "_law_over" (sp2 fun a b H Q _ => ∃ (h1 l1 h2 l2 h' l' hc lc : List Int) (r1 r2 r' rc : Int), Dp K H a (dRaw h1 l1 r1) ∧ Dp K H b (dRaw h2 l2 r2) ∧ Val h1 l1 r1 ∧ Val h2 l2 r2 ∧ IvOk h1 l1 r1 ∧ Pl (turnF (TV h1 l1 r1)) h' l' r' ∧ h'.length + l'.length * (h2.length + l2.length + 1) ≤ 40000 ∧ r' ≤ 1000000 ∧ r2 ≤ 1000000 ∧ Pl (CV h2 l2 r2 (TV h' l' r')) hc lc rc ∧ IvOk hc lc rc ∧ ∀ v H' h l r, Ex H H' → Dp K H' v (dRaw h l r) → Pl (turnF (TV hc lc rc)) h l r → Q v H') := by
  obtain ⟨fd, F⟩ := E.dd__law_over
  refine Fn.mk0 F E.g__law_over sc__law_over sp2_len (fun _ _ _ _ _ _ us hl => match us, hl with | [_, _], _ => rfl) (fun cdv A outer s H vs Q X hr h => ?_)
  have nd := sc__law_over.nd
  obtain ⟨v0, v1, rfl, h⟩ := h
  refine ⟨_, (pss_one (ps_ret (pc (ok__law_turn E) hr (by decide) pass0 rfl (pa_cons (pc (ok__law_behind E) hr (by decide) pass0 rfl (pa_cons (pv 1) (pa_cons (pc (ok__law_turn E) hr (by decide) pass0 rfl (pa_cons (pv 0) pa_nil)) pa_nil))) pa_nil)))), ?_⟩
  change (_ : TS) _ [some v0, some v1] H
  try dsimp only [cxOf, Cx.nox, Cx.blk]
  obtain ⟨h1, l1, h2, l2, h', l', hc, lc, r1, r2, r', rc, d1, d2, V1, V2, iv, P, zz, z1, z2, C, ivc, k⟩ := h
  walk_at "w"
  refine ⟨h1, l1, r1, d1, V1, iv.1, iv.2, fun v H1 h3 l3 r3 e1 d3 P3 => ?_⟩
  obtain ⟨rfl, rfl, rfl⟩ := P.uniq P3
  walk_at "w"
  refine ⟨h2, l2, _, _, r2, _, dp_ex e1 d2, d3, V2, P.val, zz, z2, z1, fun v H2 h4 l4 r4 e2 d4 P4 => ?_⟩
  obtain ⟨rfl, rfl, rfl⟩ := C.uniq P4
  walk_at "w"
  exact ⟨_, _, _, d4, C.val, ivc.1, ivc.2, fun v H3 h5 l5 r5 e3 d5 P5 => k v H3 _ _ _ ((e1.trans e2).trans e3) d5 P5⟩
theorem fst_turn {f : Nat → Option Int} {j m : Nat} (h : Fst f j m) : turnF f j = some (m : Int) := turnF_at h
/-- values up to place i are at most j -/
def Upto (f : Nat → Option Int) (j i : Nat) : Prop := ∀ t, t < i → leO (f t) (some (j : Int)) = true
theorem ended_reach {h : List Int} {r : Int} {j : Nat} (u : Upto (TV h [] r) j (h.length + 1)) : False := by
  have := u h.length (Nat.lt_succ_self _)
  rw [tv_nil rfl (Nat.le_refl _)] at this
  cases this
theorem settled_reach {h l : List Int} {j : Nat} (V : Val h l 0) (c : l ≠ []) (u : Upto (TV h l 0) j (h.length + l.length + 1)) : turnF (TV h l 0) j = none := turnF_no fun m => by
  have := u (h.length + l.length) (Nat.lt_succ_self _)
  rw [tv_some c, settled V c (Nat.le_add_right ..)] at this
  rw [tv_some c]
  exact leO_trans (leO_some.mpr (settled_le V c m)) this
abbrev N__law_reach : List Str := ["raw", "bound", "n", "turns", "place"]
theorem sc__law_reach : FnScope N__law_reach ["raw", "bound"] (defScope s__law_reach) := ⟨rfl, rfl, rfl, by decide +kernel, rfl, by decide +kernel, by decide +kernel⟩
theorem ok__law_reach {P : Program} {w : World} {K : PySem.W.Frag} {mg : Str → Option Value} {base : Heap} (E : Env P K mg) : Fn P w K mg base CX0 3 "_law_reach" (sp2 fun a b H Q _ => ∃ (h l : List Int) (r : Int) (j : Nat), Dp K H a (dRaw h l r) ∧ b = .int ((j : Int) + 1) ∧ Val h l r ∧ h.length ≤ 100 ∧ l.length ≤ 100 ∧ r ≤ 1000000 ∧ ∀ H', Ex H H' → Q (optV ((turnF (TV h l r) j).map (· + 1))) H') := by
  obtain ⟨fd, F⟩ := E.dd__law_reach
  refine Fn.mk0 F E.g__law_reach sc__law_reach sp2_len (fun _ _ _ _ _ _ us hl => match us, hl with | [_, _], _ => rfl) (fun cdv A outer s H vs Q X hr h => ?_)
  have nd := sc__law_reach.nd
  obtain ⟨v0, v1, rfl, h⟩ := h
  refine ⟨_, (pss_cons (ps_for PassesOwn.never rfl (pi_range2 (by rfl) E.f_range (pa_cons (pe_int) (pa_cons (pe_op (kAdd K) (pe_op (kAdd K) (pe_callB (kLen K) (by rfl) E.f_len (by decide +kernel) (pa_cons (pe_ix (kIx K) (pv 0) (pe_int) (fun _ _ => rfl)) pa_nil)) (pe_callB (kLen K) (by rfl) E.f_len (by decide +kernel) (pa_cons (pe_ix (kIx K) (pv 0) (pe_int) (fun _ _ => rfl)) pa_nil))) (pe_int)) pa_nil))) (pg_name (i := 2) nd rfl (.inl rfl))
   (pss_one (ps_if (kTru K (pc (ok__law_le E) hr (by decide) pass0 rfl (pa_cons (pv 1) (pa_cons (pc (ok__law_at E) hr (by decide) pass0 rfl (pa_cons (pv 0) (pa_cons (pv 2) pa_nil))) pa_nil))) (by intro _; rfl))
   (pss_one (ps_ret (pv 2)))
   pss_nil)))
  (pss_cons (ps_if (pt_cmpR (kEq K hr) (pe_ix (kIx K) (pv 0) (pe_int) (fun _ _ => rfl)) (pe_int) (nomark _))
   (pss_one (ps_ret (pe_non)))
   pss_nil)
  (pss_cons (ps_set (i := 3) nd rfl (.inl rfl) (pe_op xDiv (pe_op xSub (pv 1) (pe_ix (kIx K) (pe_ix (kIx K) (pv 0) (pe_int) (fun _ _ => rfl)) (pe_un un_neg (pe_int)) (fun _ _ => rfl))) (pe_ix (kIx K) (pv 0) (pe_int) (fun _ _ => rfl))))
  (pss_cons (ps_set (i := 4) nd rfl (.inl rfl) (pe_op (kAdd K) (pe_op (kAdd K) (pe_callB (kLen K) (by rfl) E.f_len (by decide +kernel) (pa_cons (pe_ix (kIx K) (pv 0) (pe_int) (fun _ _ => rfl)) pa_nil)) (pe_op (kMul K) (pe_callB (xMax2 rfl) (by rfl) E.f_max (by decide +kernel) (pa_cons (pe_int) (pa_cons (pv 3) pa_nil))) (pe_callB (kLen K) (by rfl) E.f_len (by decide +kernel) (pa_cons (pe_ix (kIx K) (pv 0) (pe_int) (fun _ _ => rfl)) pa_nil)))) (pe_int)))
  (pss_cons (ps_while PassesOwn.never (pt_cmpR op_lt (pc (ok__law_at E) hr (by decide) pass0 rfl (pa_cons (pv 0) (pa_cons (pv 4) pa_nil))) (pv 1) (nomark _))
   (pss_one (ps_set (i := 4) nd rfl (.inl rfl) (pe_op (kAdd K) (pv 4) (pe_int)))))
  (pss_one (ps_ret (pv 4)))))))), ?_⟩
  change (_ : TS) _ [some v0, some v1, none, none, none] H
  try dsimp only [cxOf, Cx.nox, Cx.blk]
  obtain ⟨h, l, r, j, d, rfl, VV, zh, zl, br, k⟩ := h
  obtain ⟨a1, th, tl, rfl, s1, s2, s3⟩ := dp_raw d
  walk_at "w"
  refine for_range (lo := 1) (Pv := fun i σ' H2 => ∃ x, σ' = [some (.ref a1), some (.int ((j : Int) + 1)), x, none, none] ∧ Ex H H2 ∧ Upto (TV h l r) j i) ⟨_, rfl, Ex.refl _, fun t ht => by omega⟩ ?_ ?_
  · rintro i σ' H2 hi ⟨x, rfl, e, hw⟩
    walk_at "w"
    refine ⟨h, l, r, some (1 + (i : Int)), dp_of_raw (ex_t e s1) (ex_t e s2) (ex_t e s3), dp_of_opt (p := some (1 + (i : Int))), fun m hm => by cases hm; omega, VV.sm, fun v H3 e3 q3 => ?_⟩
    rw [vat1] at q3
    obtain rfl := dp_toOpt q3
    walk_at "w"
    refine ⟨some ((j : Int) + 1), _, rfl, rfl, ?_⟩
    rw [le_flip]
    cases hb : leO (TV h l r i) (some (j : Int)) with
    | true =>
      walk_at "w"
      refine ⟨_, rfl, e.trans e3, fun t ht => ?_⟩
      by_cases c : t = i
      · rw [c]; exact hb
      · exact hw t (by omega)
    | false =>
      have F : Fst (TV h l r) j i := ⟨hb, hw⟩
      have kk := k _ (e.trans e3)
      rw [turnF_at F] at kk
      walk_at "w"
      rw [show (1 : Int) + (i : Int) = (i : Int) + 1 by omega]
      exact kk
  rintro σ' H2 ⟨x, rfl, e, hw⟩
  rw [show ((h.length : Int) + l.length + 2 - 1).toNat = h.length + l.length + 1 by omega] at hw
  have c : l ≠ [] := fun c => by subst c; exact ended_reach hw
  have l0 : 0 < l.length := List.length_pos_iff.mpr c
  have r0 := VV.r0
  walk_at "w"
  by_cases cr : r = 0
  · subst cr
    have kk := k _ e
    rw [settled_reach VV c hw] at kk
    walk_at "w"
    exact kk
  · have cr' : 0 < r := by omega
    have top := hw (h.length + l.length) (Nat.lt_succ_self _)
    rw [tv_some c, leO_some] at top
    have hlast : fV h l r (h.length + (l.length - 1)) = gI l (-1 + l.length) := by
      rw [fV_loop (Nat.le_add_right ..), show (((h.length + (l.length - 1) : Nat) : Int) - h.length) = ((l.length - 1 : Nat) : Int) by omega, extL_small (by omega), show ((l.length - 1 : Nat) : Int) = -1 + (l.length : Int) by omega]
    have hl1 := fV_mono VV c (show h.length + (l.length - 1) ≤ h.length + l.length by omega)
    have g := grows VV c cr' j
    have S1 := ex_t e s1
    have S2 := ex_t e s2
    have S3 := ex_t e s3
    walk_at "w"
    rw [← hlast]
    generalize hla : fV h l r (h.length + (l.length - 1)) = last at *
    have q0 : 0 ≤ ((j : Int) + 1 - last) / r := Int.ediv_nonneg (by omega) (by omega)
    have q1 : r * (((j : Int) + 1 - last) / r) ≤ (j : Int) + 1 - last := by
      have a := Int.emod_add_mul_ediv ((j : Int) + 1 - last) r
      have b := Int.emod_nonneg ((j : Int) + 1 - last) (show r ≠ 0 by omega)
      omega
    obtain ⟨T, hT⟩ := Int.eq_ofNat_of_zero_le q0
    rw [hT] at q1
    rw [hT, show max (0 : Int) (T : Int) = T by omega]
    have U0 : Upto (TV h l r) j (h.length + T * l.length) := fun t ht => by
      cases T with
      | zero => exact hw t (by omega)
      | succ T' =>
        rw [tv_some c, leO_some]
        have tt : t ≤ h.length + (l.length - 1) + l.length * T' := by
          rw [Nat.succ_mul, Nat.mul_comm] at ht
          omega
        have m := fV_mono VV c tt
        rw [fV_perN c (Nat.dvd_refl _) (Nat.le_add_right ..), slp_self c, hla] at m
        rw [show ((T' + 1 : Nat) : Int) = (T' : Int) + 1 by omega, Int.mul_add] at q1
        omega
    generalize hM : h.length + l.length * (j + 1) = M at *
    refine ⟨fun w σ' H' => ∃ p : Nat, σ' = [some (.ref a1), some (.int ((j : Int) + 1)), x, some (.int (T : Int)), some (.int ((p : Int) + 1))] ∧ Ex H2 H' ∧ Upto (TV h l r) j p ∧ w = M - p, ⟨M - (h.length + T * l.length), h.length + T * l.length, by rw [Int.natCast_add, Int.natCast_mul], Ex.refl _, U0, rfl⟩, ?_⟩
    rintro w σ' H3 ⟨p, rfl, e3, u, rfl⟩
    walk_at "w"
    refine ⟨h, l, r, some ((p : Int) + 1), dp_of_raw (ex_t e3 S1) (ex_t e3 S2) (ex_t e3 S3), dp_of_opt (p := some _), fun q hq => by cases hq; omega, VV.sm, fun v H4 e4 q4 => ?_⟩
    rw [show valueAt h l r (some ((p : Int) + 1)) = TV h l r p from vat_TV p, tv_some c] at q4
    obtain rfl := dp_toOpt q4
    simp only [optV]
    have e34 := e3.trans e4
    walk_at "w"
    by_cases cv : fV h l r p < (j : Int) + 1
    · walk_at "w"
      refine ⟨_, fun σ2 H2 h2 => h2, ?_⟩
      walk_at "w"
      have pM : p < M := Nat.lt_of_not_le fun q => by
        have := fV_mono VV c q
        omega
      refine ⟨M - (p + 1), by omega, p + 1, rfl, e34, fun t ht => ?_, rfl⟩
      by_cases q : t = p
      · subst q
        rw [tv_some c]
        exact leO_some.mpr (by omega)
      · exact u t (by omega)
    · have F : Fst (TV h l r) j p := ⟨by rw [tv_some c]; exact decide_eq_false (by omega), u⟩
      have kk := k _ (e.trans e34)
      rw [turnF_at F] at kk
      walk_at "w"
      exact kk

theorem w_lstRg8 {K : PySem.W.Frag} {m n : Int} {σ : L2.St} {H : Hp} {Q : VK} (ok : RgOk m n) (q : ∀ p H1, H p = none → Ex H H1 → H1 p = some (.lst (rgV m n)) → Q (.ref p) H1) : tLstRg (tRg2 (tC (.int m)) (tC (.int n))) σ H Q := ⟨m, n, rfl, rfl, ok, fun p hp => q p _ hp (Ex.new hp) upd_same⟩
abbrev N__law_values : List Str := ["source", "first", "second", "told", "n", "value", "place"]
theorem sc__law_values : FnScope N__law_values ["source", "first", "second", "told"] (defScope s__law_values) := ⟨rfl, rfl, rfl, by decide +kernel, rfl, by decide +kernel, by decide +kernel⟩
theorem ok__law_values {P : Program} {w : World} {K : PySem.W.Frag} {mg : Str → Option Value} {base : Heap} (E : Env P K mg) : Fn P w K mg base CX0 4 "_law_values" (sp4 fun s a b t H Q _ => ∃ (x told : Addr) (h1 l1 h2 l2 h l : List Int) (r1 r2 r : Int), s = .ref x ∧ SrcAt H x ∧ Dp K H a (dRaw h1 l1 r1) ∧ Dp K H b (dRaw h2 l2 r2) ∧ t = .ref told ∧ TabAt K H told h l r ∧ Val h1 l1 r1 ∧ Val h2 l2 r2 ∧ h2.length ≤ 100 ∧ l2.length ≤ 100 ∧ r2 ≤ 1000000 ∧ Val h l r ∧ OvR (TV h1 l1 r1) (TV h2 l2 r2) (TV h l r) ∧ ∀ H', Fr x H H' → SrcAt H' x → Q (.bl true) H') := by
  obtain ⟨fd, F⟩ := E.dd__law_values
  refine Fn.mk0 F E.g__law_values sc__law_values sp4_len (fun _ _ _ _ _ _ us hl => match us, hl with | [_, _, _, _], _ => rfl) (fun cdv A outer s H vs Q X hr h => ?_)
  have nd := sc__law_values.nd
  obtain ⟨v0, v1, v2, v3, rfl, h⟩ := h
  refine ⟨_, (pss_cons (ps_for PassesOwn.never rfl (kSeq K (pe_op (kAdd K) (pe_listRg rfl (by rfl) E.f_list (prg_2 (by rfl) E.f_range (pe_int) (pe_int))) (pe_lst (pa_cons (pe_op (kAdd K) (pe_op xPow (pe_int) (pe_int)) (pc (ok__law_pick E) hr (by decide) pass0 rfl (pa_cons (pv 0) (pa_cons (pe_int) pa_nil)))) (pa_cons (pe_op (kAdd K) (pe_op xPow (pe_int) (pe_int)) (pc (ok__law_pick E) hr (by decide) pass0 rfl (pa_cons (pv 0) (pa_cons (pe_int) pa_nil)))) pa_nil))))) (pg_name (i := 4) nd rfl (.inl rfl))
   (pss_cons (ps_set (i := 5) nd rfl (.inl rfl) (pcl (ok_Table_call E) hr (by decide) (pv 3) (pa_cons (pv 4) pa_nil)))
  (pss_cons (ps_set (i := 6) nd rfl (.inl rfl) (pc (ok__law_reach E) hr (by decide) pass0 rfl (pa_cons (pv 2) (pa_cons (pv 4) pa_nil))))
  (pss_cons (ps_if (PW.pt (pw_or (pt_not (kTru K (pc (ok__law_is_value E) hr (by decide) pass0 rfl (pa_cons (pv 5) pa_nil)) (by intro _; rfl))) (pw_or1 (pt_cmpR (kNe K hr) (pv 5) (pe_ifExp (pt_cmpR xIs (pv 6) (pe_non) (nomark _)) (pe_non) (pc (ok__law_at E) hr (by decide) pass0 rfl (pa_cons (pv 1) (pa_cons (pv 6) pa_nil)))) (nomark _)))))
   (pss_one (ps_ret (pe_bl)))
   pss_nil)
  (pss_one (ps_if (PW.pt (pw_and (pt_cmpR xIsNot (pv 6) (pe_non) (nomark _)) (pw_and (pt_cmpR op_gt (pv 6) (pe_int) (nomark _)) (pw_and1 (kTru K (pc (ok__law_le E) hr (by decide) pass0 rfl (pa_cons (pv 4) (pa_cons (pc (ok__law_at E) hr (by decide) pass0 rfl (pa_cons (pv 2) (pa_cons (pe_op xSub (pv 6) (pe_int)) pa_nil))) pa_nil))) (by intro _; rfl))))))
   (pss_one (ps_ret (pe_bl)))
   pss_nil))))))
  (pss_one (ps_ret (pe_cmpR (kEq K hr) (pcl (ok_Table_call E) hr (by decide) (pv 3) (pa_cons (pe_int) pa_nil)) (pe_int) (nomark _))))), ?_⟩
  change (_ : TS) _ [some v0, some v1, some v2, some v3, none, none, none] H
  try dsimp only [cxOf, Cx.nox, Cx.blk]
  obtain ⟨x, told, h1, l1, h2, l2, h, l, r1, r2, r, rfl, hsrc, d1, d2, rfl, t, V1, V2, y1, y2, y3, VV, R, k⟩ := h
  obtain ⟨a1, th1, tl1, rfl, u1, u2, u3⟩ := dp_raw d1
  obtain ⟨a2, th2, tl2, rfl, v1, v2, v3⟩ := dp_raw d2
  walk_at "w"
  refine i_seqL ?_
  walk_at "w"
  refine w_lstRg8 (K := K) (m := 1) (n := 26) (RgOk.of_le (by decide) (by decide) (by decide) (by decide)) fun p5 H5 n5 e5 h5 => ?_
  walk_at "w"
  refine ⟨x, 1000, rfl, rfl, by decide, by decide, hsrc.ex e5, fun x1 H6 x10 x11 q6 f6 => ?_⟩
  walk_at "w"
  refine ⟨x, 9, rfl, rfl, by decide, by decide, q6, fun x2 H7 x20 x21 q7 f7 => ?_⟩
  have g7 := f7 p5 _ (hsrc.ne n5) (f6 p5 _ (hsrc.ne n5) h5)
  walk_at "w"
  intro p8 H8 n8 e8 h8
  refine r_addL (e8 _ _ g7) h8 (sz_of (show _ + 2 ≤ _ by rw [rgV_length]; decide)) fun p9 H9 n9 e9 h9 => ?_
  have F9 : Fr x H H9 := (Fr.of e5).trans ((f6.trans f7).trans (Fr.of (e8.trans e9)))
  have q9 := q7.ex (e8.trans e9)
  have T := fr_tab F9 hsrc t
  have U1 := fr_t F9 hsrc u1
  have U2 := fr_t F9 hsrc u2
  have U3 := fr_t F9 hsrc u3
  have W1 := fr_t F9 hsrc v1
  have W2 := fr_t F9 hsrc v2
  have W3 := fr_t F9 hsrc v3
  have z9 : (0 : Int) < 10 ^ Int.toNat 8 := Int.pow_pos (by decide)
  have z24 : (0 : Int) < 10 ^ Int.toNat 21 := Int.pow_pos (by decide)
  generalize (10 : Int) ^ Int.toNat 8 = b9 at *
  generalize (10 : Int) ^ Int.toNat 21 = b24 at *
  clear t u1 u2 u3 v1 v2 v3 d1 d2 g7 h8 h5
  have hs9 := sq_of (K := K) h9
  walk_at "w"
  refine for_list (Pv := fun _ σ' H' => ∃ u w y : Option V, σ' = [some (.ref x), some (.ref a1), some (.ref a2), some (.ref told), u, w, y] ∧ Ex H9 H') ⟨_, _, _, rfl, Ex.refl _⟩ (fun _ _ H' _ q => by obtain ⟨_, _, _, _, e⟩ := q; exact ex_l e hs9) ?_ ?_
  · rintro i y σ' H' hi ⟨u, w, y', rfl, e⟩
    have hy : ∃ j : Nat, y = .int ((j : Int) + 1) := by
      have pos : ∀ z : Int, 0 < z → ∃ j : Nat, V.int z = .int ((j : Int) + 1) := fun z hz => ⟨(z - 1).toNat, by congr 1; omega⟩
      have hm := List.mem_of_getElem? hi
      rcases List.mem_append.mp hm with hm | hm
      · obtain ⟨j, _, rfl⟩ := List.mem_map.mp hm
        exact pos _ (by omega)
      · simp only [List.mem_cons, List.not_mem_nil, or_false] at hm
        rcases hm with rfl | rfl
        · exact pos _ (by omega)
        · exact pos _ (by omega)
    obtain ⟨j, rfl⟩ := hy
    have tc := ex_tab e T
    obtain ⟨dxh, _, _, hih, _⟩ := id tc
    walk_at "w"
    refine r_callO1 hih ?_
    refine ⟨told, h, l, r, some ((j : Int) + 1), rfl, tc, rfl, fun m e => by cases e; omega, VV.sm, fun v Hd ed dd => ?_⟩
    rw [show valueAt h l r (some ((j : Int) + 1)) = TV h l r j from vat_TV j] at dd
    obtain rfl := dp_toOpt dd
    have e1 := e.trans ed
    walk_at "w"
    refine ⟨h2, l2, r2, j, dp_of_raw (ex_t e1 W1) (ex_t e1 W2) (ex_t e1 W3), rfl, V2, y1, y2, y3, fun He ee => ?_⟩
    have e2 := e1.trans ee
    walk_at "w"
    refine ⟨_, rfl, (Gd.of VV).nn j, fun v Hf ef df => ?_⟩
    obtain rfl := dp_toBl df
    have e3 := e2.trans ef
    have X1 := ex_t e3 U1
    have X2 := ex_t e3 U2
    have X3 := ex_t e3 U3
    have Y1 := ex_t e3 W1
    have Y2 := ex_t e3 W2
    have Y3 := ex_t e3 W3
    rcases R j with ⟨a, b⟩ | ⟨m, F, b⟩
    · rw [a, b]
      simp only [optV, Option.map_none]
      walk_at "w"
      refine r_neO (p := none) (q := none) ?_
      walk_at "w"
      exact ⟨_, _, _, rfl, e3⟩
    · rw [turnF_at F, b]
      simp only [Option.map_some]
      rw [show optV (some ((m : Int) + 1)) = V.int ((m : Int) + 1) from rfl]
      walk_at "w"
      refine ⟨h1, l1, r1, some ((m : Int) + 1), dp_of_raw X1 X2 X3, dp_of_opt (p := some _), fun q hq => by cases hq; omega, V1.sm, fun v Hg eg dg => ?_⟩
      rw [show valueAt h1 l1 r1 (some ((m : Int) + 1)) = TV h1 l1 r1 m from vat_TV m] at dg
      obtain rfl := dp_toOpt dg
      have e4 := e3.trans eg
      refine r_neO ?_
      rw [decide_eq_true rfl]
      walk_at "w"
      by_cases m0 : m = 0
      · walk_at "w"
        exact ⟨_, _, _, rfl, e4⟩
      · obtain ⟨n, rfl⟩ : ∃ n, m = n + 1 := ⟨m - 1, by omega⟩
        walk_at "w"
        refine ⟨h2, l2, r2, some ((n : Int) + 1), dp_of_raw (ex_t eg Y1) (ex_t eg Y2) (ex_t eg Y3), by rw [show (((n + 1 : Nat) : Int) + 1 - 1) = (n : Int) + 1 by omega]; exact dp_of_opt (p := some _), fun q hq => by cases hq; omega, V2.sm, fun v Hh eh dh => ?_⟩
        rw [show valueAt h2 l2 r2 (some ((n : Int) + 1)) = TV h2 l2 r2 n from vat_TV n] at dh
        obtain rfl := dp_toOpt dh
        walk_at "w"
        refine ⟨some ((j : Int) + 1), _, rfl, rfl, ?_⟩
        rw [le_flip, F.2 n (Nat.lt_succ_self n)]
        walk_at "w"
        exact ⟨_, _, _, rfl, e4.trans eh⟩
  rintro σ' Ha ⟨u, w, y, rfl, ea⟩
  have fa := F9.trans (Fr.of ea)
  have qa := q9.ex ea
  have tc := ex_tab ea T
  obtain ⟨dxh, _, _, hih, _⟩ := id tc
  walk_at "w"
  refine r_callO1 hih ?_
  refine ⟨told, h, l, r, some 0, rfl, tc, rfl, fun m e => by cases e; omega, VV.sm, fun v Hb eb db => ?_⟩
  rw [vat_zero] at db
  obtain rfl := dp_toOpt db
  simp only [optV]
  walk_at "w"
  exact k _ (fa.trans (Fr.of eb)) (qa.ex eb)

theorem cutV_last {α : Type} {xs : List α} (f : α → V) : cutV (xs.map f) none (some (-1)) = (xs.take (xs.length - 1)).map f := by
  have e : cutV (xs.map f) none (some (-1)) = ((xs.map f).drop 0).take (HT.sIx (xs.map f).length (xs.map f).length (some (-1)) - 0) := rfl
  have e2 : HT.sIx (xs.map f).length (xs.map f).length (some (-1)) = xs.length - 1 := by
    show (if (-1 : Int) < 0 then ((-1 : Int) + ((xs.map f).length : Int)).toNat else min (-1 : Int).toNat (xs.map f).length) = _
    rw [if_pos (by decide), List.length_map]
    omega
  rw [e, e2, List.drop_zero, Nat.sub_zero, List.map_take]
theorem r_slTlast {K : PySem.W.Frag} {H : Hp} {Q : VK} {a : Addr} {xs : List Int} (h : SqT K H a (vI xs)) (q : ∀ p H1, Ex H H1 → SqT K H1 p (vI (xs.take (xs.length - 1))) → Q (.ref p) H1) : rSl K (.ref a) none (some (-1)) H Q := r_slT h (by rw [cutV_last]; exact q)
structure Du8 (h l : List Int) (r : Int) : Prop where
  val : Val h l r
  pf : plainF h l r = (h, l, r)
  zh : h.length ≤ 143
  zl : l.length ≤ 6
  br : r ≤ 6
theorem Du8.smp {h l : List Int} {r : Int} (R : Du8 h l r) : SmP h l r := ⟨R.val, by have := R.zh; omega, by have := R.zl; omega, by have := R.br; omega⟩
structure Th8 (h l : List Int) (r : Int) : Prop where
  val : Val h l r
  zh : h.length ≤ 60
  zl : l.length ≤ 6
  br : r ≤ 6
theorem Th8.smp {h l : List Int} {r : Int} (R : Th8 h l r) : SmP h l r := ⟨R.val, by have := R.zh; omega, by have := R.zl; omega, by have := R.br; omega⟩
theorem Th8.plain {h l : List Int} {r : Int} (R : Th8 h l r) : Th8 (plainF h l r).1 (plainF h l r).2.1 (plainF h l r).2.2 := by
  obtain ⟨_, _, z1, z2, z3, z4⟩ := plainF_ok R.val
  have := R.zh
  have := R.zl
  have := R.br
  exact ⟨(plainF_val R.val).1, by omega, by omega, by omega⟩
theorem Mild.th {h l : List Int} {r : Int} (R : Mild h l r) : Th8 h l r := ⟨R.val, by have := R.zh; omega, by have := R.zl; omega, by have := R.br; omega⟩
theorem Mild.smp {h l : List Int} {r : Int} (R : Mild h l r) : SmP h l r := ⟨R.val, by have := R.zh; omega, by have := R.zl; omega, by have := R.br; omega⟩
theorem Mt0.smp {h l : List Int} {r : Int} (R : Mt0 h l r) : SmP h l r := ⟨R.val, by have := R.zh; omega, by have := R.zl; omega, by have := R.br; omega⟩
theorem val_go {h l : List Int} {r : Int} (V : Val h l r) (c : 0 < h.length) : Val (h.take (h.length - 1)) [gI h (h.length - 1)] 1 := by
  obtain ⟨z1, z2, z3, z4⟩ := V.sm
  have g := gI_nn V.p1 ((h.length : Int) - 1)
  have e1 : (h.take (h.length - 1)).length = h.length - 1 := by rw [List.length_take]; omega
  refine ⟨fun v hv => V.p1 v (List.mem_of_mem_take hv), fun v hv => ?_, fun k hk => ?_, fun k hk => (by simp at hk), by decide, fun e => (by simp at e), fun hne _ => ?_, fun _ => ?_, ⟨by decide, by decide, by omega, by simp⟩⟩
  · have : v = gI h (h.length - 1) := by simpa using hv
    omega
  · rw [e1] at hk
    rw [gI_take (by omega), show (k : Int) + 1 = ((k + 1 : Nat) : Int) by omega, gI_take (by omega)]
    exact V.r1 k (by omega)
  · have : 0 < (h.take (h.length - 1)).length := List.length_pos_iff.mpr hne
    rw [e1] at this
    rw [e1, show (((h.length - 1 : Nat) : Int) - 1) = ((h.length - 2 : Nat) : Int) by omega, gI_take (by omega)]
    have q := V.r1 (h.length - 2) (by omega)
    rw [show ((h.length - 2 : Nat) : Int) + 1 = (h.length : Int) - 1 by omega] at q
    exact q
  · show gI [gI h (h.length - 1)] ((1 : Nat) - 1 : Int) ≤ gI [gI h (h.length - 1)] 0 + 1
    show gI h (h.length - 1) ≤ gI h (h.length - 1) + 1
    omega
abbrev N__law_third : List Str := ["source", "due", "way", "one"]
theorem sc__law_third : FnScope N__law_third ["source", "due"] (defScope s__law_third) := ⟨rfl, rfl, rfl, by decide +kernel, rfl, by decide +kernel, by decide +kernel⟩
theorem ok__law_third {P : Program} {w : World} {K : PySem.W.Frag} {mg : Str → Option Value} {base : Heap} (E : Env P K mg) : Fn P w K mg base CX0 4 "_law_third" (sp2 fun s a H Q _ => ∃ (x : Addr) (h l : List Int) (r : Int), s = .ref x ∧ SrcAt H x ∧ Dp K H a (dRaw h l r) ∧ Du8 h l r ∧ ∀ v H' h' l' r', Fr x H H' → SrcAt H' x → Dp K H' v (dRaw h' l' r') → Th8 h' l' r' → Q v H') := by
  obtain ⟨fd, F⟩ := E.dd__law_third
  refine Fn.mk0 F E.g__law_third sc__law_third sp2_len (fun _ _ _ _ _ _ us hl => match us, hl with | [_, _], _ => rfl) (fun cdv A outer s H vs Q X hr h => ?_)
  have nd := sc__law_third.nd
  obtain ⟨v0, v1, rfl, h⟩ := h
  refine ⟨_, (pss_cons (ps_set (i := 2) nd rfl (.inl rfl) (pc (ok__law_pick E) hr (by decide) pass0 rfl (pa_cons (pv 0) (pa_cons (pe_int) pa_nil))))
  (pss_cons (ps_if (PW.pt (pw_or (pt_cmpR (kEq K hr) (pv 2) (pe_int) (nomark _)) (pw_or1 (pt_cmpR op_gt (pe_op (kAdd K) (pe_callB (kLen K) (by rfl) E.f_len (by decide +kernel) (pa_cons (pe_ix (kIx K) (pv 1) (pe_int) (fun _ _ => rfl)) pa_nil)) (pe_callB (kLen K) (by rfl) E.f_len (by decide +kernel) (pa_cons (pe_ix (kIx K) (pv 1) (pe_int) (fun _ _ => rfl)) pa_nil))) (pe_int) (nomark _)))))
   (pss_one (ps_ret (pc (ok__law_mild E) hr (by decide) pass0 rfl (pa_cons (pv 0) (pa_cons (pe_bl) pa_nil)))))
   pss_nil)
  (pss_cut (ps_if (PW.pt (pw_and (pt_cmpR (kEq K hr) (pv 2) (pe_int) (nomark _)) (pw_and1 (pt_cmpR op_gt (pe_callB (kLen K) (by rfl) E.f_len (by decide +kernel) (pa_cons (pe_ix (kIx K) (pv 1) (pe_int) (fun _ _ => rfl)) pa_nil)) (pe_int) (nomark _)))))
   (pss_one (ps_ret (pe_tup (pa_cons (pe_slice (kSl K) (pe_ix (kIx K) (pv 1) (pe_int) (fun _ _ => rfl)) po_none (po_some (pe_un un_neg (pe_int)))) (pa_cons (pe_tup (pa_cons (pe_ix (kIx K) (pe_ix (kIx K) (pv 1) (pe_int) (fun _ _ => rfl)) (pe_un un_neg (pe_int)) (fun _ _ => rfl)) pa_nil)) (pa_cons (pe_int) pa_nil))))))
   pss_nil)
  (pss_cons (ps_if (PW.pt (pw_and (pt_cmpR (kEq K hr) (pv 2) (pe_int) (nomark _)) (pw_and1 (pt_cmpR op_gt (pe_callB (kLen K) (by rfl) E.f_len (by decide +kernel) (pa_cons (pe_ix (kIx K) (pv 1) (pe_int) (fun _ _ => rfl)) pa_nil)) (pe_int) (nomark _)))))
   (pss_one (ps_ret (pe_tup (pa_cons (pe_ix (kIx K) (pv 1) (pe_int) (fun _ _ => rfl)) (pa_cons (pe_callTy (kTup K) (by rfl) E.f_tuple (by decide +kernel) (pa_cons (pe_lc (own := [("one", 3)]) (g := gName 3) (tt := tYes) rfl nd (kSeq K (pe_ix (kIx K) (pv 1) (pe_int) (fun _ _ => rfl))) (blkOk_by (N := N__law_third) (sc := defScope s__law_third) (by decide +kernel)) (fun _ _ _ _ _ => pg_name (i := 3) nd rfl (Or.inl rfl)) (fun _ _ _ _ _ => pts_nil) (fun _ _ _ _ _ => pe_op (kAdd K) (pv 3) (pe_int))) pa_nil)) (pa_cons (pe_ix (kIx K) (pv 1) (pe_int) (fun _ _ => rfl)) pa_nil))))))
   pss_nil)
  (pss_one (ps_ret (pv 1))))))), ?_⟩
  change (_ : TS) _ [some v0, some v1, none, none] H
  try dsimp only [cxOf, Cx.nox, Cx.blk]
  obtain ⟨x, h, l, r, rfl, hsrc, d, D, k⟩ := h
  obtain ⟨a1, th, tl, rfl, s1, s2, s3⟩ := dp_raw d
  have zh := D.zh
  have zl := D.zl
  have br := D.br
  walk_at "w"
  refine ⟨x, 4, rfl, rfl, by decide, by decide, hsrc, fun w H1 w0 w1 q1 f1 => ?_⟩
  have t1 := fr_t f1 hsrc s1
  have t2 := fr_t f1 hsrc s2
  have t3 := fr_t f1 hsrc s3
  clear s1 s2 s3 d
  walk_at "w"
  by_cases c0 : w = 0
  · walk_at "w"
    exact ⟨x, rfl, rfl, q1, fun v H' h' l' r' f q d R => k v H' h' l' r' (f1.trans f) q d R.th⟩
  · walk_at "w"
    by_cases c1 : 60 < (h.length : Int) + l.length
    · walk_at "w"
      exact ⟨x, rfl, rfl, q1, fun v H' h' l' r' f q d R => k v H' h' l' r' (f1.trans f) q d R.th⟩
    · walk_at "w"
      have same : ∀ v, v = V.ref a1 → Q v H1 := fun v e => by subst e; exact k _ _ _ _ _ f1 q1 (dp_of_raw t1 t2 t3) ⟨D.val, by omega, zl, br⟩
      have other : (l.length : Int) > 0 → ∀ H3 p, Ex H1 H3 → SqT K H3 p (vI (l.map (· + 1))) → True := fun _ _ _ _ _ => trivial
      refine w_cut (M := fun σ' H' => σ' = [some (.ref x), some (.ref a1), some (.int w), none] ∧ H' = H1) ?_ ?_
      · by_cases c2 : w = 1
        · walk_at "w"
          by_cases c5 : h.length = 0
          · walk_at "w"
            exact ⟨rfl, rfl⟩
          · walk_at "w"
            refine r_slTlast t2 fun p4 H4 e4 s4 => ?_
            walk_at "w"
            intro p5 H5 n5 e5 h5
            rw [show -1 + (h.length : Int) = (h.length : Int) - 1 by omega] at h5
            walk_at "w"
            intro p6 H6 n6 e6 h6
            have e46 := (e4.trans e5).trans e6
            exact k _ _ (h.take (h.length - 1)) [gI h (h.length - 1)] 1 (f1.trans (Fr.of e46)) (q1.ex e46) (dp_of_raw (st_of h6) (ex_t e6 (ex_t e5 s4)) (ex_t e6 (st_of h5))) ⟨val_go D.val (by omega), by rw [List.length_take]; omega, show 1 ≤ 6 by decide, by decide⟩
        · walk_at "w"
          exact ⟨rfl, rfl⟩
      rintro σ' H' ⟨rfl, rfl⟩
      by_cases c3 : w = 2
      · walk_at "w"
        by_cases c4 : l = []
        · subst c4
          walk_at "w"
          exact k _ _ _ _ _ f1 q1 (dp_of_raw t1 t2 t3) ⟨D.val, by simp only [List.length_nil] at c1; omega, zl, br⟩
        · have l0 : 0 < l.length := List.length_pos_iff.mpr c4
          walk_at "w"
          refine i_seqT ?_
          walk_at "w"
          refine lcJ_tup (v := addV 1) t3 (by rw [List.length_map]; omega) (fun y => [_, _, _, some y]) (fun y => rfl) (fun y => rfl) (fun y H3 Q' e3 hy hq => ?_) (fun p H3 n3 e3 h3 => ?_)
          · obtain ⟨n, hn, rfl⟩ := List.mem_map.mp hy
            walk_at "w"
            exact hq _ (Ex.refl _)
          · rw [map_addV] at h3
            have hs3 : SqL K H3 p (vI (l.map (· + 1))) := sq_of h3
            walk_at "w"
            intro p4 H4 e4 s4
            walk_at "w"
            intro p5 H5 n5 e5 h5
            exact k _ _ _ _ _ (f1.trans (Fr.of ((e3.trans e4).trans e5))) (q1.ex ((e3.trans e4).trans e5)) (dp_of_raw (st_of h5) (ex_t e5 (ex_t e4 (ex_t e3 t2))) (ex_t e5 s4)) ⟨val_add D.val (by decide) D.val.r0 D.val.sm.2.1 D.val.e0 D.val.ll, by omega, by rw [List.length_map]; exact zl, br⟩
      · walk_at "w"
        exact k _ _ _ _ _ f1 q1 (dp_of_raw t1 t2 t3) ⟨D.val, by omega, zl, br⟩

theorem r_neB8 {K : PySem.W.Frag} {H : Hp} {Q : VK} {i j : Bool} (h : Q (.bl (!decide (i = j))) H) : rNeU K (.bl i) (.bl j) H Q := .inl ⟨rfl, by
  have q : decide (V.bl i = V.bl j) = decide (i = j) := decide_eq_decide.mpr ⟨V.bl.inj, congrArg _⟩
  rw [q]; exact h⟩
theorem cmp_smp {a b a2 b2 : Nat} {c c2 : Int} {h1 l1 h2 l2 h l : List Int} {r1 r2 r : Int} (C : Cmp h1 l1 r1 h2 l2 r2 h l r) (x1 : h1.length ≤ a) (x2 : l1.length ≤ b) (x3 : r1 ≤ c) (c0 : 0 ≤ c) (r0 : 0 ≤ r2) (y1 : h2.length ≤ a2) (y2 : l2.length ≤ b2) (y3 : r2 ≤ c2) (b1 : 1 ≤ b2 * b)
    (z1 : a2 + b2 * (a + 1) ≤ 20000) (z2 : b2 * b ≤ 600) (z3 : c * c2 ≤ 1000000) : SmP h l r ∧ l.length ≤ b2 * b := by
  have zh := C.zh
  have m1 : l2.length * (h1.length + 1) ≤ b2 * (a + 1) := Nat.mul_le_mul y2 (by omega)
  have m2 : l2.length * l1.length ≤ b2 * b := Nat.mul_le_mul y2 x2
  have m3 : r1 * r2 ≤ c * c2 := Int.mul_le_mul x3 y3 r0 c0
  have br := C.br
  have ll : l.length ≤ b2 * b := by
    by_cases q : l = []
    · rw [q]; exact Nat.zero_le _
    · rcases C.dv q with e | ⟨q1, q2, d⟩
      · omega
      · have := Nat.le_of_dvd (Nat.mul_pos (List.length_pos_iff.mpr q2) (List.length_pos_iff.mpr q1)) d
        omega
  exact ⟨⟨C.pl.val, by omega, by omega, by omega⟩, ll⟩
theorem mul_lt8 {a b x y z : Nat} (h1 : a ≤ x) (h2 : b ≤ y) (h : x * y ≤ z) : a * b ≤ z := Nat.le_trans (Nat.mul_le_mul h1 h2) h
theorem zz8 {a b a2 b2 : Nat} {h1 l1 h2 l2 : List Int} (x1 : h1.length ≤ a) (x2 : l1.length ≤ b) (y1 : h2.length ≤ a2) (y2 : l2.length ≤ b2) (z : a2 + b2 * (a + b + 1) ≤ 40000) : h2.length + l2.length * (h1.length + l1.length + 1) ≤ 40000 := by
  have m1 : l2.length * (h1.length + l1.length + 1) ≤ b2 * (a + b + 1) := Nat.mul_le_mul y2 (by omega)
  omega
abbrev N_law : List Str := ["script", "source", "first", "second", "one", "other", "told", "due", "drawer", "third", "inside", "fourth", "middle"]
theorem sc_law : FnScope N_law ["script"] (defScope s_law) := ⟨rfl, rfl, rfl, by decide +kernel, rfl, by decide +kernel, by decide +kernel⟩
abbrev lawSp (K : PySem.W.Frag) : Sp := sp1 fun s H Q _ => ∃ (a : Addr) (ns : List Int), s = .ref a ∧ SqL K H a (vI ns) ∧ (∀ z ∈ ns, Builtin.Int.intBits z ≤ 1048576) ∧ ns.length ≤ 63 ∧ ∀ H', Q (.bl true) H'
theorem ok_law {P : Program} {w : World} {K : PySem.W.Frag} {mg : Str → Option Value} {base : Heap} (E : Env P K mg) {fd : FuncData} (F : FunD K "law" "law" (defArgs s_law) (defBody s_law) (defScope s_law) (d_law.dvs K) [] (d_law.adr K) fd) : FnOk P w K mg base CX0 15 (d_law.adr K) fd ["script"] (lawSp K) := by
  refine fnok0 F sc_law sp1_len (fun cdv A outer s H vs Q X hr h => ?_)
  have nd := sc_law.nd
  obtain ⟨v0, rfl, h⟩ := h
  refine ⟨_, (pss_cons (ps_set (i := 1) nd rfl (.inl rfl) (pc (ok__law_source E) hr (by decide) pass0 rfl (pa_cons (pv 0) (pa_cons (pe_int) pa_nil))))
  (pss_cons (ps_set (i := 2) nd rfl (.inl rfl) (pc (ok__law_mild E) hr (by decide) pass0 rfl (pa_cons (pv 1) (pa_cons (pe_bl) pa_nil))))
  (pss_cons (ps_set (i := 3) nd rfl (.inl rfl) (pc (ok__law_mild E) hr (by decide) pass0 rfl (pa_cons (pc (ok__law_source E) hr (by decide) pass0 rfl (pa_cons (pv 0) (pa_cons (pe_int) pa_nil))) (pa_cons (pe_bl) pa_nil))))
  (pss_cons (ps_par (i := 4) (j := 5) rfl nd rfl rfl (by decide) rfl rfl (pa_cons (pc (ok__law_table E) hr (by decide) pass0 rfl (pa_cons (pv 2) pa_nil)) (pa_cons (pc (ok__law_table E) hr (by decide) pass0 rfl (pa_cons (pv 3) pa_nil)) pa_nil)) rfl)
  (pss_cons (ps_set (i := 6) nd rfl (.inl rfl) (pc (ok_over E) hr (by decide) pass0 rfl (pa_cons (pv 4) (pa_cons (pv 5) pa_nil))))
  (pss_cons (ps_set (i := 7) nd rfl (.inl rfl) (pc (ok__law_over E) hr (by decide) pass0 rfl (pa_cons (pv 2) (pa_cons (pv 3) pa_nil))))
  (pss_cons (ps_if (PW.pt (pw_or (pt_not (kTru K (pc (ok__law_same E) hr (by decide) pass0 rfl (pa_cons (pv 6) (pa_cons (pv 7) pa_nil))) (by intro _; rfl))) (pw_or1 (pt_not (kTru K (pc (ok__law_values E) hr (by decide) pass0 rfl (pa_cons (pv 1) (pa_cons (pv 2) (pa_cons (pv 3) (pa_cons (pv 6) pa_nil))))) (by intro _; rfl))))))
   (pss_one (ps_ret (pe_bl)))
   pss_nil)
  (pss_cons (ps_if (pt_not (pt_cmpR (kEqO K (ok_Table_eq E) hr (by decide)) (pv 6) (pe_un (kOwnI K (ok_Table_invert E) hr (by decide)) (pe_op (kOwnB K (ok_Table_mul E) hr (by decide)) (pv 5) (pe_un (kOwnI K (ok_Table_invert E) hr (by decide)) (pv 4)))) (nomark _)))
   (pss_one (ps_ret (pe_bl)))
   pss_nil)
  (pss_cons (ps_set (i := 8) nd rfl (.inl rfl) (pc (ok__law_source E) hr (by decide) pass0 rfl (pa_cons (pv 0) (pa_cons (pe_int) pa_nil))))
  (pss_cons (ps_set (i := 9) nd rfl (.inl rfl) (pc (ok__law_third E) hr (by decide) pass0 rfl (pa_cons (pv 8) (pa_cons (pv 7) pa_nil))))
  (pss_cons (ps_set (i := 10) nd rfl (.inl rfl) (pe_cmpR xIs (pc (ok__law_above E) hr (by decide) pass0 rfl (pa_cons (pc (ok__law_behind E) hr (by decide) pass0 rfl (pa_cons (pv 9) (pa_cons (pv 3) pa_nil))) (pa_cons (pv 2) pa_nil))) (pe_non) (nomark _)))
  (pss_cons (ps_if (pt_cmpR (kNe K hr) (pv 10) (pe_cmpR xIs (pc (ok__law_above E) hr (by decide) pass0 rfl (pa_cons (pv 9) (pa_cons (pv 7) pa_nil))) (pe_non) (nomark _)) (nomark _))
   (pss_one (ps_ret (pe_bl)))
   pss_nil)
  (pss_cons (ps_if (pt_not (kTru K (pc (ok__law_truth E) hr (by decide) pass0 rfl (pa_cons (kFld K (pc (ok_below E) hr (by decide) pass0 rfl (pa_cons (pc (ok__law_table E) hr (by decide) pass0 rfl (pa_cons (pv 9) pa_nil)) (pa_cons (pv 6) pa_nil))) rfl) (pa_cons (pv 10) pa_nil))) (by intro _; rfl)))
   (pss_one (ps_ret (pe_bl)))
   pss_nil)
  (pss_cons (ps_if (pt_not (kTru K (pc (ok__law_truth E) hr (by decide) pass0 rfl (pa_cons (kFld K (pc (ok_below E) hr (by decide) pass0 rfl (pa_cons (pe_op (kOwnB K (ok_Table_mul E) hr (by decide)) (pc (ok__law_table E) hr (by decide) pass0 rfl (pa_cons (pv 9) pa_nil)) (pv 5)) (pa_cons (pv 4) pa_nil))) rfl) (pa_cons (pv 10) pa_nil))) (by intro _; rfl)))
   (pss_one (ps_ret (pe_bl)))
   pss_nil)
  (pss_cons (ps_if (pt_cmpR op_notBl (kFld K (pc (ok_below E) hr (by decide) pass0 rfl (pa_cons (pe_op (kOwnB K (ok_Table_mul E) hr (by decide)) (pv 6) (pv 5)) (pa_cons (pv 4) pa_nil))) rfl) (pe_bl) (nomark _))
   (pss_one (ps_ret (pe_bl)))
   pss_nil)
  (pss_cons (ps_set (i := 11) nd rfl (.inl rfl) (pc (ok__law_mild E) hr (by decide) pass0 rfl (pa_cons (pv 8) (pa_cons (pe_bl) pa_nil))))
  (pss_cons (ps_set (i := 12) nd rfl (.inl rfl) (pc (ok__law_table E) hr (by decide) pass0 rfl (pa_cons (pv 11) pa_nil)))
  (pss_cons (ps_if (pt_not (pt_cmpR (kEqO K (ok_Table_eq E) hr (by decide)) (pc (ok_under E) hr (by decide) pass0 rfl (pa_cons (pv 4) (pa_cons (pc (ok_over E) hr (by decide) pass0 rfl (pa_cons (pv 5) (pa_cons (pv 12) pa_nil))) pa_nil))) (pc (ok_over E) hr (by decide) pass0 rfl (pa_cons (pc (ok_under E) hr (by decide) pass0 rfl (pa_cons (pv 4) (pa_cons (pv 5) pa_nil))) (pa_cons (pv 12) pa_nil))) (nomark _)))
   (pss_one (ps_ret (pe_bl)))
   pss_nil)
  (pss_one (ps_ret (pe_and (pc (ok__law_same E) hr (by decide) pass0 rfl (pa_cons (pv 5) (pa_cons (pc (ok__law_plain E) hr (by decide) pass0 rfl (pa_cons (pe_ix (kIx K) (pv 3) (pe_int) (fun _ _ => rfl)) (pa_cons (pe_ix (kIx K) (pv 3) (pe_int) (fun _ _ => rfl)) (pa_cons (pe_ix (kIx K) (pv 3) (pe_int) (fun _ _ => rfl)) pa_nil)))) pa_nil))) (pe_one (pe_cmpR (kEqO K (ok_Table_eq E) hr (by decide)) (pc (ok_over E) hr (by decide) pass0 rfl (pa_cons (pv 4) (pa_cons (pv 5) pa_nil))) (pv 6) (nomark _)))))))))))))))))))))))), ?_⟩
  change (_ : TS) _ [some v0, none, none, none, none, none, none, none, none, none, none, none, none] H
  try dsimp only [cxOf, Cx.nox, Cx.blk]
  obtain ⟨sa, ns, rfl, s0, hb, hz, k⟩ := h
  walk_at "w"
  refine ⟨sa, ns, 0, rfl, rfl, s0, hb, hz, by decide, by decide, fun x H1 n1 e1 q1 => ?_⟩
  walk_at "w"
  refine ⟨x, rfl, rfl, q1, fun v1 H2 h1 l1 r1 f2 q2 d2 R1 => ?_⟩
  obtain ⟨ra, rfl, W1⟩ := RwAt.of d2
  have sA := l_fr f2 s0 n1 (ex_l e1 s0)
  walk_at "w"
  refine ⟨sa, ns, 1, rfl, rfl, sA, hb, hz, by decide, by decide, fun y H3 n3 e3 q3 => ?_⟩
  have ne1 : x ≠ y := (q2.ne n3).symm
  walk_at "w"
  refine ⟨y, rfl, rfl, q3, fun v4 H4 h2 l2 r2 f4 q4 d4 R2 => ?_⟩
  obtain ⟨rb, rfl, W2⟩ := RwAt.of d4
  have sB := l_fr f4 sA n3 (ex_l e3 sA)
  have W1 := (W1.ex e3).fr f4 q3
  have qx := src_fr ne1 f4 (q2.ex e3)
  clear d2 d4 f2 f4 q1 q2 q3 q4 sA e1 e3
  walk_at "w"
  refine ⟨h1, l1, r1, W1.dp, R1.val, fun one G1 e1 ta => ?_⟩
  walk_at "w"
  refine ⟨h2, l2, r2, (W2.ex e1).dp, R2.val, fun other G2 e2 tb => ?_⟩
  have e12 := e1.trans e2
  have A := ex_tab e2 ta
  have B := tb
  have W1 := W1.ex e12
  have W2 := W2.ex e12
  have qx := qx.ex e12
  have sB := ex_l e12 sB
  have X := R1.pl
  have Y := R2.pl
  have tA : TV (plainF h1 l1 r1).1 (plainF h1 l1 r1).2.1 (plainF h1 l1 r1).2.2 = TV h1 l1 r1 := funext (plainF_val R1.val).2.1
  have tB : TV (plainF h2 l2 r2).1 (plainF h2 l2 r2).2.1 (plainF h2 l2 r2).2.2 = TV h2 l2 r2 := funext (plainF_val R2.val).2.1
  have cB : ∀ f : Nat → Option Int, Gd f → CV (plainF h2 l2 r2).1 (plainF h2 l2 r2).2.1 (plainF h2 l2 r2).2.2 f = CV h2 l2 r2 f := fun f G => funext fun j => at_ext Y.val R2.val (fun i => congrFun tB i) (G.nn j)
  clear ta tb e1 e2 e12
  generalize (plainF h1 l1 r1).1 = ha at *
  generalize (plainF h1 l1 r1).2.1 = la at *
  generalize (plainF h1 l1 r1).2.2 = ra' at *
  generalize eb1 : (plainF h2 l2 r2).1 = hb' at *
  generalize eb2 : (plainF h2 l2 r2).2.1 = lb at *
  generalize eb3 : (plainF h2 l2 r2).2.2 = rb' at *
  have xr := X.br
  have yr := Y.br
  have ah := R1.zh
  have al := R1.zl
  have ar := R1.br
  have bh := R2.zh
  have bl := R2.zl
  have br := R2.br
  refine ⟨_, _, rfl, ?_⟩
  try dsimp only [List.set]
  walk_at "w"
  refine ⟨one, other, ha, la, hb', lb, ra', rb', rfl, rfl, A, B, X.val, Y.val, X.iv, by omega, fun h' l' r' T => ⟨ov_zz X Y T, by have := (X.turn T).br; omega, fun h l r C => (ov_prod X Y T C).iv (by decide) (by decide) (by decide)⟩, fun told G3 h' l' r' hc lc rc hd ld rd e3 tt T C T2 => ?_⟩
  have PC := ov_prod X Y T C
  have DD := ov_turn PC T2
  have DU : Du8 hd ld rd := ⟨DD.val, T2.pl.pf, DD.zh, DD.zl, DD.br⟩
  have RES : OvR (TV h1 l1 r1) (TV h2 l2 r2) (TV hd ld rd) := by
    rw [funext T2.pl.tv, funext C.pl.tv, ← tA, ← tB]
    exact over_val X.val Y.val T.pl
  have PT : Pl (turnF (TV h1 l1 r1)) h' l' r' := by rw [← tA]; exact T.pl
  have PP : Pl (CV h2 l2 r2 (TV h' l' r')) hc lc rc := by rw [← cB _ (Gd.of T.pl.val)]; exact C.pl
  have TT := X.turn T
  have A := ex_tab e3 A
  have B := ex_tab e3 B
  have W1 := W1.ex e3
  have W2 := W2.ex e3
  have qx := qx.ex e3
  have sB := ex_l e3 sB
  clear e3
  walk_at "w"
  refine ⟨h1, l1, h2, l2, h', l', hc, lc, r1, r2, r', rc, W1.dp, W2.dp, R1.val, R2.val, R1.iv, PT, zz8 bh bl TT.zh TT.zl (by decide), by have := TT.br; omega, by omega, PP, PC.iv (by decide) (by decide) (by decide), fun v G4 h5 l5 r5 e4 d5 P5 => ?_⟩
  obtain ⟨rfl, rfl, rfl⟩ := T2.pl.uniq P5
  obtain ⟨ru, rfl, W3⟩ := RwAt.of d5
  have A := ex_tab e4 A
  have B := ex_tab e4 B
  have W1 := W1.ex e4
  have W2 := W2.ex e4
  have qx := qx.ex e4
  have sB := ex_l e4 sB
  have tt := ex_tab e4 tt
  clear d5 e4
  walk_at "w"
  refine ⟨told, _, _, _, rfl, tt, W3.dp, DU.val.p1, DU.val.p2, DU.val.r0, DU.val.sm.2.2.1, DU.val.sm.2.2.2, fun b G5 e5 d5 => ?_⟩
  obtain rfl := dp_toBl d5
  have A := ex_tab e5 A
  have B := ex_tab e5 B
  have W1 := W1.ex e5
  have W2 := W2.ex e5
  have W3 := W3.ex e5
  have qx := qx.ex e5
  have sB := ex_l e5 sB
  have tt := ex_tab e5 tt
  clear d5 e5
  walk_at "w"
  refine ⟨x, told, h1, l1, h2, l2, _, _, r1, r2, _, rfl, qx, W1.dp, W2.dp, rfl, tt, R1.val, R2.val, by omega, by omega, by omega, DU.val, RES, fun G6 f6 q6 => ?_⟩
  have A := fr_tab f6 qx A
  have B := fr_tab f6 qx B
  have W1 := W1.fr f6 qx
  have W2 := W2.fr f6 qx
  have W3 := W3.fr f6 qx
  have tt := fr_tab f6 qx tt
  have sB := l_fr f6 s0 n1 sB
  clear f6 qx
  walk_at "w"
  refine r_invT A X.val X.iv fun z1 I1 h3 l3 r3 e1 t1 T3 => ?_
  obtain ⟨rfl, rfl, rfl⟩ := T.pl.uniq T3.pl
  walk_at "w"
  refine r_mulT (ex_tab e1 B) t1 Y.val T.pl.val (ov_zz X Y T) (by omega) (by have := TT.br; omega) fun z2 I2 h4 l4 r4 e2 t2 C2 => ?_
  obtain ⟨rfl, rfl, rfl⟩ := C.pl.uniq C2.pl
  walk_at "w"
  refine r_invT t2 PC.val (PC.iv (by decide) (by decide) (by decide)) fun z3 I3 h6 l6 r6 e3 t3 T4 => ?_
  have e13 := (e1.trans e2).trans e3
  walk_at "w"
  refine r_eqTP E ⟨_, _, _, ex_tab e13 tt, T2.pl⟩ ⟨_, _, _, t3, T4.pl⟩ rfl fun I4 e4 => ?_
  have e14 := e13.trans e4
  have A := ex_tab e14 A
  have B := ex_tab e14 B
  have W1 := W1.ex e14
  have W2 := W2.ex e14
  have W3 := W3.ex e14
  have sB := ex_l e14 sB
  have tt := ex_tab e14 tt
  clear t1 t2 t3 T3 T4 C2 e1 e2 e3 e4 e13 e14
  walk_at "w"
  refine ⟨sa, ns, 2, rfl, rfl, sB, hb, hz, by decide, by decide, fun z J1 n5 e5 q5 => ?_⟩
  have A := ex_tab e5 A
  have B := ex_tab e5 B
  have W1 := W1.ex e5
  have W2 := W2.ex e5
  have W3 := W3.ex e5
  have tt := ex_tab e5 tt
  clear e5
  walk_at "w"
  refine ⟨z, _, _, _, rfl, q5, W3.dp, DU, fun v J2 ht lt rt f6 q6' d6 TH => ?_⟩
  obtain ⟨rt', rfl, W4⟩ := RwAt.of d6
  have A := fr_tab f6 q5 A
  have B := fr_tab f6 q5 B
  have W1 := W1.fr f6 q5
  have W2 := W2.fr f6 q5
  have W3 := W3.fr f6 q5
  have tt := fr_tab f6 q5 tt
  have zh := TH.zh
  have zl := TH.zl
  have zr := TH.br
  clear d6 f6
  obtain ⟨hq, lq, rq, CQ⟩ := cmp_ex TH.val R2.val (zz8 zh zl bh bl (by decide)) (by omega) (by omega)
  obtain ⟨SQ, lQ⟩ := cmp_smp CQ zh zl zr (by decide) R2.val.r0 bh bl br (by decide) (by decide) (by decide) (by decide)
  walk_at "w"
  refine ⟨ht, lt, h2, l2, rt, r2, W4.dp, W2.dp, TH.val, R2.val, zz8 zh zl bh bl (by decide), by omega, by omega, fun v J3 h7 l7 r7 e7 d7 P7 => ?_⟩
  obtain ⟨rfl, rfl, rfl⟩ := CQ.pl.uniq P7
  walk_at "w"
  refine ⟨_, _, h1, l1, _, r1, d7, (W1.ex e7).dp, SQ, R1.smp, mul_lt8 lQ al (by decide), fun o1 J4 e8 L1 => ?_⟩
  have i1 : o1 = none ↔ ∀ j, leO (TV ht lt rt j) (TV hd ld rd j) = true := by
    rw [lst_iff L1, funext CQ.pl.tv]
    exact over_cmp TH.val R1.val R2.val RES
  have e78 := e7.trans e8
  have A := ex_tab e78 A
  have B := ex_tab e78 B
  have W2 := W2.ex e78
  have W3 := W3.ex e78
  have W4 := W4.ex e78
  have tt := ex_tab e78 tt
  have q6' := q6'.ex e78
  clear d7 P7 L1 e7 e8 e78
  walk_at "w"
  refine ⟨ht, lt, _, _, rt, _, W4.dp, W3.dp, TH.smp, DU.smp, mul_lt8 TH.zl DU.zl (by decide), fun o2 J5 e9 L2 => ?_⟩
  have i2 : o1 = none ↔ o2 = none := i1.trans (lst_iff L2).symm
  walk_at "w"
  refine r_neB8 ?_
  rw [decide_eq_true (show decide (o1 = none) = decide (o2 = none) by rw [Bool.eq_iff_iff]; simp only [decide_eq_true_iff]; exact i2)]
  have A := ex_tab e9 A
  have B := ex_tab e9 B
  have W2 := W2.ex e9
  have W4 := W4.ex e9
  have tt := ex_tab e9 tt
  have q6' := q6'.ex e9
  clear L2 i2 e9 W3
  walk_at "w"
  have TP := TH.plain
  have tT : TV (plainF ht lt rt).1 (plainF ht lt rt).2.1 (plainF ht lt rt).2.2 = TV ht lt rt := funext (plainF_val TH.val).2.1
  have cT : ∀ f : Nat → Option Int, Gd f → CV (plainF ht lt rt).1 (plainF ht lt rt).2.1 (plainF ht lt rt).2.2 f = CV ht lt rt f := fun f G => funext fun j => at_ext TP.val TH.val (fun i => congrFun tT i) (G.nn j)
  refine ⟨ht, lt, rt, W4.dp, TH.val, fun z1 I1 e1 t1 => ?_⟩
  walk_at "w"
  refine ⟨z1, told, _, _, _, _, _, _, rfl, rfl, t1, ex_tab e1 tt, TP.smp, DU.smp, mul_lt8 TP.zl DU.zl (by decide), fun bw I2 o3 e2 L3 Bo => ?_⟩
  have i3 : o3 = none ↔ o1 = none := by
    rw [lst_iff L3, tT]
    exact i1.symm
  obtain ⟨dx, fs, sd, b1, b2, b3, b4, b5, b6, b7⟩ := Bo
  refine r_getF b1 E.c_Below E.na_Below_holds b6 ?_
  walk_at "w"
  refine ⟨_, _, rfl, rfl, ?_⟩
  rw [decide_eq_true (show decide (o3 = none) = decide (o1 = none) by rw [Bool.eq_iff_iff]; simp only [decide_eq_true_iff]; exact i3)]
  have e12 := e1.trans e2
  have A := ex_tab e12 A
  have B := ex_tab e12 B
  have W2 := W2.ex e12
  have W4 := W4.ex e12
  have tt := ex_tab e12 tt
  have q6' := q6'.ex e12
  clear t1 e1 e2 e12 L3 b1 b2 b3 b4 b5 b6 b7
  walk_at "w"
  refine ⟨ht, lt, rt, W4.dp, TH.val, fun z1 I1 e1 t1 => ?_⟩
  walk_at "w"
  have tp1 := TP.zh
  have tp2 := TP.zl
  have tp3 := TP.br
  refine r_mulT t1 (ex_tab e1 B) TP.val Y.val (zz8 tp1 tp2 Y.zh Y.zl (by decide)) (by omega) (by omega) fun z2 I2 h4 l4 r4 e2 t2 C2 => ?_
  walk_at "w"
  obtain ⟨B2, B3⟩ := cmp_smp C2 tp1 tp2 tp3 (by decide) Y.val.r0 Y.zh Y.zl Y.br (by decide) (by decide) (by decide) (by decide)
  have e12 := e1.trans e2
  refine ⟨z2, one, _, _, _, _, _, _, rfl, rfl, t2, ex_tab e12 A, B2, X.smp, mul_lt8 B3 X.zl (by decide), fun bw I3 o4 e3 L4 Bo => ?_⟩
  have i4 : o4 = none ↔ o1 = none := by
    rw [lst_iff L4, funext C2.pl.tv, tB, tA, cT _ (Gd.of R2.val)]
    exact (over_cmp TH.val R1.val R2.val RES).trans i1.symm
  obtain ⟨dx, fs, sd, b1, b2, b3, b4, b5, b6, b7⟩ := Bo
  refine r_getF b1 E.c_Below E.na_Below_holds b6 ?_
  walk_at "w"
  refine ⟨_, _, rfl, rfl, ?_⟩
  rw [decide_eq_true (show decide (o4 = none) = decide (o1 = none) by rw [Bool.eq_iff_iff]; simp only [decide_eq_true_iff]; exact i4)]
  have e13 := e12.trans e3
  have A := ex_tab e13 A
  have B := ex_tab e13 B
  have W2 := W2.ex e13
  have tt := ex_tab e13 tt
  have q6' := q6'.ex e13
  clear t1 t2 e1 e2 e3 e12 e13 L4 C2 B2 B3 b1 b2 b3 b4 b5 b6 b7 W4
  walk_at "w"
  refine r_mulT tt B DU.val Y.val (zz8 DU.zh DU.zl Y.zh Y.zl (by decide)) (by have := DU.br; omega) (by omega) fun z2 I2 h4 l4 r4 e2 t2 C2 => ?_
  walk_at "w"
  obtain ⟨B2, B3⟩ := cmp_smp C2 DU.zh DU.zl DU.br (by decide) Y.val.r0 Y.zh Y.zl Y.br (by decide) (by decide) (by decide) (by decide)
  refine ⟨z2, one, _, _, _, _, _, _, rfl, rfl, t2, ex_tab e2 A, B2, X.smp, mul_lt8 B3 X.zl (by decide), fun bw I3 o5 e3 L5 Bo => ?_⟩
  have on : o5 = none := by
    rw [lst_iff L5, funext C2.pl.tv, tB, tA]
    exact (over_cmp DU.val R1.val R2.val RES).mpr fun j => leO_refl _
  subst on
  obtain ⟨dx, fs, sd, b1, b2, b3, b4, b5, b6, b7⟩ := Bo
  rw [decide_eq_true (rfl : (none : Option Int) = none)] at b6
  refine r_getF b1 E.c_Below E.na_Below_holds b6 ?_
  walk_at "w"
  refine ⟨_, _, rfl, rfl, ?_⟩
  walk_at "w"
  have e13 := e2.trans e3
  have A := ex_tab e13 A
  have B := ex_tab e13 B
  have W2 := W2.ex e13
  have tt := ex_tab e13 tt
  have q6' := q6'.ex e13
  clear t2 e2 e3 e13 L5 C2 B2 B3 b1 b2 b3 b4 b5 b6 b7
  refine ⟨z, rfl, rfl, q6', fun v J6 hm' lm' rm' f q d RM => ?_⟩
  have A := fr_tab f q6' A
  have B := fr_tab f q6' B
  have W2 := W2.fr f q6'
  have tt := fr_tab f q6' tt
  walk_at "w"
  refine ⟨hm', lm', rm', d, RM.val, fun middle J7 e7 tm => ?_⟩
  have A := ex_tab e7 A
  have B := ex_tab e7 B
  have W2 := W2.ex e7
  have tt := ex_tab e7 tt
  have M := RM.pl
  clear f q d q6' e7
  generalize (plainF hm' lm' rm').1 = hm at *
  generalize (plainF hm' lm' rm').2.1 = lm at *
  generalize (plainF hm' lm' rm').2.2 = rm at *
  have mr := M.br
  walk_at "w"
  refine ⟨other, middle, hb', lb, hm, lm, rb', rm, rfl, rfl, B, tm, Y.val, M.val, Y.iv, by omega, fun h' l' r' T => ⟨ov_zz Y M T, by have := (Y.turn T).br; omega, fun h l r C => (ov_prod Y M T C).iv (by decide) (by decide) (by decide)⟩, fun u1 K1 h8 l8 r8 hc8 lc8 rc8 hu lu ru1 e1 tu1 T8 C8 U8 => ?_⟩
  have D1 := ov_turn (ov_prod Y M T8 C8) U8
  have O1 : OvR (TV hb' lb rb') (TV hm lm rm) (TV hu lu ru1) := by
    rw [funext U8.pl.tv, funext C8.pl.tv]
    exact over_val Y.val M.val T8.pl
  have A := ex_tab e1 A
  have B := ex_tab e1 B
  have W2 := W2.ex e1
  have tt := ex_tab e1 tt
  have tm := ex_tab e1 tm
  clear e1
  walk_at "w"
  refine ⟨one, u1, ha, la, hu, lu, ra', ru1, rfl, rfl, A, tu1, X.val, D1.val, D1.iv (by decide) (by decide) (by decide), by omega, fun h' l' r' T => ⟨(uo_turn D1 T).zz X.szd (by decide), by have := (uo_turn D1 T).br; omega, fun h l r C => (uo_prod X D1 T C).iv (by decide) (by decide) (by decide)⟩, fun uL K2 h9 l9 r9 hc9 lc9 rc9 hL lL rL e2 tL T9 C9 U9 => ?_⟩
  have DL := uo_last (uo_prod X D1 T9 C9) U9
  have RU1 : Res (TV ha la ra') (TV hu lu ru1) (TV hL lL rL) := by
    rw [funext U9.pl.tv, funext C9.pl.tv]
    exact und_res D1.val (Gd.of X.val) T9.pl
  have A := ex_tab e2 A
  have B := ex_tab e2 B
  have W2 := W2.ex e2
  have tt := ex_tab e2 tt
  have tm := ex_tab e2 tm
  clear e2
  walk_at "w"
  refine ⟨one, other, ha, la, hb', lb, ra', rb', rfl, rfl, A, B, X.val, Y.val, Y.iv, by omega, fun h' l' r' T => ⟨un_zz X Y T, by have := (Y.turn T).br; omega, fun h l r C => (un_prod X Y T C).iv (by decide) (by decide) (by decide)⟩, fun u2 K3 h6 l6 r6 hc6 lc6 rc6 hn ln rn e3 tn T6 C6 U6 => ?_⟩
  have D2 := un_turn (un_prod X Y T6 C6) U6
  have RU2 : Res (TV ha la ra') (TV hb' lb rb') (TV hn ln rn) := by
    rw [funext U6.pl.tv, funext C6.pl.tv]
    exact und_res Y.val (Gd.of X.val) T6.pl
  have A := ex_tab e3 A
  have B := ex_tab e3 B
  have W2 := W2.ex e3
  have tt := ex_tab e3 tt
  have tm := ex_tab e3 tm
  have tL := ex_tab e3 tL
  clear e3
  walk_at "w"
  refine ⟨u2, middle, hn, ln, hm, lm, rn, rm, rfl, rfl, tn, tm, D2.val, M.val, D2.iv (by decide) (by decide) (by decide), by omega, fun h' l' r' T => ⟨M.szd.zz (ou_turn D2 T) (by decide), by have := (ou_turn D2 T).br; omega, fun h l r C => (ou_prod M D2 T C).iv (by decide) (by decide) (by decide)⟩, fun uR K4 h7 l7 r7 hc7 lc7 rc7 hR lR rR e4 tR T7 C7 U7 => ?_⟩
  have DR := ou_last (ou_prod M D2 T7 C7) U7
  have O2 : OvR (TV hn ln rn) (TV hm lm rm) (TV hR lR rR) := by
    rw [funext U7.pl.tv, funext C7.pl.tv]
    exact over_val D2.val M.val T7.pl
  obtain ⟨hx, lx, rx, CX⟩ := cmp_ex X.val DL.val (zz8 X.zh X.zl DL.zh DL.zl (by decide)) (by omega) (by have := DL.br; omega)
  obtain ⟨hy, ly, ry, CY⟩ := cmp_ex X.val DR.val (zz8 X.zh X.zl DR.zh DR.zl (by decide)) (by omega) (by have := DR.br; omega)
  have eLR := both_sides X.val Y.val M.val D1.val D2.val DL.val DR.val O1 RU1 RU2 O2 ⟨_, _, _, CX.pl⟩ ⟨_, _, _, CY.pl⟩
  have A := ex_tab e4 A
  have B := ex_tab e4 B
  have W2 := W2.ex e4
  have tt := ex_tab e4 tt
  walk_at "w"
  refine r_eqTP E ⟨_, _, _, ex_tab e4 tL, ⟨DL.val, U9.pl.pf, fun _ => rfl⟩⟩ ⟨_, _, _, tR, ⟨DR.val, U7.pl.pf, fun _ => rfl⟩⟩ eLR fun K5 e5 => ?_
  have A := ex_tab e5 A
  have B := ex_tab e5 B
  obtain ⟨th, tl, w1, w2, w3⟩ := W2.ex e5
  have tt := ex_tab e5 tt
  walk_at "w"
  refine ⟨true, true, h2, l2, r2, dp_of_ints w2, dp_of_ints w3, .int r2, R2.val.r0, R2.val.sm, fun w I8 e8 d8 => ?_⟩
  rw [lawF_eq, eb1, eb2, eb3] at d8
  walk_at "w"
  refine ⟨other, _, _, _, rfl, ex_tab e8 B, d8, Y.val.p1, Y.val.p2, Y.val.r0, Y.val.sm.2.2.1, Y.val.sm.2.2.2, fun b I9 e9 d9 => ?_⟩
  obtain rfl := dp_toBl d9
  have e89 := e8.trans e9
  walk_at "w"
  refine ⟨one, other, ha, la, hb', lb, ra', rb', rfl, rfl, ex_tab e89 A, ex_tab e89 B, X.val, Y.val, X.iv, by omega, fun h' l' r' T => ⟨ov_zz X Y T, by have := (X.turn T).br; omega, fun h l r C => (ov_prod X Y T C).iv (by decide) (by decide) (by decide)⟩, fun t9 K6 h7' l7' r7' h8' l8' r8' h9' l9' r9' ea t9' T7' C8' T9' => ?_⟩
  obtain ⟨rfl, rfl, rfl⟩ := T.pl.uniq T7'.pl
  obtain ⟨rfl, rfl, rfl⟩ := C.pl.uniq C8'.pl
  walk_at "w"
  refine r_eqTP E ⟨_, _, _, t9', T9'.pl⟩ ⟨_, _, _, ex_tab (e89.trans ea) tt, T2.pl⟩ rfl fun Kb eb => ?_
  exact k _

end M
namespace M
open PySem PySem.Spec PyProof.Rows L2 Evl MS
theorem facts {P : Program} {w : World} {K : PySem.W.Frag} {h : Heap} {mg : Str → Option Value} {f : Addr} (X : K.In h) (G : h.Ns mainGlobals mg) (hfa : mg ("law" : Str) = some (.ref f)) (c : SaysM fa fn exB K) (pf : ((P.main.file : Str) == mainFile) = true ∧ (P.main.scope.names.lookup ("super" : Str)).isSome = false) :
    ∃ fd : FuncData, (∀ (s : Shared) (v : Value), BindsTo s fd ⟨[v], []⟩ [("script", v)]) ∧ ∀ base : Heap, K.In base → base.Ns mainGlobals mg → FnOk P w K mg base CX0 15 f fd ["script"] (lawSp K) := by
  have E : Env P K mg := ⟨⟨h, X, G⟩, c, pf⟩
  obtain ⟨fd, F⟩ := E.dd_law
  have e := hfa.symm.trans E.g_law
  cases e
  have b := FunD.bindsA (ps := ["script"]) F fun _ _ _ _ _ _ us hl => match us, hl with | [_], _ => rfl
  exact ⟨fd, fun s v => b s [v] rfl, fun base _ _ => ok_law E F⟩
end M
open PySem PySem.W PySem.Calls PyProof.Rows
theorem PySem.Challenge.cw_rosterneed_k08_whole_over_holds : PySem.Challenge.rw_rosterneed_k08_whole_over.Holds := by
  w_on; o_law
  refine HandSHeadRun.head_any (r := OpenLaw.row PySem.Challenge.rw_rosterneed_k08_whole_over) (q := view (OpenLaw.row PySem.Challenge.rw_rosterneed_k08_whole_over).prog [71]) (H := M.hk) (ob := M.ob) (M := 6000) (loose := M.nmL) (d := HandSHeadRun.topDef (OpenLaw.row PySem.Challenge.rw_rosterneed_k08_whole_over).prog 71) (kwd := []) M.ob_eq
    (by kernel_rfl) (fun s => by kernel_rfl) M.run (by kernel_rfl) (by kernel_rfl) (by kernel_rfl) (by rfl) (by first | assumption | decide +kernel) (by decide +kernel) ⟨rfl, rfl, rfl, rfl, rfl, by decide +kernel⟩ ?hw ?hc
  case hw => w_witness2
  case hc =>
    refine Att.attach_callB (l := PySem.Challenge.rw_rosterneed_k08_whole_over) (n := 63) rfl (by kernel_rfl) fun w s₀ s₁ mg mb fa o pm cd doc a vs ns G Y ho hd hcd hmg0 hobj hints hlen hbits hg => ?_
    obtain ⟨K, KX, c⟩ := Y
    have hmg : mg ("law" : PySem.Str) = some (.ref fa) := by
      have e : (HandSHeadRun.topDef (OpenLaw.row PySem.Challenge.rw_rosterneed_k08_whole_over).prog 71).name = ("law" : PySem.Str) := by kernel_rfl
      rw [← e]
      exact hmg0
    obtain ⟨fd, hb, hF⟩ := M.facts (P := (PySem.Challenge.rw_rosterneed_k08_whole_over).prog) (w := w) KX G.T.g hmg c ⟨by kernel_rfl, by kernel_rfl⟩
    exact L2.law_call (CX := L2.CX0) KX G.T.g G.T.b G.T.builtins G.T.nolimit hg hobj hints (Nat.le_trans hlen (by decide)) ⟨rfl, by decide, by decide⟩ hF hb (fun H _ hS => ⟨_, rfl, a, ns, rfl, hS, hbits, hlen, fun _ => rfl⟩) fun _ _ _ z => z

