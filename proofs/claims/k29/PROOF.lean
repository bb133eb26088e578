import PyProof.Rows.All
import Wide.All
import OpenK.AllK
import Wide.FinOn
import KE.KStateDown
import HandS.ForMost
import HandS.Exc
import HandS.WordsExc
import HandS.Defaults
import HandS.Evl
import HandS.Flow
import HandS.Conv
import HandS.IsInst
import HandS.TupMul
import HandS.TupAny
import HandS.Wide
import HandS.WideBits
import HandS.Property
import HandS.Star
import HandS.OwnEq
import HandS.Flt
import KE.KSuper
import HandS.ClsMeth
import HandS.Nested
import HandS.Style
import HandS.Head0
import HandS.Head1
import HandS.Head2
import HandS.HeadEnd
import HandS.EndBits
import HandS.HeadHook1
import HandS.HeadHook2
import HandS.Text
import HandS.Iter
import HandS.Walk
import PyProof.Draws
import PyProof.EnumMake
import PyProof.TupleIter
import KE.GoesMore
import HandS.Deep
import KE.DataFind
import HandS.HeadHook3
import HandS.More
import HandS.TryMany
import HandS.RaiseMore
import HandS.Dict
import HandS.Codes
import PyProof.AutoSeq1
import HandS.Small
import PyProof.P3Eq
import PyProof.EqLayable
import PySem.Challenge.RW_rosterneed_k29_whole_webs_read
set_option Elab.async false
set_option linter.all false
set_option maxRecDepth 100000
set_option maxHeartbeats 4000000
/-! ### part A: defs by name, calls, unions of rules (own layer over HandS) -/
namespace M
open PySem PySem.Spec PyProof.Rows L2 Evl

section
variable {P : Program} {w : World} {K : PySem.W.Frag} {mg : Str → Option Value} {base : Heap}
/-- a def of the module under its name, with its promise -/
structure Fn (P : Program) (w : World) (K : PySem.W.Frag) (mg : Str → Option Value) (base : Heap) (CX : CXT) (k : Nat) (x : Str) (sp : Sp) : Prop where
  ex : ∃ (f : Addr) (fd : FuncData) (ps : List Str), FnOk P w K mg base CX k f fd ps sp ∧ mg x = some (.ref f) ∧ PySem.W.keepIn K (.ref f) = true ∧ Binds K fd ps []
/-- a method of the class at C -/
structure Mt (P : Program) (w : World) (K : PySem.W.Frag) (mg : Str → Option Value) (base : Heap) (CX : CXT) (k : Nat) (C : Addr) (m : Str) (sp : Sp) : Prop where
  ex : ∃ (f : Addr) (fd : FuncData) (ps : List Str), Cls K C ∧ Meth K C m f ∧ FnOk P w K mg base CX k f fd ps sp ∧ Binds K fd ps []

def sp1 (F : V → Hp → VK → XK → Prop) : Sp := fun vs H Q E => ∃ a, vs = [a] ∧ F a H Q E
def sp2 (F : V → V → Hp → VK → XK → Prop) : Sp := fun vs H Q E => ∃ a b, vs = [a, b] ∧ F a b H Q E
def sp3 (F : V → V → V → Hp → VK → XK → Prop) : Sp := fun vs H Q E => ∃ a b c, vs = [a, b, c] ∧ F a b c H Q E
def sp4 (F : V → V → V → V → Hp → VK → XK → Prop) : Sp := fun vs H Q E => ∃ a b c d, vs = [a, b, c, d] ∧ F a b c d H Q E
def sp5 (F : V → V → V → V → V → Hp → VK → XK → Prop) : Sp := fun vs H Q E => ∃ a b c d e, vs = [a, b, c, d, e] ∧ F a b c d e H Q E

theorem sp1_len {F} {p : Str} : ∀ vs H Q E, sp1 F vs H Q E → vs.length = [p].length := fun vs H Q E ⟨a, e, _⟩ => by rw [e]; rfl
theorem sp2_len {F} {p q : Str} : ∀ vs H Q E, sp2 F vs H Q E → vs.length = [p, q].length := fun vs H Q E ⟨a, b, e, _⟩ => by rw [e]; rfl
theorem sp3_len {F} {p q r : Str} : ∀ vs H Q E, sp3 F vs H Q E → vs.length = [p, q, r].length := fun vs H Q E ⟨a, b, c, e, _⟩ => by rw [e]; rfl
theorem sp4_len {F} {p q r u : Str} : ∀ vs H Q E, sp4 F vs H Q E → vs.length = [p, q, r, u].length := fun vs H Q E ⟨a, b, c, d, e, _⟩ => by rw [e]; rfl
theorem sp5_len {F} {p q r u v : Str} : ∀ vs H Q E, sp5 F vs H Q E → vs.length = [p, q, r, u, v].length := fun vs H Q E ⟨a, b, c, d, _, e, _⟩ => by rw [e]; rfl

/-- a def of which nothing is promised (the floor of a recursion) -/
theorem Fn.never {x qual : Str} {params : Arguments} {body : List Stmt} {scope : Scope} {f : Addr} {fd : FuncData} {ps : List Str} {k : Nat}
    (F : FunD K x qual params body scope [] [] f fd) (hm : mg x = some (.ref f))
    (hb : ∀ (kV doc pm : Value) (an : Option Addr) (cdv ct : Value) (us : List Value), us.length = ps.length → bindArgs (PySem.W.fnOf x qual params body scope .none kV doc pm an cdv ct) ⟨us, []⟩ = pure (ps.zip us)) :
    Fn P w K mg base CX0 k x (fun _ _ _ _ => False) :=
  ⟨f, fd, ps, ⟨fun _ _ _ _ h => h.elim, fun _ _ _ _ _ _ _ _ _ _ _ _ _ h => h.elim⟩, hm, F.kp, F.bindsN hb⟩
theorem fnok0 {x qual : Str} {params : Arguments} {body : List Stmt} {scope : Scope} {dvs : List V} {f : Addr} {fd : FuncData} {N ps : List Str} {k : Nat} {sp : Sp}
    (F : FunD K x qual params body scope dvs [] f fd) (S : FnScope N ps scope) (len : ∀ vs H Q E, sp vs H Q E → vs.length = ps.length)
    (hbody : ∀ (cdv : Value) (A : Around) (outer : List Env) (s : Shared) (H : Hp) (vs : List V) (Q : VK) (E : XK), Room k (A.deeper (envOfC qual scope s.heap.objs.size f cdv)) → sp vs H Q E →
      ∃ t, PSs (cxOf CX0 P w K mg base N qual scope f cdv A outer s H E).nox body t ∧ t { nx := fun _ H' => Q .non H', rt := Q } (start N vs) H) :
    FnOk P w K mg base CX0 (k + 1) f fd ps sp := F.ok S len fun cdv A outer s H vs Q E hr h => by
  obtain ⟨t, h1, h2⟩ := hbody cdv A outer s H vs Q E hr h
  exact ⟨t, h1.nox, h2⟩
/-- a def that lets nothing out, by its body -/
theorem Fn.mk0 {x qual : Str} {params : Arguments} {body : List Stmt} {scope : Scope} {f : Addr} {fd : FuncData} {N ps : List Str} {k : Nat} {sp : Sp}
    (F : FunD K x qual params body scope [] [] f fd) (hm : mg x = some (.ref f)) (S : FnScope N ps scope) (len : ∀ vs H Q E, sp vs H Q E → vs.length = ps.length)
    (hb : ∀ (kV doc pm : Value) (an : Option Addr) (cdv ct : Value) (us : List Value), us.length = ps.length → bindArgs (PySem.W.fnOf x qual params body scope .none kV doc pm an cdv ct) ⟨us, []⟩ = pure (ps.zip us))
    (hbody : ∀ (cdv : Value) (A : Around) (outer : List Env) (s : Shared) (H : Hp) (vs : List V) (Q : VK) (E : XK), Room k (A.deeper (envOfC qual scope s.heap.objs.size f cdv)) → sp vs H Q E →
      ∃ t, PSs (cxOf CX0 P w K mg base N qual scope f cdv A outer s H E).nox body t ∧ t { nx := fun _ H' => Q .non H', rt := Q } (start N vs) H) :
    Fn P w K mg base CX0 (k + 1) x sp :=
  ⟨f, fd, ps, F.ok S len fun cdv A outer s H vs Q E hr h => by
    obtain ⟨t, h1, h2⟩ := hbody cdv A outer s H vs Q E hr h
    exact ⟨t, h1.nox, h2⟩, hm, F.kp, F.bindsN hb⟩
theorem Mt.mk0 {x qual : Str} {params : Arguments} {body : List Stmt} {scope : Scope} {f C : Addr} {fd : FuncData} {N ps : List Str} {k : Nat} {sp : Sp} {m : Str}
    (F : FunD K x qual params body scope [] [] f fd) (c : Cls K C) (hm : Meth K C m f) (S : FnScope N ps scope) (len : ∀ vs H Q E, sp vs H Q E → vs.length = ps.length)
    (hb : ∀ (kV doc pm : Value) (an : Option Addr) (cdv ct : Value) (us : List Value), us.length = ps.length → bindArgs (PySem.W.fnOf x qual params body scope .none kV doc pm an cdv ct) ⟨us, []⟩ = pure (ps.zip us))
    (hbody : ∀ (cdv : Value) (A : Around) (outer : List Env) (s : Shared) (H : Hp) (vs : List V) (Q : VK) (E : XK), Room k (A.deeper (envOfC qual scope s.heap.objs.size f cdv)) → sp vs H Q E →
      ∃ t, PSs (cxOf CX0 P w K mg base N qual scope f cdv A outer s H E).nox body t ∧ t { nx := fun _ H' => Q .non H', rt := Q } (start N vs) H) :
    Mt P w K mg base CX0 (k + 1) C m sp :=
  ⟨f, fd, ps, c, hm, F.ok S len fun cdv A outer s H vs Q E hr h => by
    obtain ⟨t, h1, h2⟩ := hbody cdv A outer s H vs Q E hr h
    exact ⟨t, h1.nox, h2⟩, F.bindsN hb⟩
end

section
variable {X : Cx} {CX : CXT} {k j : Nat} {C : Addr} {x m : Str} {sp : Sp} {E : XK} {p pos apos : Pos} {e o : Expr} {es : List Expr} {ta : TE} {t : TA}
theorem pc (c : Fn X.prog X.w X.K X.mg X.base CX k x sp) (hr : Room j X.A) (hk : k ≤ j) (hx : Passes CX X E) (hg : Gl X x) (ha : PA X (e :: es) t)
    (hdb : (x == ("__debug__" : Str)) = false := by decide) (he : starEach (e :: es) X.env = (false, eval e X.env) :: starEach es X.env := by rfl) (hpl : (backTo pos (starEach es X.env)).any (·.1) = false := by rfl) :
    PE X (.Call (.Name x p) (e :: es) [] pos) (tCall sp [] E t) := by
  obtain ⟨f, fd, ps, F, hm, hkp, hb⟩ := c.ex
  exact pe_call F (hr.mono hk) hg hm hkp hb .nil hx ha hdb he hpl
theorem pc0 (c : Fn X.prog X.w X.K X.mg X.base CX k x sp) (hr : Room j X.A) (hk : k ≤ j) (hx : Passes CX X E) (hg : Gl X x)
    (hdb : (x == ("__debug__" : Str)) = false := by decide) :
    PE X (.Call (.Name x p) [] [] pos) (tCall sp [] E tNil) := by
  obtain ⟨f, fd, ps, F, hm, hkp, hb⟩ := c.ex
  exact pe_call0 F (hr.mono hk) hg hm hkp hb .nil hx hdb
end

/-! unions -/
section
variable {X : Cx}
def rAdd (K : PySem.W.Frag) : R2 := fun x y H Q => (rI0 fun i j => .int (i + j)) x y H Q ∨ rCat x y H Q ∨ rCatA K x y H Q ∨ ∃ i j, x = .str i ∧ y = .str j ∧ i.length + j.length ≤ sizeLine ∧ Q (.str (i ++ j)) H
theorem xAdd : OpR X (binaryOp .Add) (rAdd X.K) := op_add.or (op_cat.or (op_catA.or op_add_str))
def rMul (K : PySem.W.Frag) : R2 := fun x y H Q => (rI CMul fun i j => .int (i * j)) x y H Q ∨ rRep x y H Q ∨ rRepT K x y H Q
theorem xMul : OpR X (binaryOp .Mult) (rMul X.K) := op_mul.or (op_rep.or op_repT)
abbrev rDiv : R2 := rI CDivW fun i j => .int (i / j)
theorem xDiv : OpR X (binaryOp .FloorDiv) rDiv := op_fdivW
abbrev rMod : R2 := rI (fun _ j => 0 < j) fun i j => .int (i % j)
theorem xMod : OpR X (binaryOp .Mod) rMod := op_mod
abbrev rSubI : R2 := rI0 fun i j => .int (i - j)
theorem xSub : OpR X (binaryOp .Sub) rSubI := op_sub
abbrev rShl : R2 := rI CShl fun i j => .int (i * 2 ^ j.toNat)
theorem xShl : OpR X (binaryOp .LShift) rShl := op_shlW
abbrev rShr : R2 := rI (fun _ j => 0 ≤ j) fun i j => .int (i / 2 ^ j.toNat)
theorem xShr : OpR X (binaryOp .RShift) rShr := op_shr
abbrev rPow : R2 := rI CPow fun i j => .int (i ^ j.toNat)
theorem xPow : OpR X (binaryOp .Pow) rPow := op_pow
def rEqU (K : PySem.W.Frag) : R2 := fun x y H Q => rEq x y H Q ∨ rEqD K x y H Q
theorem xEq {j : Nat} (hr : Room j X.A) : OpR X (compareOp .Eq) (rEqU X.K) := op_eq.or (op_eqD (by have := hr.un; omega))
def rNeU (K : PySem.W.Frag) : R2 := fun x y H Q => rNe x y H Q ∨ rNeD K x y H Q
theorem xNe {j : Nat} (hr : Room j X.A) : OpR X (compareOp .NotEq) (rNeU X.K) := op_ne.or (op_neD (by have := hr.un; omega))
def rSl (K : PySem.W.Frag) : V → Option Int → Option Int → Hp → VK → Prop := fun x lo hi H Q => rSlL K x lo hi H Q ∨ rSlA K x lo hi H Q ∨ rSlS x lo hi H Q
theorem xSl : SlR X (rSl X.K) := sl_list.or (sl_tupA.or sl_str)
theorem PI.or {tg iter : Expr} {w1 w2 : TI} (h1 : PI X tg iter w1) (h2 : PI X tg iter w2) : PI X tg iter (fun σ H R => w1 σ H R ∨ w2 σ H R) :=
  ⟨fun pins s σ H R I h => h.elim (h1.run pins s σ H R I) (h2.run pins s σ H R I)⟩
def iSeq (K : PySem.W.Frag) (tl : TE) : TI := fun σ H R => iList K tl σ H R ∨ iTup K tl σ H R
theorem pi_seq {tg l : Expr} {tl : TE} (hl : PE X l tl) : PI X tg l (iSeq X.K tl) := PI.or (pi_list hl) (pi_tup hl)
end
end M

/-! ### part B: readings step by step -/
namespace M
open PySem PySem.Spec PyProof.Rows L2 Evl
section
variable {K : PySem.W.Frag} {σ : L2.St} {H : Hp} {Q : VK} {D : Ends} {t u : TS} {te ta tb : TE} {tt tu : TT} {g : TG} {v : V} {r : R2}
theorem w_cut {M : L2.St → Hp → Prop} (h : t { nx := M, rt := D.rt, bk := D.bk, ct := D.ct } σ H) (h2 : ∀ σ' H', M σ' H' → u D σ' H') : tCut t u D σ H := ⟨M, h, h2⟩
theorem w_seq (h : t { nx := u D, rt := D.rt, bk := D.bk, ct := D.ct } σ H) : tSeq t u D σ H := h
theorem w_drop (h : te σ H fun _ H1 => D.nx σ H1) : tDrop te D σ H := h
theorem w_asg (h : te σ H fun x H1 => g x σ H1 D.nx) : tAsg te g D σ H := h
theorem w_ret (h : te σ H D.rt) : tRet te D σ H := h
theorem w_retN (h : D.rt .non H) : tRetN D σ H := h
theorem w_next (h : D.nx σ H) : tNext D σ H := h
theorem w_break (h : D.bk σ H) : tBreak D σ H := h
theorem w_ifS (h : tt σ H fun b H1 => if b = true then t D σ H1 else u D σ H1) : tIfS tt t u D σ H := h
theorem w_op (h : ta σ H fun x H1 => tb σ H1 fun y H2 => r x y H2 Q) : tOp r ta tb σ H Q := h
theorem w_un {r : V → Hp → VK → Prop} (h : ta σ H fun x H1 => r x H1 Q) : tUn r ta σ H Q := h
theorem w_c (h : Q v H) : tC v σ H Q := h
theorem w_test {Q : Bool → Hp → Prop} (h : te σ H fun x H' => ∃ k, x = .bl k ∧ Q k H') : tTest te σ H Q := h
theorem w_tB {Q : Bool → Hp → Prop} (h : te σ H fun x H' => ∃ k, x = .bl k ∧ Q k H') : tB te σ H Q := h
theorem w_exbl {Q : Bool → Hp → Prop} {b : Bool} (h : Q b H) : ∃ k, V.bl b = .bl k ∧ Q k H := ⟨b, rfl, h⟩
theorem w_exbl2 {Q : Bool → Prop} {b : Bool} (h : Q b) : ∃ k, V.bl b = .bl k ∧ Q k := ⟨b, rfl, h⟩
theorem w_and {Q : Bool → Hp → Prop} (h : tt σ H fun c H1 => if c = true then tu σ H1 Q else Q false H1) : tAnd tt tu σ H Q := h
theorem w_or {Q : Bool → Hp → Prop} (h : tt σ H fun c H1 => if c = true then Q true H1 else tu σ H1 Q) : tOr tt tu σ H Q := h
theorem w_not {Q : Bool → Hp → Prop} (h : tt σ H fun c H1 => Q (!c) H1) : tNot tt σ H Q := h
theorem w_andV (h : ta σ H fun x H1 => ∃ c, x = .bl c ∧ if c = true then tb σ H1 Q else Q (.bl false) H1) : tAndV ta tb σ H Q := h
theorem w_orV (h : ta σ H fun x H1 => ∃ c, x = .bl c ∧ if c = true then Q (.bl true) H1 else tb σ H1 Q) : tOrV ta tb σ H Q := h
theorem w_notV (h : ta σ H fun x H1 => ∃ c, x = .bl c ∧ Q (.bl (!c)) H1) : tNotV ta σ H Q := h
theorem w_ifE (h : tt σ H fun c H1 => if c = true then ta σ H1 Q else tb σ H1 Q) : tIf tt ta tb σ H Q := h
theorem w_chain {r' : R2} {tc : TE} (h : ta σ H fun x H1 => tb σ H1 fun y H2 => r x y H2 fun z H3 => ∃ k, z = .bl k ∧ (if k = true then tc σ H3 fun w' H4 => r' y w' H4 Q else Q (.bl false) H3)) : tChain r r' ta tb tc σ H Q := h
theorem w_nil {Q : List V → Hp → Prop} (h : Q [] H) : tNil σ H Q := h
theorem w_cons {tr : TA} {Q : List V → Hp → Prop} (h : ta σ H fun x H1 => tr σ H1 fun xs H2 => Q (x :: xs) H2) : tCons ta tr σ H Q := h
theorem w_cb {r : List V → Hp → VK → Prop} {t : TA} (h : t σ H fun vs H1 => r vs H1 Q) : tCB r t σ H Q := h
theorem w_call {sp : Sp} {E : XK} {t : TA} (h : t σ H fun vs H1 => sp (vs ++ []) H1 Q E) : tCall sp [] E t σ H Q := h
theorem w_call1 {F} {E : XK} {a : V} (h : F a H Q E) : sp1 F ([a] ++ []) H Q E := ⟨a, rfl, h⟩
theorem w_call2 {F} {E : XK} {a b : V} (h : F a b H Q E) : sp2 F ([a, b] ++ []) H Q E := ⟨a, b, rfl, h⟩
theorem w_call3 {F} {E : XK} {a b c : V} (h : F a b c H Q E) : sp3 F ([a, b, c] ++ []) H Q E := ⟨a, b, c, rfl, h⟩
theorem w_call4 {F} {E : XK} {a b c d : V} (h : F a b c d H Q E) : sp4 F ([a, b, c, d] ++ []) H Q E := ⟨a, b, c, d, rfl, h⟩
theorem w_call5 {F} {E : XK} {a b c d e : V} (h : F a b c d e H Q E) : sp5 F ([a, b, c, d, e] ++ []) H Q E := ⟨a, b, c, d, e, rfl, h⟩
theorem w_callM1 {F} {E : XK} {x : V} (h : F x H Q E) : sp1 F (x :: ([] ++ [])) H Q E := ⟨x, rfl, h⟩
theorem w_callM2 {F} {E : XK} {x a : V} (h : F x a H Q E) : sp2 F (x :: ([a] ++ [])) H Q E := ⟨x, a, rfl, h⟩
theorem w_callM3 {F} {E : XK} {x a b : V} (h : F x a b H Q E) : sp3 F (x :: ([a, b] ++ [])) H Q E := ⟨x, a, b, rfl, h⟩
theorem w_callM4 {F} {E : XK} {x a b c : V} (h : F x a b c H Q E) : sp4 F (x :: ([a, b, c] ++ [])) H Q E := ⟨x, a, b, c, rfl, h⟩
/-- a new tuple, a new list: what is asked, named -/
def NewT (xs : List V) (H : Hp) (Q : VK) : Prop := xs.length ≤ sizeLine ∧ ∀ p, H p = none → Q (.ref p) (upd H p (.tup xs))
def NewL (xs : List V) (H : Hp) (Q : VK) : Prop := xs.length ≤ sizeLine ∧ ∀ p, H p = none → Q (.ref p) (upd H p (.lst xs))
theorem w_tup {t : TA} (h : t σ H fun xs H1 => NewT xs H1 Q) : tTup t σ H Q := h
theorem w_lst {t : TA} (h : t σ H fun xs H1 => NewL xs H1 Q) : tLst t σ H Q := h
theorem w_newT {xs : List V} (hz : xs.length ≤ sizeLine) (h : ∀ p H1, H p = none → Ex H H1 → H1 p = some (.tup xs) → Q (.ref p) H1) : NewT xs H Q :=
  ⟨hz, fun p hp => h p _ hp (Ex.new hp) upd_same⟩
theorem w_newL {xs : List V} (hz : xs.length ≤ sizeLine) (h : ∀ p H1, H p = none → Ex H H1 → H1 p = some (.lst xs) → Q (.ref p) H1) : NewL xs H Q :=
  ⟨hz, fun p hp => h p _ hp (Ex.new hp) upd_same⟩
theorem w_sl {r : V → Option Int → Option Int → Hp → VK → Prop} {tl th : TO} (h : te σ H fun x H1 => tl σ H1 fun l H2 => th σ H2 fun u H3 => r x l u H3 Q) : tSl r te tl th σ H Q := h
theorem w_part {Q : Option Int → Hp → Prop} (h : te σ H fun x H1 => ∃ i, x = .int i ∧ Q (some i) H1) : tPart te σ H Q := h
theorem w_noPart {Q : Option Int → Hp → Prop} (h : Q none H) : tNoPart σ H Q := h
theorem w_exint {Q : Int → Prop} {i : Int} (h : Q i) : ∃ k, V.int i = .int k ∧ Q k := ⟨i, rfl, h⟩
theorem w_gsub {to ti : TE} {s : TSet} {Q : L2.St → Hp → Prop} (h : to σ H fun o H1 => ti σ H1 fun i H2 => s o i v H2 fun H3 => Q σ H3) : gSub to ti s v σ H Q := h
theorem w_par {i j : Nat} {ta : TA} (h : ta σ H fun vs H1 => ∃ v w, vs = [v, w] ∧ D.nx ((List.set σ i (some v)).set j (some w)) H1) : tPar i j ta D σ H := h
theorem w_yes {Q : Bool → Hp → Prop} (h : Q true H) : tYes σ H Q := h
/-! tuples unpacked -/
theorem w_gtup {n : Nat} {t : TGs} {a : Addr} {xs : List V} {Q : L2.St → Hp → Prop} (hs : SqT K H a xs) (hl : xs.length = n) (h : t xs σ H Q) : gTup K n t (.ref a) σ H Q := ⟨a, xs, rfl, hs, hl, h⟩
theorem w_gcons {g : TG} {us : TGs} {x : V} {xs : List V} {Q : L2.St → Hp → Prop} (h : g x σ H fun σ' H' => us xs σ' H' Q) : gCons g us (x :: xs) σ H Q := ⟨x, xs, rfl, h⟩
theorem w_gnil {Q : L2.St → Hp → Prop} (h : Q σ H) : gNil [] σ H Q := ⟨rfl, h⟩
/-! ifs -/
theorem w_ite {c A B : Prop} [Decidable c] (h1 : c → A) (h2 : ¬ c → B) : if decide c = true then A else B := by
  by_cases h : c
  · rw [if_pos (decide_eq_true h)]; exact h1 h
  · rw [if_neg (by rw [decide_eq_false h]; exact Bool.false_ne_true)]; exact h2 h
theorem w_iteN {c A B : Prop} [Decidable c] (h1 : ¬ c → A) (h2 : c → B) : if (!decide c) = true then A else B := by
  by_cases h : c
  · rw [decide_eq_true h, if_neg (by decide)]; exact h2 h
  · rw [decide_eq_false h, if_pos (by decide)]; exact h1 h
theorem w_dT {c A B : Prop} [Decidable c] (h : c) (h1 : A) : if decide c = true then A else B := w_ite (fun _ => h1) fun n => absurd h n
theorem w_dF {c A B : Prop} [Decidable c] (h : ¬ c) (h1 : B) : if decide c = true then A else B := w_ite (fun n => absurd n h) fun _ => h1
theorem w_nT {c A B : Prop} [Decidable c] (h : ¬ c) (h1 : A) : if (!decide c) = true then A else B := w_iteN (fun _ => h1) fun n => absurd n h
theorem w_nF {c A B : Prop} [Decidable c] (h : c) (h1 : B) : if (!decide c) = true then A else B := w_iteN (fun n => absurd h n) fun _ => h1
theorem w_bT {b : Bool} {A B : Prop} (h : b = true) (h1 : A) : if b = true then A else B := by rw [if_pos h]; exact h1
theorem w_bF {b : Bool} {A B : Prop} (h : b = false) (h1 : B) : if b = true then A else B := by rw [if_neg (by rw [h]; decide)]; exact h1
theorem w_b2 {b : Bool} {A B : Prop} (h1 : b = true → A) (h2 : b = false → B) : if b = true then A else B := by
  cases b
  · exact iteF (h2 rfl)
  · exact iteT (h1 rfl)

/-- a store, named -/
def SetN (i : Nat) (v : V) (l : L2.St) (H : Hp) (Q : L2.St → Hp → Prop) : Prop := Q (l.set i (some v)) H
theorem w_nn {i : Nat} {Q : L2.St → Hp → Prop} (h : SetN i v σ H Q) : gName i v σ H Q := h
def GetN (i : Nat) (l : L2.St) (H : Hp) (Q : VK) : Prop := ∃ v, l[i]? = some (some v) ∧ Q v H
theorem w_vv {i : Nat} (h : GetN i σ H Q) : tVar i σ H Q := h
theorem w_v0 {l : L2.St} (h : Q v H) : GetN 0 (some v :: l) H Q := ⟨v, rfl, h⟩
theorem w_n0 {y : Option V} {l : L2.St} {Q : L2.St → Hp → Prop} (h : Q (some v :: l) H) : SetN 0 v (y :: l) H Q := h
theorem w_v1 {x0 : Option V} {l : L2.St} (h : Q v H) : GetN 1 (x0 :: some v :: l) H Q := ⟨v, rfl, h⟩
theorem w_n1 {x0 : Option V} {y : Option V} {l : L2.St} {Q : L2.St → Hp → Prop} (h : Q (x0 :: some v :: l) H) : SetN 1 v (x0 :: y :: l) H Q := h
theorem w_v2 {x0 x1 : Option V} {l : L2.St} (h : Q v H) : GetN 2 (x0 :: x1 :: some v :: l) H Q := ⟨v, rfl, h⟩
theorem w_n2 {x0 x1 : Option V} {y : Option V} {l : L2.St} {Q : L2.St → Hp → Prop} (h : Q (x0 :: x1 :: some v :: l) H) : SetN 2 v (x0 :: x1 :: y :: l) H Q := h
theorem w_v3 {x0 x1 x2 : Option V} {l : L2.St} (h : Q v H) : GetN 3 (x0 :: x1 :: x2 :: some v :: l) H Q := ⟨v, rfl, h⟩
theorem w_n3 {x0 x1 x2 : Option V} {y : Option V} {l : L2.St} {Q : L2.St → Hp → Prop} (h : Q (x0 :: x1 :: x2 :: some v :: l) H) : SetN 3 v (x0 :: x1 :: x2 :: y :: l) H Q := h
theorem w_v4 {x0 x1 x2 x3 : Option V} {l : L2.St} (h : Q v H) : GetN 4 (x0 :: x1 :: x2 :: x3 :: some v :: l) H Q := ⟨v, rfl, h⟩
theorem w_n4 {x0 x1 x2 x3 : Option V} {y : Option V} {l : L2.St} {Q : L2.St → Hp → Prop} (h : Q (x0 :: x1 :: x2 :: x3 :: some v :: l) H) : SetN 4 v (x0 :: x1 :: x2 :: x3 :: y :: l) H Q := h
theorem w_v5 {x0 x1 x2 x3 x4 : Option V} {l : L2.St} (h : Q v H) : GetN 5 (x0 :: x1 :: x2 :: x3 :: x4 :: some v :: l) H Q := ⟨v, rfl, h⟩
theorem w_n5 {x0 x1 x2 x3 x4 : Option V} {y : Option V} {l : L2.St} {Q : L2.St → Hp → Prop} (h : Q (x0 :: x1 :: x2 :: x3 :: x4 :: some v :: l) H) : SetN 5 v (x0 :: x1 :: x2 :: x3 :: x4 :: y :: l) H Q := h
theorem w_v6 {x0 x1 x2 x3 x4 x5 : Option V} {l : L2.St} (h : Q v H) : GetN 6 (x0 :: x1 :: x2 :: x3 :: x4 :: x5 :: some v :: l) H Q := ⟨v, rfl, h⟩
theorem w_n6 {x0 x1 x2 x3 x4 x5 : Option V} {y : Option V} {l : L2.St} {Q : L2.St → Hp → Prop} (h : Q (x0 :: x1 :: x2 :: x3 :: x4 :: x5 :: some v :: l) H) : SetN 6 v (x0 :: x1 :: x2 :: x3 :: x4 :: x5 :: y :: l) H Q := h
theorem w_v7 {x0 x1 x2 x3 x4 x5 x6 : Option V} {l : L2.St} (h : Q v H) : GetN 7 (x0 :: x1 :: x2 :: x3 :: x4 :: x5 :: x6 :: some v :: l) H Q := ⟨v, rfl, h⟩
theorem w_n7 {x0 x1 x2 x3 x4 x5 x6 : Option V} {y : Option V} {l : L2.St} {Q : L2.St → Hp → Prop} (h : Q (x0 :: x1 :: x2 :: x3 :: x4 :: x5 :: x6 :: some v :: l) H) : SetN 7 v (x0 :: x1 :: x2 :: x3 :: x4 :: x5 :: x6 :: y :: l) H Q := h
theorem w_v8 {x0 x1 x2 x3 x4 x5 x6 x7 : Option V} {l : L2.St} (h : Q v H) : GetN 8 (x0 :: x1 :: x2 :: x3 :: x4 :: x5 :: x6 :: x7 :: some v :: l) H Q := ⟨v, rfl, h⟩
theorem w_n8 {x0 x1 x2 x3 x4 x5 x6 x7 : Option V} {y : Option V} {l : L2.St} {Q : L2.St → Hp → Prop} (h : Q (x0 :: x1 :: x2 :: x3 :: x4 :: x5 :: x6 :: x7 :: some v :: l) H) : SetN 8 v (x0 :: x1 :: x2 :: x3 :: x4 :: x5 :: x6 :: x7 :: y :: l) H Q := h
theorem w_v9 {x0 x1 x2 x3 x4 x5 x6 x7 x8 : Option V} {l : L2.St} (h : Q v H) : GetN 9 (x0 :: x1 :: x2 :: x3 :: x4 :: x5 :: x6 :: x7 :: x8 :: some v :: l) H Q := ⟨v, rfl, h⟩
theorem w_n9 {x0 x1 x2 x3 x4 x5 x6 x7 x8 : Option V} {y : Option V} {l : L2.St} {Q : L2.St → Hp → Prop} (h : Q (x0 :: x1 :: x2 :: x3 :: x4 :: x5 :: x6 :: x7 :: x8 :: some v :: l) H) : SetN 9 v (x0 :: x1 :: x2 :: x3 :: x4 :: x5 :: x6 :: x7 :: x8 :: y :: l) H Q := h
theorem w_v10 {x0 x1 x2 x3 x4 x5 x6 x7 x8 x9 : Option V} {l : L2.St} (h : Q v H) : GetN 10 (x0 :: x1 :: x2 :: x3 :: x4 :: x5 :: x6 :: x7 :: x8 :: x9 :: some v :: l) H Q := ⟨v, rfl, h⟩
theorem w_n10 {x0 x1 x2 x3 x4 x5 x6 x7 x8 x9 : Option V} {y : Option V} {l : L2.St} {Q : L2.St → Hp → Prop} (h : Q (x0 :: x1 :: x2 :: x3 :: x4 :: x5 :: x6 :: x7 :: x8 :: x9 :: some v :: l) H) : SetN 10 v (x0 :: x1 :: x2 :: x3 :: x4 :: x5 :: x6 :: x7 :: x8 :: x9 :: y :: l) H Q := h
theorem w_v11 {x0 x1 x2 x3 x4 x5 x6 x7 x8 x9 x10 : Option V} {l : L2.St} (h : Q v H) : GetN 11 (x0 :: x1 :: x2 :: x3 :: x4 :: x5 :: x6 :: x7 :: x8 :: x9 :: x10 :: some v :: l) H Q := ⟨v, rfl, h⟩
theorem w_n11 {x0 x1 x2 x3 x4 x5 x6 x7 x8 x9 x10 : Option V} {y : Option V} {l : L2.St} {Q : L2.St → Hp → Prop} (h : Q (x0 :: x1 :: x2 :: x3 :: x4 :: x5 :: x6 :: x7 :: x8 :: x9 :: x10 :: some v :: l) H) : SetN 11 v (x0 :: x1 :: x2 :: x3 :: x4 :: x5 :: x6 :: x7 :: x8 :: x9 :: x10 :: y :: l) H Q := h
theorem w_v12 {x0 x1 x2 x3 x4 x5 x6 x7 x8 x9 x10 x11 : Option V} {l : L2.St} (h : Q v H) : GetN 12 (x0 :: x1 :: x2 :: x3 :: x4 :: x5 :: x6 :: x7 :: x8 :: x9 :: x10 :: x11 :: some v :: l) H Q := ⟨v, rfl, h⟩
theorem w_n12 {x0 x1 x2 x3 x4 x5 x6 x7 x8 x9 x10 x11 : Option V} {y : Option V} {l : L2.St} {Q : L2.St → Hp → Prop} (h : Q (x0 :: x1 :: x2 :: x3 :: x4 :: x5 :: x6 :: x7 :: x8 :: x9 :: x10 :: x11 :: some v :: l) H) : SetN 12 v (x0 :: x1 :: x2 :: x3 :: x4 :: x5 :: x6 :: x7 :: x8 :: x9 :: x10 :: x11 :: y :: l) H Q := h
theorem w_v13 {x0 x1 x2 x3 x4 x5 x6 x7 x8 x9 x10 x11 x12 : Option V} {l : L2.St} (h : Q v H) : GetN 13 (x0 :: x1 :: x2 :: x3 :: x4 :: x5 :: x6 :: x7 :: x8 :: x9 :: x10 :: x11 :: x12 :: some v :: l) H Q := ⟨v, rfl, h⟩
theorem w_n13 {x0 x1 x2 x3 x4 x5 x6 x7 x8 x9 x10 x11 x12 : Option V} {y : Option V} {l : L2.St} {Q : L2.St → Hp → Prop} (h : Q (x0 :: x1 :: x2 :: x3 :: x4 :: x5 :: x6 :: x7 :: x8 :: x9 :: x10 :: x11 :: x12 :: some v :: l) H) : SetN 13 v (x0 :: x1 :: x2 :: x3 :: x4 :: x5 :: x6 :: x7 :: x8 :: x9 :: x10 :: x11 :: x12 :: y :: l) H Q := h
theorem w_v14 {x0 x1 x2 x3 x4 x5 x6 x7 x8 x9 x10 x11 x12 x13 : Option V} {l : L2.St} (h : Q v H) : GetN 14 (x0 :: x1 :: x2 :: x3 :: x4 :: x5 :: x6 :: x7 :: x8 :: x9 :: x10 :: x11 :: x12 :: x13 :: some v :: l) H Q := ⟨v, rfl, h⟩
theorem w_n14 {x0 x1 x2 x3 x4 x5 x6 x7 x8 x9 x10 x11 x12 x13 : Option V} {y : Option V} {l : L2.St} {Q : L2.St → Hp → Prop} (h : Q (x0 :: x1 :: x2 :: x3 :: x4 :: x5 :: x6 :: x7 :: x8 :: x9 :: x10 :: x11 :: x12 :: x13 :: some v :: l) H) : SetN 14 v (x0 :: x1 :: x2 :: x3 :: x4 :: x5 :: x6 :: x7 :: x8 :: x9 :: x10 :: x11 :: x12 :: x13 :: y :: l) H Q := h
theorem w_v15 {x0 x1 x2 x3 x4 x5 x6 x7 x8 x9 x10 x11 x12 x13 x14 : Option V} {l : L2.St} (h : Q v H) : GetN 15 (x0 :: x1 :: x2 :: x3 :: x4 :: x5 :: x6 :: x7 :: x8 :: x9 :: x10 :: x11 :: x12 :: x13 :: x14 :: some v :: l) H Q := ⟨v, rfl, h⟩
theorem w_n15 {x0 x1 x2 x3 x4 x5 x6 x7 x8 x9 x10 x11 x12 x13 x14 : Option V} {y : Option V} {l : L2.St} {Q : L2.St → Hp → Prop} (h : Q (x0 :: x1 :: x2 :: x3 :: x4 :: x5 :: x6 :: x7 :: x8 :: x9 :: x10 :: x11 :: x12 :: x13 :: x14 :: some v :: l) H) : SetN 15 v (x0 :: x1 :: x2 :: x3 :: x4 :: x5 :: x6 :: x7 :: x8 :: x9 :: x10 :: x11 :: x12 :: x13 :: x14 :: y :: l) H Q := h

/-! rules by values -/
theorem r_addI {i j : Int} (h : Q (.int (i + j)) H) : rAdd K (.int i) (.int j) H Q := .inl ⟨i, j, rfl, rfl, h⟩
theorem r_subI {i j : Int} (h : Q (.int (i - j)) H) : rSubI (.int i) (.int j) H Q := ⟨i, j, rfl, rfl, h⟩
theorem r_mulI {i j : Int} (hc : CMul i j) (h : Q (.int (i * j)) H) : rMul K (.int i) (.int j) H Q := .inl ⟨i, j, rfl, rfl, hc, h⟩
theorem r_divI {i j : Int} (h0 : 0 < j) (h1 : j < 2 ^ 62) (h : Q (.int (i / j)) H) : rDiv (.int i) (.int j) H Q := ⟨i, j, rfl, rfl, ⟨h0, by
  have h2 : j.natAbs < 2 ^ 62 := by omega
  have h3 : j.natAbs.log2 < 62 := (Nat.log2_lt (by omega)).mpr h2
  omega⟩, h⟩
theorem r_modI {i j : Int} (h0 : 0 < j) (h : Q (.int (i % j)) H) : rMod (.int i) (.int j) H Q := ⟨i, j, rfl, rfl, h0, h⟩
theorem r_addL {a b : Addr} {xs ys : List V} (ha : H a = some (.lst xs)) (hb : H b = some (.lst ys)) (hz : xs.length + ys.length ≤ sizeLine) (h : ∀ p H1, H p = none → Ex H H1 → H1 p = some (.lst (xs ++ ys)) → Q (.ref p) H1) : rAdd K (.ref a) (.ref b) H Q :=
  .inr (.inl ⟨a, b, xs, ys, rfl, rfl, ha, hb, hz, fun p hp => h p _ hp (Ex.new hp) upd_same⟩)
theorem r_addT {a b : Addr} {xs ys : List V} (ha : SqT K H a xs) (hb : SqT K H b ys) (hz : xs.length + ys.length ≤ sizeLine) (h : ∀ p H1, Ex H H1 → SqT K H1 p (xs ++ ys) → Q (.ref p) H1) : rAdd K (.ref a) (.ref b) H Q :=
  .inr (.inr (.inl ⟨a, b, xs, ys, rfl, rfl, ha, hb, hz, fun e => h b H (Ex.refl H) (by rw [e]; exact hb), fun _ e => h a H (Ex.refl H) (by rw [e, List.append_nil]; exact ha), fun _ _ p hp => h p _ (Ex.new hp) (st_of upd_same)⟩))
theorem r_neg {i : Int} (h : Q (.int (-i)) H) : (rU fun i => .int (-i)) (.int i) H Q := ⟨i, rfl, h⟩
theorem r_lt {i j : Int} (h : Q (.bl (decide (i < j))) H) : (rI0 fun i j => .bl (decide (i < j))) (.int i) (.int j) H Q := ⟨i, j, rfl, rfl, h⟩
theorem r_le {i j : Int} (h : Q (.bl (decide (i ≤ j))) H) : (rI0 fun i j => .bl (decide (i ≤ j))) (.int i) (.int j) H Q := ⟨i, j, rfl, rfl, h⟩
theorem r_gt {i j : Int} (h : Q (.bl (decide (j < i))) H) : (rI0 fun i j => .bl (decide (j < i))) (.int i) (.int j) H Q := ⟨i, j, rfl, rfl, h⟩
theorem r_ge {i j : Int} (h : Q (.bl (decide (j ≤ i))) H) : (rI0 fun i j => .bl (decide (j ≤ i))) (.int i) (.int j) H Q := ⟨i, j, rfl, rfl, h⟩
end
end M

/-! ### part C: data, equality, built-ins, comprehensions -/
namespace M
open PySem PySem.Spec PyProof.Rows L2 Evl

abbrev dInts (ns : List Int) : PyData := .tuple (ns.map .int)
abbrev dIntL (ns : List Int) : PyData := .list (ns.map .int)
def dOpt : Option Int → PyData
  | none => .none
  | some i => .int i
def optV : Option Int → V
  | none => .non
  | some i => .int i
abbrev vI (ns : List Int) : List V := ns.map V.int
abbrev dRaw (h l : List Int) (r : Int) : PyData := .tuple [dInts h, dInts l, .int r]

section
variable {K : PySem.W.Frag} {H H' : Hp} {v : V} {Q : VK}
mutual
theorem dp_ex (e : Ex H H') : ∀ {d : PyData} {v : V}, Dp K H v d → Dp K H' v d
  | _, _, .non => .non
  | _, _, .bl b => .bl b
  | _, _, .int i => .int i
  | _, _, .str x => .str x
  | _, _, .lst h a => .lst (ex_l e h) (dpAll_ex e a)
  | _, _, .tup h a => .tup (ex_t e h) (dpAll_ex e a)
theorem dpAll_ex (e : Ex H H') : ∀ {ds : List PyData} {vs : List V}, DpAll K H vs ds → DpAll K H' vs ds
  | _, _, .nil => .nil
  | _, _, .cons a r => .cons (dp_ex e a) (dpAll_ex e r)
end
theorem dpAll_ints : ∀ {ns : List Int} {vs : List V}, DpAll K H vs (ns.map .int) → vs = vI ns
  | [], _, .nil => rfl
  | _ :: _, _, .cons (.int _) r => by rw [dpAll_ints r]; rfl
theorem dpAll_of_ints : ∀ {ns : List Int}, DpAll K H (vI ns) (ns.map .int)
  | [] => .nil
  | n :: _ => .cons (.int n) dpAll_of_ints
theorem dp_ints {ns : List Int} (h : Dp K H v (dInts ns)) : ∃ a, v = .ref a ∧ SqT K H a (vI ns) := by
  cases h with
  | tup h a => rw [dpAll_ints a] at h; exact ⟨_, rfl, h⟩
theorem dp_intL {ns : List Int} (h : Dp K H v (dIntL ns)) : ∃ a, v = .ref a ∧ SqL K H a (vI ns) := by
  cases h with
  | lst h a => rw [dpAll_ints a] at h; exact ⟨_, rfl, h⟩
theorem dp_of_ints {a : Addr} {ns : List Int} (h : SqT K H a (vI ns)) : Dp K H (.ref a) (dInts ns) := .tup h dpAll_of_ints
theorem dp_of_intL {a : Addr} {ns : List Int} (h : SqL K H a (vI ns)) : Dp K H (.ref a) (dIntL ns) := .lst h dpAll_of_ints
theorem dp_opt {p : Option Int} (h : Dp K H v (dOpt p)) : v = optV p := by
  cases p with
  | none => cases h; rfl
  | some i => cases h; rfl
theorem dp_of_opt {p : Option Int} : Dp K H (optV p) (dOpt p) := by
  cases p with
  | none => exact .non
  | some i => exact .int i
theorem dp_toInt {i : Int} (h : Dp K H v (.int i)) : v = .int i := by cases h; rfl
theorem dp_toBl {b : Bool} (h : Dp K H v (.bool b)) : v = .bl b := by cases h; rfl
theorem dp_toNon (h : Dp K H v .none) : v = .non := by cases h; rfl
/-- a raw table: a triple of two tuples of ints and an int -/
structure RawAt (K : PySem.W.Frag) (H : Hp) (a : Addr) (h l : List Int) (r : Int) : Prop where
  ex : ∃ th tl, SqT K H a [.ref th, .ref tl, .int r] ∧ SqT K H th (vI h) ∧ SqT K H tl (vI l)
theorem dp_raw {h l : List Int} {r : Int} (d : Dp K H v (dRaw h l r)) : ∃ a th tl, v = .ref a ∧ SqT K H a [.ref th, .ref tl, .int r] ∧ SqT K H th (vI h) ∧ SqT K H tl (vI l) := by
  cases d with
  | tup s q =>
    cases q with
    | cons q1 q => cases q with
      | cons q2 q => cases q with
        | cons q3 q =>
          cases q
          cases q3
          obtain ⟨th, rfl, s1⟩ := dp_ints q1
          obtain ⟨tl, rfl, s2⟩ := dp_ints q2
          exact ⟨_, th, tl, rfl, s, s1, s2⟩
theorem dp_of_raw {a th tl : Addr} {h l : List Int} {r : Int} (s : SqT K H a [.ref th, .ref tl, .int r]) (s1 : SqT K H th (vI h)) (s2 : SqT K H tl (vI l)) : Dp K H (.ref a) (dRaw h l r) :=
  .tup s (.cons (dp_of_ints s1) (.cons (dp_of_ints s2) (.cons (.int r) .nil)))
theorem dp_t2 {d1 d2 : PyData} (d : Dp K H v (.tuple [d1, d2])) : ∃ a x y, v = .ref a ∧ SqT K H a [x, y] ∧ Dp K H x d1 ∧ Dp K H y d2 := by
  cases d with
  | tup s q => cases q with
    | cons q1 q => cases q with
      | cons q2 q => cases q; exact ⟨_, _, _, rfl, s, q1, q2⟩
theorem dp_t3 {d1 d2 d3 : PyData} (d : Dp K H v (.tuple [d1, d2, d3])) : ∃ a x y z, v = .ref a ∧ SqT K H a [x, y, z] ∧ Dp K H x d1 ∧ Dp K H y d2 ∧ Dp K H z d3 := by
  cases d with
  | tup s q => cases q with
    | cons q1 q => cases q with
      | cons q2 q => cases q with
        | cons q3 q => cases q; exact ⟨_, _, _, _, rfl, s, q1, q2, q3⟩
/-- what is wanted of a def that makes the value of d and leaves what stands -/
def RetD (K : PySem.W.Frag) (d : PyData) (H : Hp) (Q : VK) : Prop := ∀ v H', Ex H H' → Dp K H' v d → Q v H'
theorem RetD.int {i : Int} (k : RetD K (.int i) H Q) (e : Ex H H') : Q (.int i) H' := k _ _ e (.int i)
theorem RetD.bl {b : Bool} (k : RetD K (.bool b) H Q) (e : Ex H H') : Q (.bl b) H' := k _ _ e (.bl b)
theorem RetD.opt {p : Option Int} (k : RetD K (dOpt p) H Q) (e : Ex H H') : Q (optV p) H' := k _ _ e dp_of_opt
theorem RetD.non (k : RetD K .none H Q) (e : Ex H H') : Q .non H' := k _ _ e .non
end

/-! the type of data -/
def tyD : PyData → Value
  | .none => .type "NoneType"
  | .bool _ => .type "bool"
  | .int _ => .type "int"
  | .str _ => .type "str"
  | .list _ => .type "list"
  | .tuple _ => .type "tuple"
  | .dict _ => .type "dict"
section
variable {K : PySem.W.Frag} {H H' : Hp} {v : V} {Q : VK} {d : PyData}
theorem SqL.ty {a : Addr} {xs : List V} (h : SqL K H a xs) : TyX K H (.ref a) (.type "list") := by
  rcases h with (h | ⟨o, h⟩) | ⟨o, its, n, h, c, _⟩
  · exact .base (.lst h)
  · exact .base (.frz h)
  · exact .kList h c
theorem SqT.ty {a : Addr} {xs : List V} (h : SqT K H a xs) : TyX K H (.ref a) (.type "tuple") := by
  rcases h with (h | ⟨o, h⟩) | ⟨o, its, n, h, c, _⟩
  · exact .base (.tup h)
  · exact .fTuple h
  · exact .kTuple h c
theorem dp_ty (h : Dp K H v d) : TyX K H v (tyD d) := by
  cases h with
  | non => exact .base .non
  | bl b => exact .base (.bl b)
  | int i => exact .base (.int i)
  | str x => exact .base (.str x)
  | lst h a => exact SqL.ty h
  | tup h a => exact SqT.ty h
theorem r_isi {n : String} {b : Bool} {t : Value} (ty : TyX K H v t) (hb : PySem.W.kitOne K t (.type n) = some b) (h : Q (.bl b) H) : rIsi K [v, .ty n] H Q := ⟨v, .ty n, t, .type n, b, rfl, .ty n, ty, hb, h⟩
theorem r_isiC {C : Addr} {b : Bool} {t : Value} (ty : TyX K H v t) (hb : PySem.W.kitOne K t (.ref C) = some b) (h : Q (.bl b) H) : rIsi K [v, .ref C] H Q := ⟨v, .ref C, t, .ref C, b, rfl, .own C, ty, hb, h⟩
theorem r_isiT {tp : Addr} {n m : String} {b : Bool} {t : Value} (hT : H tp = some (.tup [.ty n, .ty m])) (ty : TyX K H v t) (hb : PySem.W.kitAny K t [.type n, .type m] = some b) (h : Q (.bl b) H) : rIsiT K [v, .ref tp] H Q :=
  ⟨v, tp, [.ty n, .ty m], t, [.type n, .type m], b, rfl, hT, .cons (.ty n) (.cons (.ty m) .nil), ty, hb, h⟩
end

/-! equality -/
theorem eqv_ints : ∀ xs ys : List Int, PyData.eqvAll (xs.map .int) (ys.map .int) = decide (xs = ys)
  | [], [] => rfl
  | [], _ :: _ => rfl
  | _ :: _, [] => rfl
  | x :: xs, y :: ys => by
    show (x == y && PyData.eqvAll (xs.map .int) (ys.map .int)) = _
    rw [eqv_ints xs ys]
    by_cases h : x = y
    · subst h; simp
    · simp [h]
theorem canLay_ints : ∀ xs : List Int, PyData.canLayAll0 (xs.map .int) = true
  | [] => rfl
  | x :: xs => by show (true && PyData.canLayAll0 (xs.map .int)) = true; rw [canLay_ints xs]; rfl
theorem depth_ints : ∀ xs : List Int, PyData.depthAll (xs.map .int) = 0
  | [] => rfl
  | x :: xs => by show max 0 (PyData.depthAll (xs.map .int)) = 0; rw [depth_ints xs]; rfl
theorem shaped_ints (xs : List Int) : SeqAt.shaped (dInts xs) = true := by
  show (PyData.canLayAll0 (xs.map .int) && decide (PyData.depthAll (xs.map .int) + 1 ≤ 64)) = true
  rw [canLay_ints, depth_ints]; rfl
theorem shaped_intL (xs : List Int) : SeqAt.shaped (dIntL xs) = true := by
  show (PyData.canLayAll0 (xs.map .int) && decide (PyData.depthAll (xs.map .int) + 1 ≤ 64)) = true
  rw [canLay_ints, depth_ints]; rfl
theorem shaped_raw (h l : List Int) (r : Int) : SeqAt.shaped (dRaw h l r) = true := by
  show (((PyData.canLayAll0 (h.map .int)) && ((PyData.canLayAll0 (l.map .int)) && (true && true))) && decide (max (PyData.depthAll (h.map .int) + 1) (max (PyData.depthAll (l.map .int) + 1) (max 0 0)) + 1 ≤ 64)) = true
  rw [canLay_ints, canLay_ints, depth_ints, depth_ints]; rfl
theorem eqv_raw (h l h' l' : List Int) (r r' : Int) : PyData.eqv (dRaw h l r) (dRaw h' l' r') = decide (h = h' ∧ l = l' ∧ r = r') := by
  show (PyData.eqvAll (h.map .int) (h'.map .int) && (PyData.eqvAll (l.map .int) (l'.map .int) && (r == r' && true))) = _
  rw [eqv_ints, eqv_ints]
  by_cases h1 : h = h' <;> by_cases h2 : l = l' <;> by_cases h3 : r = r' <;> simp [h1, h2, h3]
section
variable {K : PySem.W.Frag} {H H' : Hp} {x y : V} {Q : VK} {d e : PyData}
theorem r_eqI {i j : Int} (h : Q (.bl (decide (i = j))) H) : rEqU K (.int i) (.int j) H Q := .inl ⟨rfl, by
  have q : decide (V.int i = V.int j) = decide (i = j) := decide_eq_decide.mpr ⟨V.int.inj, congrArg _⟩
  rw [q]; exact h⟩
theorem r_neI {i j : Int} (h : Q (.bl (!decide (i = j))) H) : rNeU K (.int i) (.int j) H Q := .inl ⟨rfl, by
  have q : decide (V.int i = V.int j) = decide (i = j) := decide_eq_decide.mpr ⟨V.int.inj, congrArg _⟩
  rw [q]; exact h⟩
theorem r_eqB {i j : Bool} (h : Q (.bl (decide (i = j))) H) : rEqU K (.bl i) (.bl j) H Q := .inl ⟨rfl, by
  have q : decide (V.bl i = V.bl j) = decide (i = j) := decide_eq_decide.mpr ⟨V.bl.inj, congrArg _⟩
  rw [q]; exact h⟩
theorem optV_inj {p q : Option Int} : optV p = optV q ↔ p = q := by
  cases p <;> cases q <;> simp [optV]
theorem scal_opt (p q : Option Int) : scal (optV p) (optV q) = true := by cases p <;> cases q <;> rfl
theorem r_eqO {p q : Option Int} (h : Q (.bl (decide (p = q))) H) : rEqU K (optV p) (optV q) H Q := .inl ⟨scal_opt p q, by
  have z : decide (optV p = optV q) = decide (p = q) := decide_eq_decide.mpr optV_inj
  rw [z]; exact h⟩
theorem r_neO {p q : Option Int} (h : Q (.bl (!decide (p = q))) H) : rNeU K (optV p) (optV q) H Q := .inl ⟨scal_opt p q, by
  have z : decide (optV p = optV q) = decide (p = q) := decide_eq_decide.mpr optV_inj
  rw [z]; exact h⟩
theorem r_eqD (hd : Dp K H x d) (he : Dp K H y e) (sd : SeqAt.shaped d = true) (se : SeqAt.shaped e = true) (h : Q (.bl (PyData.eqv d e)) H) : rEqU K x y H Q := .inr ⟨d, e, hd, he, sd, se, h⟩
theorem r_neD (hd : Dp K H x d) (he : Dp K H y e) (sd : SeqAt.shaped d = true) (se : SeqAt.shaped e = true) (h : Q (.bl (!PyData.eqv d e)) H) : rNeU K x y H Q := .inr ⟨d, e, hd, he, sd, se, h⟩
theorem r_eqT {a b : Addr} {xs ys : List Int} (ha : SqT K H a (vI xs)) (hb : SqT K H b (vI ys)) (h : Q (.bl (decide (xs = ys))) H) : rEqU K (.ref a) (.ref b) H Q :=
  r_eqD (dp_of_ints ha) (dp_of_ints hb) (shaped_ints _) (shaped_ints _) (by rw [show PyData.eqv (dInts xs) (dInts ys) = decide (xs = ys) from eqv_ints xs ys]; exact h)
theorem r_neT {a b : Addr} {xs ys : List Int} (ha : SqT K H a (vI xs)) (hb : SqT K H b (vI ys)) (h : Q (.bl (!decide (xs = ys))) H) : rNeU K (.ref a) (.ref b) H Q :=
  r_neD (dp_of_ints ha) (dp_of_ints hb) (shaped_ints _) (shaped_ints _) (by rw [show PyData.eqv (dInts xs) (dInts ys) = decide (xs = ys) from eqv_ints xs ys]; exact h)
theorem r_neL {a b : Addr} {xs ys : List Int} (ha : SqL K H a (vI xs)) (hb : SqL K H b (vI ys)) (h : Q (.bl (!decide (xs = ys))) H) : rNeU K (.ref a) (.ref b) H Q :=
  r_neD (dp_of_intL ha) (dp_of_intL hb) (shaped_intL _) (shaped_intL _) (by rw [show PyData.eqv (dIntL xs) (dIntL ys) = decide (xs = ys) from eqv_ints xs ys]; exact h)
/-! is None -/
def rIs : R2 := fun x y H Q => y = .non ∧ Q (.bl (decide (x = .non))) H
def rIsNot : R2 := fun x y H Q => y = .non ∧ Q (.bl (!decide (x = .non))) H
theorem xIs {X : Cx} : OpR X (compareOp .Is) rIs := op_isN
theorem xIsNot {X : Cx} : OpR X (compareOp .IsNot) rIsNot := op_notN
theorem r_isO {p : Option Int} (h : Q (.bl (decide (p = none))) H) : rIs (optV p) .non H Q := ⟨rfl, by
  have z : decide (optV p = V.non) = decide (p = none) := decide_eq_decide.mpr (by cases p <;> simp [optV])
  rw [z]; exact h⟩
theorem r_isNotO {p : Option Int} (h : Q (.bl (!decide (p = none))) H) : rIsNot (optV p) .non H Q := ⟨rfl, by
  have z : decide (optV p = V.non) = decide (p = none) := decide_eq_decide.mpr (by cases p <;> simp [optV])
  rw [z]; exact h⟩
theorem r_isI {i : Int} (h : Q (.bl false) H) : rIs (.int i) .non H Q := ⟨rfl, h⟩
theorem r_isN (h : Q (.bl true) H) : rIs .non .non H Q := ⟨rfl, h⟩
theorem r_isR {a : Addr} (h : Q (.bl false) H) : rIs (.ref a) .non H Q := ⟨rfl, h⟩
theorem r_isNotI {i : Int} (h : Q (.bl true) H) : rIsNot (.int i) .non H Q := ⟨rfl, h⟩
theorem r_isNotN (h : Q (.bl false) H) : rIsNot .non .non H Q := ⟨rfl, h⟩
theorem r_isNotR {a : Addr} (h : Q (.bl true) H) : rIsNot (.ref a) .non H Q := ⟨rfl, h⟩
end

/-! built-ins by names of our own -/
section
variable {X : Cx} {K : PySem.W.Frag} {H : Hp} {Q : VK}
def rLenU (K : PySem.W.Frag) : List V → Hp → VK → Prop := fun xs H Q => ∃ x n, xs = [x] ∧ LenV K x H n ∧ Q (.int n) H
theorem xLen : CallR X (.builtin "len") (rLenU X.K) := call_len
theorem r_lenT {a : Addr} {xs : List V} (h : SqT K H a xs) (q : Q (.int (xs.length : Int)) H) : rLenU K [.ref a] H Q := ⟨_, xs.length, rfl, .inr ⟨xs, h, rfl⟩, q⟩
theorem r_lenL {a : Addr} {xs : List V} (h : SqL K H a xs) (q : Q (.int (xs.length : Int)) H) : rLenU K [.ref a] H Q := ⟨_, xs.length, rfl, .inl ⟨xs, h, rfl⟩, q⟩
theorem r_lenTI {a : Addr} {xs : List Int} (h : SqT K H a (vI xs)) (q : Q (.int (xs.length : Int)) H) : rLenU K [.ref a] H Q := r_lenT h (by rw [List.length_map]; exact q)
theorem r_lenLI {a : Addr} {xs : List Int} (h : SqL K H a (vI xs)) (q : Q (.int (xs.length : Int)) H) : rLenU K [.ref a] H Q := r_lenL h (by rw [List.length_map]; exact q)
def rAbsU : List V → Hp → VK → Prop := fun xs H Q => ∃ i, xs = [.int i] ∧ Q (.int (if i < 0 then -i else i)) H
theorem xAbs : CallR X (.builtin "abs") rAbsU := call_abs
theorem r_abs {i : Int} (q : Q (.int (i.natAbs : Int)) H) : rAbsU [.int i] H Q := ⟨i, rfl, by
  have e : (if i < 0 then -i else i) = (i.natAbs : Int) := by split <;> omega
  rw [e]; exact q⟩
def rMax2U : List V → Hp → VK → Prop := fun xs H Q => ∃ i j, xs = [.int i, .int j] ∧ Q (.int (if j > i then j else i)) H
theorem xMax2 (hc : X.calm = true) : CallR X (.builtin "max") rMax2U := call_max2 hc
theorem r_max2 {i j : Int} (q : Q (.int (max i j)) H) : rMax2U [.int i, .int j] H Q := ⟨i, j, rfl, by
  have e : (if j > i then j else i) = max i j := by split <;> omega
  rw [e]; exact q⟩
def rMin2U : List V → Hp → VK → Prop := fun xs H Q => ∃ i j, xs = [.int i, .int j] ∧ Q (.int (if j < i then j else i)) H
theorem xMin2 (hc : X.calm = true) : CallR X (.builtin "min") rMin2U := call_min2 hc
theorem r_min2 {i j : Int} (q : Q (.int (min i j)) H) : rMin2U [.int i, .int j] H Q := ⟨i, j, rfl, by
  have e : (if j < i then j else i) = min i j := by split <;> omega
  rw [e]; exact q⟩
def rIntU : List V → Hp → VK → Prop := fun xs H Q => (∃ i, xs = [.int i] ∧ Q (.int i) H) ∨ ∃ k, xs = [.bl k] ∧ Q (.int (if k then 1 else 0)) H
theorem xInt : CallR X (.type "int") rIntU := call_int1
theorem r_int {i : Int} (q : Q (.int i) H) : rIntU [.int i] H Q := .inl ⟨i, rfl, q⟩
def rBoolU : List V → Hp → VK → Prop := fun xs H Q => (∃ i, xs = [.int i] ∧ Q (.bl (i != 0)) H) ∨ ∃ k, xs = [.bl k] ∧ Q (.bl k) H
theorem xBool : CallR X (.type "bool") rBoolU := call_bool1
theorem r_boolB {b : Bool} (q : Q (.bl b) H) : rBoolU [.bl b] H Q := .inr ⟨b, rfl, q⟩
def rLstU (K : PySem.W.Frag) : List V → Hp → VK → Prop := fun xs H Q => ∃ p ys, xs = [.ref p] ∧ (SqL K H p ys ∨ SqT K H p ys) ∧ ∀ l, H l = none → Q (.ref l) (upd H l (.lst ys))
theorem xLst : CallR X (.type "list") (rLstU X.K) := call_list_of
theorem r_lstL {a : Addr} {xs : List V} (h : SqL K H a xs) (q : ∀ p H1, H p = none → Ex H H1 → H1 p = some (.lst xs) → Q (.ref p) H1) : rLstU K [.ref a] H Q := ⟨a, xs, rfl, .inl h, fun p hp => q p _ hp (Ex.new hp) upd_same⟩
theorem r_lstT {a : Addr} {xs : List V} (h : SqT K H a xs) (q : ∀ p H1, H p = none → Ex H H1 → H1 p = some (.lst xs) → Q (.ref p) H1) : rLstU K [.ref a] H Q := ⟨a, xs, rfl, .inr h, fun p hp => q p _ hp (Ex.new hp) upd_same⟩
def rTupU (K : PySem.W.Frag) : List V → Hp → VK → Prop := fun xs H Q => ∃ p ys, xs = [.ref p] ∧ ((SqL K H p ys ∧ ∀ l, H l = none → Q (.ref l) (upd H l (.tup ys))) ∨ (SqT K H p ys ∧ Q (.ref p) H))
theorem xTup : CallR X (.type "tuple") (rTupU X.K) := call_tuple_of
theorem r_tupL {a : Addr} {xs : List V} (h : SqL K H a xs) (q : ∀ p H1, Ex H H1 → SqT K H1 p xs → Q (.ref p) H1) : rTupU K [.ref a] H Q := ⟨a, xs, rfl, .inl ⟨h, fun p hp => q p _ (Ex.new hp) (st_of upd_same)⟩⟩
theorem r_tupT {a : Addr} {xs : List V} (h : SqT K H a xs) (q : ∀ p H1, Ex H H1 → SqT K H1 p xs → Q (.ref p) H1) : rTupU K [.ref a] H Q := ⟨a, xs, rfl, .inr ⟨h, q a H (Ex.refl H) h⟩⟩
theorem r_all {a : Addr} {bs : List Bool} {xs : List V} (h : SqL K H a xs) (e : xs = bs.map V.bl) (q : Q (.bl (bs.all id)) H) : rAll K [.ref a] H Q := ⟨a, bs, rfl, by rw [← e]; exact h, q⟩
theorem r_any {a : Addr} {bs : List Bool} {xs : List V} (h : SqL K H a xs) (e : xs = bs.map V.bl) (q : Q (.bl (bs.any id)) H) : rAny K [.ref a] H Q := ⟨a, bs, rfl, by rw [← e]; exact h, q⟩
/-! indices -/
theorem atI_pos {α : Type} {xs : List α} {i : Int} {v : α} (h0 : 0 ≤ i) (h : xs[i.toNat]? = some v) : atI xs i = some v := by
  have hl : i.toNat < xs.length := (List.getElem?_eq_some_iff.mp h).1
  unfold atI ixN
  rw [if_pos h0, if_pos (by omega)]
  exact h
theorem atI_neg {α : Type} {xs : List α} {i : Int} {v : α} (h0 : i < 0) (h1 : -(xs.length : Int) ≤ i) (h : xs[(i + xs.length).toNat]? = some v) : atI xs i = some v := by
  unfold atI ixN
  rw [if_neg (by omega), if_pos h1]
  exact h
/-- the int at a place of a list of ints -/
def gI (xs : List Int) (i : Int) : Int := xs.getD i.toNat 0
theorem atI_ints {xs : List Int} {i : Int} (h0 : 0 ≤ i) (h1 : i < xs.length) : atI (vI xs) i = some (V.int (gI xs i)) := by
  refine atI_pos h0 ?_
  have hl : i.toNat < xs.length := by omega
  rw [List.getElem?_map, List.getElem?_eq_getElem hl]
  show some (V.int xs[i.toNat]) = some (V.int (xs.getD i.toNat 0))
  rw [List.getD_eq_getElem?_getD, List.getElem?_eq_getElem hl]; rfl
theorem atI_intsN {xs : List Int} {i : Int} (h0 : i < 0) (h1 : -(xs.length : Int) ≤ i) : atI (vI xs) i = some (V.int (gI xs (i + xs.length))) := by
  have hl : (i + xs.length).toNat < xs.length := by omega
  refine atI_neg h0 (by rw [List.length_map]; exact h1) ?_
  rw [List.length_map, List.getElem?_map, List.getElem?_eq_getElem hl]
  show some (V.int xs[(i + xs.length).toNat]) = some (V.int (xs.getD (i + xs.length).toNat 0))
  rw [List.getD_eq_getElem?_getD, List.getElem?_eq_getElem hl]; rfl
theorem r_ixT {a : Addr} {xs : List V} {i : Int} {v : V} (h : SqT K H a xs) (ha : atI xs i = some v) (q : Q v H) : rIx K (.ref a) (.int i) H Q := .inr (.inl ⟨a, xs, i, v, rfl, rfl, h, ha, q⟩)
theorem r_ixL {a : Addr} {xs : List V} {i : Int} {v : V} (h : SqL K H a xs) (ha : atI xs i = some v) (q : Q v H) : rIx K (.ref a) (.int i) H Q := .inl ⟨a, xs, i, v, rfl, rfl, h, ha, q⟩
theorem r_ixTI {a : Addr} {xs : List Int} {i : Int} (h : SqT K H a (vI xs)) (h0 : 0 ≤ i) (h1 : i < xs.length) (q : Q (.int (gI xs i)) H) : rIx K (.ref a) (.int i) H Q := r_ixT h (atI_ints h0 h1) q
theorem r_ixTN {a : Addr} {xs : List Int} {i : Int} (h : SqT K H a (vI xs)) (h0 : i < 0) (h1 : -(xs.length : Int) ≤ i) (q : Q (.int (gI xs (i + xs.length))) H) : rIx K (.ref a) (.int i) H Q := r_ixT h (atI_intsN h0 h1) q
theorem r_ixLI {a : Addr} {xs : List Int} {i : Int} (h : SqL K H a (vI xs)) (h0 : 0 ≤ i) (h1 : i < xs.length) (q : Q (.int (gI xs i)) H) : rIx K (.ref a) (.int i) H Q := r_ixL h (atI_ints h0 h1) q
theorem r_ixLN {a : Addr} {xs : List Int} {i : Int} (h : SqL K H a (vI xs)) (h0 : i < 0) (h1 : -(xs.length : Int) ≤ i) (q : Q (.int (gI xs (i + xs.length))) H) : rIx K (.ref a) (.int i) H Q := r_ixL h (atI_intsN h0 h1) q
/-! slices -/
def rSlI (xs : List Int) (lo hi : Option Int) : List Int := (xs.drop (HT.sIx xs.length 0 lo)).take (HT.sIx xs.length xs.length hi - HT.sIx xs.length 0 lo)
theorem cut_ints (xs : List Int) (lo hi : Option Int) : cutV (vI xs) lo hi = vI (rSlI xs lo hi) := by
  unfold cutV rSlI
  rw [List.length_map, ← List.map_drop, ← List.map_take]
theorem r_slL {a : Addr} {xs : List V} {lo hi : Option Int} (h : SqL K H a xs) (q : ∀ p H1, H p = none → Ex H H1 → H1 p = some (.lst (cutV xs lo hi)) → Q (.ref p) H1) : rSl K (.ref a) lo hi H Q :=
  .inl ⟨a, xs, rfl, h, fun p hp => q p _ hp (Ex.new hp) upd_same⟩
theorem cut_whole {xs : List V} {lo hi : Option Int} (h1 : HT.sIx xs.length 0 lo = 0) (h2 : HT.sIx xs.length xs.length hi = xs.length) : cutV xs lo hi = xs := by
  unfold cutV
  rw [h1, h2, List.drop_zero, Nat.sub_zero, List.take_length]
theorem r_slT {a : Addr} {xs : List V} {lo hi : Option Int} (h : SqT K H a xs) (q : ∀ p H1, Ex H H1 → SqT K H1 p (cutV xs lo hi) → Q (.ref p) H1) : rSl K (.ref a) lo hi H Q :=
  .inr (.inl ⟨a, xs, rfl, h, fun e => q a H (Ex.refl H) (by rw [cut_whole e.1 e.2]; exact h), fun _ p hp => q p _ (Ex.new hp) (st_of upd_same)⟩)
theorem cutV_to {α : Type} {xs : List α} {i : Int} (h : 0 ≤ i) (f : α → V) : cutV (xs.map f) none (some i) = (xs.take i.toNat).map f := by
  have e : cutV (xs.map f) none (some i) = ((xs.map f).drop 0).take (HT.sIx (xs.map f).length (xs.map f).length (some i) - 0) := rfl
  have e2 : HT.sIx (xs.map f).length (xs.map f).length (some i) = min i.toNat (xs.map f).length := if_neg (by omega)
  rw [e, e2, List.drop_zero, Nat.sub_zero, List.map_take]
  rcases Nat.le_total i.toNat (xs.map f).length with h1 | h1
  · rw [Nat.min_eq_left h1]
  · rw [Nat.min_eq_right h1, List.take_length, List.take_of_length_le h1]
theorem cutV_from {α : Type} {xs : List α} {i : Int} (h : 0 ≤ i) (f : α → V) : cutV (xs.map f) (some i) none = (xs.drop i.toNat).map f := by
  have e : cutV (xs.map f) (some i) none = ((xs.map f).drop (HT.sIx (xs.map f).length 0 (some i))).take ((xs.map f).length - HT.sIx (xs.map f).length 0 (some i)) := rfl
  have e2 : HT.sIx (xs.map f).length 0 (some i) = min i.toNat (xs.map f).length := if_neg (by omega)
  rw [e, e2, List.map_drop]
  rcases Nat.le_total i.toNat (xs.map f).length with h1 | h1
  · rw [Nat.min_eq_left h1, List.take_of_length_le (by rw [List.length_drop]; omega)]
  · rw [Nat.min_eq_right h1, List.drop_eq_nil_of_le h1, List.drop_eq_nil_of_le (Nat.le_refl _), List.take_nil]
theorem cutV_mid {α : Type} {xs : List α} {i j : Int} (h : 0 ≤ i) (hij : i ≤ j) (hj : j ≤ xs.length) (f : α → V) : cutV (xs.map f) (some i) (some j) = ((xs.drop i.toNat).take (j - i).toNat).map f := by
  have e : cutV (xs.map f) (some i) (some j) = ((xs.map f).drop (HT.sIx (xs.map f).length 0 (some i))).take (HT.sIx (xs.map f).length (xs.map f).length (some j) - HT.sIx (xs.map f).length 0 (some i)) := rfl
  have e2 : HT.sIx (xs.map f).length 0 (some i) = min i.toNat (xs.map f).length := if_neg (by omega)
  have e3 : HT.sIx (xs.map f).length (xs.map f).length (some j) = min j.toNat (xs.map f).length := if_neg (by omega)
  rw [e, e2, e3, List.length_map, Nat.min_eq_left (by omega), Nat.min_eq_left (by omega), List.map_take, List.map_drop, show (j - i).toNat = j.toNat - i.toNat by omega]

theorem r_slTto {a : Addr} {xs : List Int} {i : Int} (h : SqT K H a (vI xs)) (h0 : 0 ≤ i) (q : ∀ p H1, Ex H H1 → SqT K H1 p (vI (xs.take i.toNat)) → Q (.ref p) H1) : rSl K (.ref a) none (some i) H Q := r_slT h (by rw [cutV_to h0]; exact q)
theorem r_slTfrom {a : Addr} {xs : List Int} {i : Int} (h : SqT K H a (vI xs)) (h0 : 0 ≤ i) (q : ∀ p H1, Ex H H1 → SqT K H1 p (vI (xs.drop i.toNat)) → Q (.ref p) H1) : rSl K (.ref a) (some i) none H Q := r_slT h (by rw [cutV_from h0]; exact q)
theorem r_slLto {a : Addr} {xs : List Int} {i : Int} (h : SqL K H a (vI xs)) (h0 : 0 ≤ i) (q : ∀ p H1, H p = none → Ex H H1 → H1 p = some (.lst (vI (xs.take i.toNat))) → Q (.ref p) H1) : rSl K (.ref a) none (some i) H Q := r_slL h (by rw [cutV_to h0]; exact q)
theorem r_slLfrom {a : Addr} {xs : List Int} {i : Int} (h : SqL K H a (vI xs)) (h0 : 0 ≤ i) (q : ∀ p H1, H p = none → Ex H H1 → H1 p = some (.lst (vI (xs.drop i.toNat))) → Q (.ref p) H1) : rSl K (.ref a) (some i) none H Q := r_slL h (by rw [cutV_from h0]; exact q)
theorem r_slLmid {a : Addr} {xs : List Int} {i j : Int} (h : SqL K H a (vI xs)) (h0 : 0 ≤ i) (hij : i ≤ j) (hj : j ≤ xs.length) (q : ∀ p H1, H p = none → Ex H H1 → H1 p = some (.lst (vI ((xs.drop i.toNat).take (j - i).toNat))) → Q (.ref p) H1) : rSl K (.ref a) (some i) (some j) H Q := r_slL h (by rw [cutV_mid h0 hij hj]; exact q)
/-! comprehensions whose parts leave what stands -/
theorem w_lc {wi : TI} {g : TG} {tt : TT} {te : TE} {vs : List Nat} {σ : L2.St} (h : wi σ H fun J H1 => ∀ D, H1 D = none → ∃ W : Nat → Nat → Hp → Prop, (∃ m, W 0 m (upd H1 D (.lst []))) ∧ ∀ i m H, W i m H →
  (J.stop i H ∧ Q (.ref D) H) ∨ (J.go i H ∧ ∃ Nx : Hp → Prop, (∀ H', Nx H' → ∃ m', m' < m ∧ W (i + 1) m' H') ∧ ∀ x H', J.yld i H x H' → g x (wipe σ vs) H' fun σ2 H2 => wipe σ2 vs = wipe σ vs ∧ tt σ2 H2 fun b H3 =>
    if b = true then te σ2 H3 fun y H4 => ∃ acc, H4 D = some (.lst acc) ∧ acc.length < sizeLine ∧ Nx (upd H4 D (.lst (acc ++ [y]))) else Nx H3)) : tLc wi g tt te vs σ H Q := h
/-- what a comprehension over J asks, J named -/
def LcJ (J : It) (g : TG) (tt : TT) (te : TE) (vs : List Nat) (σ : L2.St) (H1 : Hp) (Q : VK) : Prop := ∀ D, H1 D = none → ∃ W : Nat → Nat → Hp → Prop, (∃ m, W 0 m (upd H1 D (.lst []))) ∧ ∀ i m H, W i m H →
  (J.stop i H ∧ Q (.ref D) H) ∨ (J.go i H ∧ ∃ Nx : Hp → Prop, (∀ H', Nx H' → ∃ m', m' < m ∧ W (i + 1) m' H') ∧ ∀ x H', J.yld i H x H' → g x (wipe σ vs) H' fun σ2 H2 => wipe σ2 vs = wipe σ vs ∧ tt σ2 H2 fun b H3 =>
    if b = true then te σ2 H3 fun y H4 => ∃ acc, H4 D = some (.lst acc) ∧ acc.length < sizeLine ∧ Nx (upd H4 D (.lst (acc ++ [y]))) else Nx H3)
theorem w_lcJ {wi : TI} {g : TG} {tt : TT} {te : TE} {vs : List Nat} {σ : L2.St} (h : wi σ H fun J H1 => LcJ J g tt te vs σ H1 Q) : tLc wi g tt te vs σ H Q := h
/-- over a range, every item kept, item i giving v i -/
theorem lcJ_range {lo : Int} {n j : Nat} {te : TE} {vs : List Nat} {σ : L2.St} (v : Nat → V) (hn : n ≤ 100000) (σ' : V → L2.St) (hσ : ∀ x, (wipe σ vs).set j (some x) = σ' x) (hw : ∀ x, wipe ((wipe σ vs).set j (some x)) vs = wipe σ vs)
    (he : ∀ (i : Nat) (H1 : Hp) (Q' : VK), Ex H H1 → i < n → (∀ H2, Ex H1 H2 → Q' (v i) H2) → te (σ' (.int (lo + (i : Int)))) H1 Q')
    (hq : ∀ p H2, H p = none → Ex H H2 → H2 p = some (.lst ((List.range n).map v)) → Q (.ref p) H2) : LcJ (Itr lo n) (gName j) tYes te vs σ H Q := fun D hD =>
  lc_range (Pv := fun i H' => Ex H H' ∧ H' D = some (.lst ((List.range i).map v))) ⟨Ex.new hD, upd_same⟩ (fun i H' hi p => ⟨hw _, by
    show te ((wipe σ vs).set j _) H' _
    rw [hσ]
    refine he i H' _ p.1 hi fun H2 e2 => ⟨(List.range i).map v, e2 D _ p.2, sz_lt (by simp only [List.length_map, List.length_range]; omega), Ex.mut (p.1.trans e2) hD, ?_⟩
    rw [List.range_succ, List.map_append]
    exact upd_same⟩) fun H' p => hq D H' hD p.1 p.2
theorem lcJ_r0 {n j : Nat} {te : TE} {vs : List Nat} {σ : L2.St} (v : Nat → V) (hn : n ≤ 100000) (σ' : V → L2.St) (hσ : ∀ x, (wipe σ vs).set j (some x) = σ' x) (hw : ∀ x, wipe ((wipe σ vs).set j (some x)) vs = wipe σ vs)
    (he : ∀ (i : Nat) (H1 : Hp) (Q' : VK), Ex H H1 → i < n → (∀ H2, Ex H1 H2 → Q' (v i) H2) → te (σ' (.int (i : Int))) H1 Q')
    (hq : ∀ p H2, H p = none → Ex H H2 → H2 p = some (.lst ((List.range n).map v)) → Q (.ref p) H2) : LcJ (Itr 0 n) (gName j) tYes te vs σ H Q :=
  lcJ_range v hn σ' hσ hw (fun i H1 Q' e hi k => by rw [Int.zero_add]; exact he i H1 Q' e hi k) hq
/-- over a list or a tuple -/
theorem lcJ_list {a : Addr} {xs : List V} {j : Nat} {te : TE} {vs : List Nat} {σ : L2.St} (v : V → V) (hx : SqL K H a xs) (hn : xs.length ≤ 100000) (σ' : V → L2.St) (hσ : ∀ x, (wipe σ vs).set j (some x) = σ' x) (hw : ∀ x, wipe ((wipe σ vs).set j (some x)) vs = wipe σ vs)
    (he : ∀ (x : V) (H1 : Hp) (Q' : VK), Ex H H1 → x ∈ xs → (∀ H2, Ex H1 H2 → Q' (v x) H2) → te (σ' x) H1 Q')
    (hq : ∀ p H2, H p = none → Ex H H2 → H2 p = some (.lst (xs.map v)) → Q (.ref p) H2) : LcJ (Itl K a) (gName j) tYes te vs σ H Q := fun D hD =>
  lc_list (xs := xs) (Pv := fun i H' => Ex H H' ∧ H' D = some (.lst ((xs.take i).map v))) ⟨Ex.new hD, upd_same⟩ (fun i H' _ p => ex_l p.1 hx) (fun i x H' hi p => ⟨hw _, by
    show te ((wipe σ vs).set j _) H' _
    rw [hσ]
    refine he x H' _ p.1 (List.mem_of_getElem? hi) fun H2 e2 => ⟨(xs.take i).map v, e2 D _ p.2, sz_lt (by rw [List.length_map, List.length_take]; have := (List.getElem?_eq_some_iff.mp hi).1; omega), Ex.mut (p.1.trans e2) hD, ?_⟩
    rw [List.take_add_one, hi, List.map_append]
    exact upd_same⟩) fun H' p => hq D H' hD p.1 (by rw [List.take_length] at p; exact p.2)
theorem lcJ_tup {a : Addr} {xs : List V} {j : Nat} {te : TE} {vs : List Nat} {σ : L2.St} (v : V → V) (hx : SqT K H a xs) (hn : xs.length ≤ 100000) (σ' : V → L2.St) (hσ : ∀ x, (wipe σ vs).set j (some x) = σ' x) (hw : ∀ x, wipe ((wipe σ vs).set j (some x)) vs = wipe σ vs)
    (he : ∀ (x : V) (H1 : Hp) (Q' : VK), Ex H H1 → x ∈ xs → (∀ H2, Ex H1 H2 → Q' (v x) H2) → te (σ' x) H1 Q')
    (hq : ∀ p H2, H p = none → Ex H H2 → H2 p = some (.lst (xs.map v)) → Q (.ref p) H2) : LcJ (Itt K a) (gName j) tYes te vs σ H Q := fun D hD =>
  lc_tup (xs := xs) (Pv := fun i H' => Ex H H' ∧ H' D = some (.lst ((xs.take i).map v))) ⟨Ex.new hD, upd_same⟩ (fun i H' _ p => ex_t p.1 hx) (fun i x H' hi p => ⟨hw _, by
    show te ((wipe σ vs).set j _) H' _
    rw [hσ]
    refine he x H' _ p.1 (List.mem_of_getElem? hi) fun H2 e2 => ⟨(xs.take i).map v, e2 D _ p.2, sz_lt (by rw [List.length_map, List.length_take]; have := (List.getElem?_eq_some_iff.mp hi).1; omega), Ex.mut (p.1.trans e2) hD, ?_⟩
    rw [List.take_add_one, hi, List.map_append]
    exact upd_same⟩) fun H' p => hq D H' hD p.1 (by rw [List.take_length] at p; exact p.2)
/-! what is walked -/
def SeqLi (K : PySem.W.Frag) (R : It → Hp → Prop) (x : V) (H1 : Hp) : Prop := ∃ a, x = .ref a ∧ (∃ xs, SqL K H1 a xs) ∧ R (Itl K a) H1
def SeqTi (K : PySem.W.Frag) (R : It → Hp → Prop) (x : V) (H1 : Hp) : Prop := ∃ a, x = .ref a ∧ (∃ xs, SqT K H1 a xs) ∧ R (Itt K a) H1
theorem i_seqL {tl : TE} {σ : L2.St} {R : It → Hp → Prop} (h : tl σ H fun x H1 => SeqLi K R x H1) : iSeq K tl σ H R := .inl h
theorem i_seqT {tl : TE} {σ : L2.St} {R : It → Hp → Prop} (h : tl σ H fun x H1 => SeqTi K R x H1) : iSeq K tl σ H R := .inr h
theorem i_xL {a : Addr} {xs : List V} {R : It → Hp → Prop} (hx : SqL K H a xs) (h : R (Itl K a) H) : SeqLi K R (.ref a) H := ⟨a, rfl, ⟨xs, hx⟩, h⟩
theorem i_xT {a : Addr} {xs : List V} {R : It → Hp → Prop} (hx : SqT K H a xs) (h : R (Itt K a) H) : SeqTi K R (.ref a) H := ⟨a, rfl, ⟨xs, hx⟩, h⟩
def Rng1 (R : It → Hp → Prop) (vs : List V) (H1 : Hp) : Prop := ∃ j : Int, vs = [.int j] ∧ -(2 ^ 62) ≤ j ∧ j < 2 ^ 62 ∧ R (Itr 0 j.toNat) H1
def Rng2 (R : It → Hp → Prop) (vs : List V) (H1 : Hp) : Prop := ∃ i j : Int, vs = [.int i, .int j] ∧ (-(2 ^ 62) ≤ i ∧ i < 2 ^ 62 ∧ -(2 ^ 62) ≤ j ∧ j < 2 ^ 62) ∧ R (Itr i (j - i).toNat) H1
theorem i_r1 {ta : TA} {σ : L2.St} {R : It → Hp → Prop} (h : ta σ H fun vs H1 => Rng1 R vs H1) : iRng1 ta σ H R := h
theorem i_r2 {ta : TA} {σ : L2.St} {R : It → Hp → Prop} (h : ta σ H fun vs H1 => Rng2 R vs H1) : iRng2 ta σ H R := h
theorem i_x1 {j : Int} {R : It → Hp → Prop} (hj : -1000000000 ≤ j ∧ j ≤ 1000000000) (h : R (Itr 0 j.toNat) H) : Rng1 R [V.int j] H := ⟨j, rfl, by omega, by omega, h⟩
theorem i_x2 {i j : Int} {R : It → Hp → Prop} (hij : -1000000000 ≤ i ∧ i ≤ 1000000000 ∧ -1000000000 ≤ j ∧ j ≤ 1000000000) (h : R (Itr i (j - i).toNat) H) : Rng2 R [V.int i, V.int j] H := ⟨i, j, rfl, by omega, h⟩
/-! loops, J named -/
def ForJ (J : It) (g : TG) (tb : TS) (D : Ends) (σ : L2.St) (H1 : Hp) : Prop := ∃ W : Nat → Nat → L2.St → Hp → Prop, (∃ m, W 0 m σ H1) ∧ ∀ i m σ H, W i m σ H →
  (J.stop i H ∧ D.nx σ H) ∨ (J.go i H ∧ ∃ N : L2.St → Hp → Prop, (∀ σ' H', N σ' H' → ∃ m', m' < m ∧ W (i + 1) m' σ' H') ∧ ∀ x H', J.yld i H x H' → g x σ H' fun σ2 H2 => tb { D with nx := N, ct := N, bk := D.nx } σ2 H2)
theorem w_forJ {wi : TI} {g : TG} {tb : TS} {D : Ends} {σ : L2.St} (h : wi σ H fun J H1 => ForJ J g tb D σ H1) : tFor wi g tb D σ H := h
end
end M

/-! ### part D: the rules with the written part said -/
namespace M
open PySem PySem.Spec PyProof.Rows L2 Evl
section
variable {X : Cx} (K : PySem.W.Frag)
theorem kIx (h : X.K = K := by rfl) : IxR X (rIx K) := by subst h; exact ix_seq
theorem kAdd (h : X.K = K := by rfl) : OpR X (binaryOp .Add) (rAdd K) := by subst h; exact xAdd
theorem kMul (h : X.K = K := by rfl) : OpR X (binaryOp .Mult) (rMul K) := by subst h; exact xMul
theorem kEq {j : Nat} (hr : Room j X.A) (h : X.K = K := by rfl) : OpR X (compareOp .Eq) (rEqU K) := by subst h; exact xEq hr
theorem kNe {j : Nat} (hr : Room j X.A) (h : X.K = K := by rfl) : OpR X (compareOp .NotEq) (rNeU K) := by subst h; exact xNe hr
theorem kSl (h : X.K = K := by rfl) : SlR X (rSl K) := by subst h; exact xSl
theorem kLen (h : X.K = K := by rfl) : CallR X (.builtin "len") (rLenU K) := by subst h; exact xLen
theorem kLst (h : X.K = K := by rfl) : CallR X (.type "list") (rLstU K) := by subst h; exact xLst
theorem kTup (h : X.K = K := by rfl) : CallR X (.type "tuple") (rTupU K) := by subst h; exact xTup
theorem kAll (hc : X.calm = true) (h : X.K = K := by rfl) : CallR X (.builtin "all") (rAll K) := by subst h; exact cr_all hc
theorem kAny (hc : X.calm = true) (h : X.K = K := by rfl) : CallR X (.builtin "any") (rAny K) := by subst h; exact cr_any hc
theorem kSum (hc : X.calm = true) (h : X.K = K := by rfl) : CallR X (.builtin "sum") (rSum K) := by subst h; exact cr_sum hc
theorem kIsi (h : X.K = K := by rfl) : CallR X (.builtin "isinstance") (rIsi K) := by subst h; exact call_isi
theorem kIsiT (h : X.K = K := by rfl) : CallR X (.builtin "isinstance") (rIsiT K) := by subst h; exact call_isiT
theorem kSeq {tg l : Expr} {tl : TE} (hl : PE X l tl) (h : X.K = K := by rfl) : PI X tg l (iSeq K tl) := by subst h; exact pi_seq hl
theorem kFld {o : Expr} {f : Str} {pos : Pos} {ta : TE} (ha : PE X o ta) (hb : attributeBase o f X.env (eval o X.env) = eval o X.env) (h : X.K = K := by rfl) : PE X (.Attribute o f pos) (tFld K ta f) := by subst h; exact pe_fld ha hb
theorem kGtup {es : List Expr} {k : Nat} {t : TGs} {n : Nat} {pos : Pos} (hc : X.calm = true) (h : PGs X es t)
    (hn : (assignEach es X.env).length = n := by rfl) (hst : (assignEach es X.env).findIdx? (·.1) = none := by rfl) (hK : X.K = K := by rfl) : PG X (.Tuple es k pos) (gTup K n t) := by subst hK; exact pg_tup hc h hn hst
theorem kBM {e0 : Expr} {to : TE} {t : TA} {T : String} {r : V → List V → Hp → VK → Prop} (h0 : PE X e0 (tBM X.K T r to t)) (h : X.K = K := by rfl) : PE X e0 (tBM K T r to t) := by subst h; exact h0
theorem kFldS {st : Stmt} {ta tv : TE} {f : Str} (h0 : PS X st (sFld X.K ta tv f)) (h : X.K = K := by rfl) : PS X st (sFld K ta tv f) := by subst h; exact h0
/-! truth of any value, named -/
end
def TruX (K : PySem.W.Frag) (x : V) (H : Hp) (Q : Bool → Hp → Prop) : Prop := ∃ k, TruV K x H k ∧ Q k H
def tTru (K : PySem.W.Frag) (te : TE) : TT := fun σ H Q => te σ H fun x H' => TruX K x H' Q
section
variable {X : Cx} (K : PySem.W.Frag)
theorem kTru {a : Expr} {ta : TE} (ha : PE X a ta) (he : ∀ whole, isTrue a X.env whole = (do let v ← whole; standAt a.pos; holding [v] (truthy v))) (h : X.K = K := by rfl) : PT X a (tTru K ta) := by subst h; exact pt_truth ha he
end
section
variable {K : PySem.W.Frag} {σ : L2.St} {H : Hp} {te : TE} {Q : Bool → Hp → Prop}
theorem w_tru (h : te σ H fun x H' => TruX K x H' Q) : tTru K te σ H Q := h
theorem r_truB {b : Bool} (h : Q b H) : TruX K (.bl b) H Q := ⟨b, rfl, h⟩
theorem r_truI {i : Int} (h : Q (!decide (i = 0)) H) : TruX K (.int i) H Q := ⟨(i != 0), rfl, by
  have e : (i != 0) = (!decide (i = 0)) := by
    by_cases c : i = 0
    · subst c; rfl
    · simp [c]
  rw [e]; exact h⟩
theorem r_truN (h : Q false H) : TruX K .non H Q := ⟨false, rfl, h⟩
/-- all of a list of truths -/
theorem all_range {n : Nat} {p : Nat → Prop} [DecidablePred p] : ((List.range n).map fun i => decide (p i)).all id = decide (∀ i, i < n → p i) := by
  rw [Bool.eq_iff_iff]
  simp
theorem map_bl_range {n : Nat} {p : Nat → Prop} [DecidablePred p] : (List.range n).map (fun i => V.bl (decide (p i))) = ((List.range n).map fun i => decide (p i)).map V.bl := by
  rw [List.map_map]; rfl
end
end M

/-! ### part E: data without lists; comprehensions that make data -/
namespace M
open PySem PySem.Spec PyProof.Rows L2 Evl
mutual
def imm : PyData → Bool
  | .list _ => false
  | .dict _ => false
  | .tuple xs => immAll xs
  | _ => true
def immAll : List PyData → Bool
  | [] => true
  | x :: xs => imm x && immAll xs
end
/-- tuples stand -/
def TEx (H H' : Hp) : Prop := ∀ a xs, Rd H a (.tup xs) → Rd H' a (.tup xs)
theorem TEx.of {H H' : Hp} (e : Ex H H') : TEx H H' := fun _ _ h => ex_rd e h
theorem TEx.trans {H H1 H2 : Hp} (a : TEx H H1) (b : TEx H1 H2) : TEx H H2 := fun x o h => b x o (a x o h)
theorem TEx.refl (H : Hp) : TEx H H := fun _ _ h => h
theorem TEx.upd {H : Hp} {p : Addr} {xs : List V} {o : HO} (h : H p = some (.lst xs)) : TEx H (upd H p o) := fun a ys q => by
  have hne : a ≠ p := by
    rintro rfl
    rcases q with q | ⟨o', q⟩ <;> rw [h] at q <;> cases q
  rcases q with q | ⟨o', q⟩
  · exact .inl (by rw [upd_ne hne]; exact q)
  · exact .inr ⟨o', by rw [upd_ne hne]; exact q⟩
section
variable {K : PySem.W.Frag} {H H' : Hp}
theorem tex_t (e : TEx H H') {a : Addr} {xs : List V} (h : SqT K H a xs) : SqT K H' a xs := by
  rcases h with h | h
  · exact .inl (e a xs h)
  · exact .inr h
mutual
theorem dp_tex (e : TEx H H') : ∀ {d : PyData} {v : V}, imm d = true → Dp K H v d → Dp K H' v d
  | _, _, _, .non => .non
  | _, _, _, .bl b => .bl b
  | _, _, _, .int i => .int i
  | _, _, _, .str x => .str x
  | _, _, h, .lst _ _ => nomatch h
  | _, _, h, .tup s a => .tup (tex_t e s) (dpAll_tex e h a)
theorem dpAll_tex (e : TEx H H') : ∀ {ds : List PyData} {vs : List V}, immAll ds = true → DpAll K H vs ds → DpAll K H' vs ds
  | _, _, _, .nil => .nil
  | _, _, h, .cons a r => .cons (dp_tex e (Bool.and_eq_true_iff.mp h).1 a) (dpAll_tex e (Bool.and_eq_true_iff.mp h).2 r)
end
theorem dpAll_len : ∀ {vs : List V} {ds : List PyData}, DpAll K H vs ds → vs.length = ds.length
  | _, _, .nil => rfl
  | _, _, .cons _ r => congrArg Nat.succ (dpAll_len r)
theorem dpAll_app : ∀ {vs ws : List V} {ds es : List PyData}, DpAll K H vs ds → DpAll K H ws es → DpAll K H (vs ++ ws) (ds ++ es)
  | _, _, _, _, .nil, h => h
  | _, _, _, _, .cons a r, h => .cons a (dpAll_app r h)
theorem dpAll_get : ∀ {vs : List V} {ds : List PyData} {i : Nat} {x : V}, DpAll K H vs ds → vs[i]? = some x → ∃ d, ds[i]? = some d ∧ Dp K H x d
  | _, _, 0, _, .cons a _, e => by simp at e; subst e; exact ⟨_, rfl, a⟩
  | _, _, i + 1, x, .cons _ r, e => by
    obtain ⟨d, h1, h2⟩ := dpAll_get (i := i) (x := x) r (by simpa using e)
    exact ⟨d, by simpa using h1, h2⟩
theorem immAll_app : ∀ {ds es : List PyData}, immAll ds = true → immAll es = true → immAll (ds ++ es) = true
  | [], _, _, h => h
  | _ :: _, _, h, h' => Bool.and_eq_true_iff.mpr ⟨(Bool.and_eq_true_iff.mp h).1, immAll_app (Bool.and_eq_true_iff.mp h).2 h'⟩
theorem immAll_map {f : Nat → PyData} (h : ∀ i, imm (f i) = true) : ∀ l : List Nat, immAll (l.map f) = true
  | [] => rfl
  | i :: l => Bool.and_eq_true_iff.mpr ⟨h i, immAll_map h l⟩
variable {Q : VK}
/-- over a list: item i gives data f i (without lists) -/
theorem lcD_list {a : Addr} {xs : List V} {j : Nat} {te : TE} {vs : List Nat} {σ : L2.St} (f : Nat → PyData) (hf : ∀ i, imm (f i) = true) (hx : SqL K H a xs) (hn : xs.length ≤ 100000) (σ' : V → L2.St) (hσ : ∀ x, (wipe σ vs).set j (some x) = σ' x) (hw : ∀ x, wipe ((wipe σ vs).set j (some x)) vs = wipe σ vs)
    (he : ∀ (i : Nat) (x : V) (H1 : Hp) (Q' : VK), Ex H H1 → xs[i]? = some x → (∀ y H2, Ex H1 H2 → Dp K H2 y (f i) → Q' y H2) → te (σ' x) H1 Q')
    (hq : ∀ p H2 ys, H p = none → Ex H H2 → H2 p = some (.lst ys) → DpAll K H2 ys ((List.range xs.length).map f) → Q (.ref p) H2) : LcJ (Itl K a) (gName j) tYes te vs σ H Q := fun D hD =>
  lc_list (xs := xs) (Pv := fun i H' => Ex H H' ∧ ∃ ys, H' D = some (.lst ys) ∧ DpAll K H' ys ((List.range i).map f)) ⟨Ex.new hD, [], upd_same, .nil⟩ (fun i H' _ p => ex_l p.1 hx) (fun i x H' hi ⟨p1, ys, p2, p3⟩ => ⟨hw x, by
    show te ((wipe σ vs).set j _) H' _
    rw [hσ]
    have hi' := (List.getElem?_eq_some_iff.mp hi).1
    refine he i x H' _ p1 hi fun y H2 e2 d2 => ⟨ys, e2 D _ p2, sz_lt (by rw [dpAll_len p3, List.length_map, List.length_range]; omega), Ex.mut (p1.trans e2) hD, ys ++ [y], upd_same, ?_⟩
    have t := TEx.upd (o := .lst (ys ++ [y])) (e2 D _ p2)
    rw [List.range_succ, List.map_append]
    exact dpAll_app (dpAll_tex t (immAll_map hf _) (dpAll_ex e2 p3)) (.cons (dp_tex t (hf i) d2) .nil)⟩) fun H' ⟨p1, ys, p2, p3⟩ => hq D H' ys hD p1 p2 p3
theorem lcD_tup {a : Addr} {xs : List V} {j : Nat} {te : TE} {vs : List Nat} {σ : L2.St} (f : Nat → PyData) (hf : ∀ i, imm (f i) = true) (hx : SqT K H a xs) (hn : xs.length ≤ 100000) (σ' : V → L2.St) (hσ : ∀ x, (wipe σ vs).set j (some x) = σ' x) (hw : ∀ x, wipe ((wipe σ vs).set j (some x)) vs = wipe σ vs)
    (he : ∀ (i : Nat) (x : V) (H1 : Hp) (Q' : VK), Ex H H1 → xs[i]? = some x → (∀ y H2, Ex H1 H2 → Dp K H2 y (f i) → Q' y H2) → te (σ' x) H1 Q')
    (hq : ∀ p H2 ys, H p = none → Ex H H2 → H2 p = some (.lst ys) → DpAll K H2 ys ((List.range xs.length).map f) → Q (.ref p) H2) : LcJ (Itt K a) (gName j) tYes te vs σ H Q := fun D hD =>
  lc_tup (xs := xs) (Pv := fun i H' => Ex H H' ∧ ∃ ys, H' D = some (.lst ys) ∧ DpAll K H' ys ((List.range i).map f)) ⟨Ex.new hD, [], upd_same, .nil⟩ (fun i H' _ p => ex_t p.1 hx) (fun i x H' hi ⟨p1, ys, p2, p3⟩ => ⟨hw x, by
    show te ((wipe σ vs).set j _) H' _
    rw [hσ]
    have hi' := (List.getElem?_eq_some_iff.mp hi).1
    refine he i x H' _ p1 hi fun y H2 e2 d2 => ⟨ys, e2 D _ p2, sz_lt (by rw [dpAll_len p3, List.length_map, List.length_range]; omega), Ex.mut (p1.trans e2) hD, ys ++ [y], upd_same, ?_⟩
    have t := TEx.upd (o := .lst (ys ++ [y])) (e2 D _ p2)
    rw [List.range_succ, List.map_append]
    exact dpAll_app (dpAll_tex t (immAll_map hf _) (dpAll_ex e2 p3)) (.cons (dp_tex t (hf i) d2) .nil)⟩) fun H' ⟨p1, ys, p2, p3⟩ => hq D H' ys hD p1 p2 p3
/-! deep: tuples in the place of lists -/
end
mutual
def dDeep : PyData → PyData
  | .list xs => .tuple (dDeepAll xs)
  | .tuple xs => .tuple (dDeepAll xs)
  | .none => .none
  | .bool b => .bool b
  | .int i => .int i
  | .str s => .str s
  | .dict _ => .none
def dDeepAll : List PyData → List PyData
  | [] => []
  | x :: xs => dDeep x :: dDeepAll xs
end
mutual
theorem imm_deep : ∀ d, imm (dDeep d) = true
  | .list xs => immAll_deep xs
  | .tuple xs => immAll_deep xs
  | .none => rfl
  | .bool _ => rfl
  | .int _ => rfl
  | .str _ => rfl
  | .dict _ => rfl
theorem immAll_deep : ∀ ds, immAll (dDeepAll ds) = true
  | [] => rfl
  | x :: xs => Bool.and_eq_true_iff.mpr ⟨imm_deep x, immAll_deep xs⟩
end
theorem dDeepAll_eq : ∀ ds, dDeepAll ds = ds.map dDeep
  | [] => rfl
  | x :: xs => by show dDeep x :: dDeepAll xs = _; rw [dDeepAll_eq xs]; rfl
theorem dDeep_ints (ns : List Int) : dDeepAll (ns.map .int) = ns.map .int := by
  rw [dDeepAll_eq, List.map_map]; rfl
mutual
/-- depth at most n, each row at most so long -/
def shp : Nat → PyData → Bool
  | 0, .list _ => false
  | 0, .tuple _ => false
  | n + 1, .list xs => decide (xs.length ≤ 50000) && shpAll n xs
  | n + 1, .tuple xs => decide (xs.length ≤ 50000) && shpAll n xs
  | _, .dict _ => false
  | _, _ => true
def shpAll : Nat → List PyData → Bool
  | _, [] => true
  | n, x :: xs => shp n x && shpAll n xs
end
theorem shpAll_get {n : Nat} : ∀ {ds : List PyData} {i : Nat} {d : PyData}, shpAll n ds = true → ds[i]? = some d → shp n d = true
  | _ :: _, 0, _, h, e => by
    simp at e; subst e
    unfold shpAll at h
    exact (Bool.and_eq_true_iff.mp h).1
  | _ :: _, i + 1, d, h, e => by
    unfold shpAll at h
    exact shpAll_get (i := i) (d := d) (Bool.and_eq_true_iff.mp h).2 (by simpa using e)
theorem shpAll_ints : ∀ ns : List Int, shpAll 0 (ns.map .int) = true
  | [] => rfl
  | n :: ns => by show (shp 0 (.int n) && shpAll 0 (ns.map .int)) = true; rw [shpAll_ints ns]; rfl
end M

/-! ### part F: a list or a tuple -/
namespace M
open PySem PySem.Spec PyProof.Rows L2 Evl
def SqE (K : PySem.W.Frag) (H : Hp) (a : Addr) (xs : List V) : Prop := SqL K H a xs ∨ SqT K H a xs
section
variable {K : PySem.W.Frag} {H H' : Hp} {Q : VK}
theorem ex_e {a : Addr} {xs : List V} (e : Ex H H') (h : SqE K H a xs) : SqE K H' a xs := h.elim (fun h => .inl (ex_l e h)) (fun h => .inr (ex_t e h))
theorem r_lenEI {a : Addr} {xs : List Int} (h : SqE K H a (vI xs)) (q : Q (.int (xs.length : Int)) H) : rLenU K [.ref a] H Q := h.elim (fun h => r_lenLI h q) (fun h => r_lenTI h q)
theorem r_ixEI {a : Addr} {xs : List Int} {i : Int} (h : SqE K H a (vI xs)) (h0 : 0 ≤ i) (h1 : i < xs.length) (q : Q (.int (gI xs i)) H) : rIx K (.ref a) (.int i) H Q := h.elim (fun h => r_ixLI h h0 h1 q) (fun h => r_ixTI h h0 h1 q)
theorem r_ixEN {a : Addr} {xs : List Int} {i : Int} (h : SqE K H a (vI xs)) (h0 : i < 0) (h1 : -(xs.length : Int) ≤ i) (q : Q (.int (gI xs (i + xs.length))) H) : rIx K (.ref a) (.int i) H Q := h.elim (fun h => r_ixLN h h0 h1 q) (fun h => r_ixTN h h0 h1 q)
end
end M

/-! ### part G: fields, instances made, methods, properties, instances called, own == -/
namespace M
open PySem PySem.Spec PyProof.Rows L2 Evl
def GetF (K : PySem.W.Frag) (f : Str) (x : V) (H : Hp) (Q : VK) : Prop := ∃ a C dx fs v, x = .ref a ∧ H a = some (.ins C dx fs) ∧ Cls K C ∧ NoAttr K C f ∧ fs.lookup f = some v ∧ Q v H
def PutF (K : PySem.W.Frag) (f : Str) (y x : V) (H : Hp) (R : Hp → Prop) : Prop := ∃ a C dx fs, x = .ref a ∧ H a = some (.ins C dx fs) ∧ Cls K C ∧ NoAttr K C f ∧ fs.length < 1000 ∧ R (upd H a (.ins C dx (putF f y fs)))
section
variable {K : PySem.W.Frag} {σ : L2.St} {H : Hp} {Q : VK} {D : Ends} {ta tv : TE} {f : Str}
theorem w_fld (h : ta σ H fun x H1 => GetF K f x H1 Q) : tFld K ta f σ H Q := h
theorem w_fldS (h : tv σ H fun y H1 => ta σ H1 fun x H2 => PutF K f y x H2 fun H3 => D.nx σ H3) : sFld K ta tv f D σ H := h
theorem r_getF {a C dx : Addr} {fs : List (Str × V)} {v : V} (h : H a = some (.ins C dx fs)) (c : Cls K C) (n : NoAttr K C f) (e : fs.lookup f = some v) (q : Q v H) : GetF K f (.ref a) H Q := ⟨a, C, dx, fs, v, rfl, h, c, n, e, q⟩
theorem r_putF {a C dx : Addr} {fs : List (Str × V)} {y : V} {R : Hp → Prop} (h : H a = some (.ins C dx fs)) (c : Cls K C) (n : NoAttr K C f) (hl : fs.length < 1000) (q : R (upd H a (.ins C dx (putF f y fs)))) : PutF K f y (.ref a) H R := ⟨a, C, dx, fs, rfl, h, c, n, hl, q⟩
end
/-- a class made by its name: dvs the defaults that fill up -/
structure Mkc (P : Program) (w : World) (K : PySem.W.Frag) (mg : Str → Option Value) (base : Heap) (CX : CXT) (k : Nat) (x : Str) (C : Addr) (sp : Sp) (dvs : List V) : Prop where
  ex : ∃ (f : Addr) (fd : FuncData) (ps : List Str) (ds : List Value), Mk K C f ∧ FnOk P w K mg base CX k f fd ps sp ∧ mg x = some (.ref C) ∧ Binds K fd ps ds ∧ Vals dvs ds
section
variable {X : Cx} {CX : CXT} {k j : Nat} {C : Addr} {x m : Str} {sp : Sp} {dvs : List V} {E : XK} {p pos apos : Pos} {e o : Expr} {es : List Expr} {ta : TE} {t : TA}
theorem pmk (c : Mkc X.prog X.w X.K X.mg X.base CX k x C sp dvs) (hr : Room j X.A) (hk : k + 1 ≤ j) (hx : Passes CX X E) (hg : Gl X x) (ha : PA X (e :: es) t)
    (hdb : (x == ("__debug__" : Str)) = false := by decide) (he : starEach (e :: es) X.env = (false, eval e X.env) :: starEach es X.env := by rfl) (hpl : (backTo pos (starEach es X.env)).any (·.1) = false := by rfl) :
    PE X (.Call (.Name x p) (e :: es) [] pos) (tMake C sp dvs E t) := by
  obtain ⟨f, fd, ps, ds, M, F, hm, hb, hd⟩ := c.ex
  exact pe_make M F (hr.mono hk) hg hm hb hd hx ha hdb he hpl
theorem pmt {pl : Sem Bool} (c : Mt X.prog X.w X.K X.mg X.base CX k C m sp) (hr : Room j X.A) (hk : k ≤ j) (hx : Passes CX X E) (ho : PE X o ta) (ha : PA X (e :: es) t)
    (he : starEach (e :: es) X.env = (false, eval e X.env) :: starEach es X.env := by rfl) (hpl : (backTo pos (starEach es X.env)).any (·.1) = false := by rfl)
    (ht : eval (.Call (.Attribute o m apos) (e :: es) [] pos) X.env = (do let ov ← eval o X.env; standAt apos.atName; let (f, first) ← holding [ov] (getMethod ov m pl); callWith pos f first (backTo pos (starEach (e :: es) X.env)) (backToKw pos (keywordEach [] X.env))) := by rfl) :
    PE X (.Call (.Attribute o m apos) (e :: es) [] pos) (tMeth C m sp [] E ta t) := by
  obtain ⟨f, fd, ps, cl, hm, F, hb⟩ := c.ex
  exact pe_meth ho cl hm F (hr.mono hk) hb .nil hx ha he hpl ht
theorem pmt0 {pl : Sem Bool} (c : Mt X.prog X.w X.K X.mg X.base CX k C m sp) (hr : Room j X.A) (hk : k ≤ j) (hx : Passes CX X E) (ho : PE X o ta)
    (ht : eval (.Call (.Attribute o m apos) [] [] pos) X.env = (do let ov ← eval o X.env; standAt apos.atName; let (f, first) ← holding [ov] (getMethod ov m pl); callWith pos f first (backTo pos (starEach [] X.env)) (backToKw pos (keywordEach [] X.env))) := by rfl) :
    PE X (.Call (.Attribute o m apos) [] [] pos) (tMeth C m sp [] E ta tNil) := by
  obtain ⟨f, fd, ps, cl, hm, F, hb⟩ := c.ex
  exact pe_meth0 ho cl hm F (hr.mono hk) hb .nil hx ht
end
/-- a property of the class at C -/
structure Prp (P : Program) (w : World) (K : PySem.W.Frag) (mg : Str → Option Value) (base : Heap) (k : Nat) (C : Addr) (m : Str) (sp : Sp) : Prop where
  ex : ∃ (p g : Addr) (fd : FuncData) (ps : List Str), Cls K C ∧ PropOf K C m p g ∧ FnOk P w K mg base CX0 k g fd ps sp ∧ Binds K fd ps []
def PropI (C : Addr) (sp : Sp) (x : V) (H1 : Hp) (Q : VK) (E : XK) : Prop := ∃ a dx fs, x = .ref a ∧ H1 a = some (.ins C dx fs) ∧ sp (.ref a :: []) H1 Q E
section
variable {X : Cx} {k j : Nat} {C : Addr} {m : Str} {sp : Sp} {E : XK} {pos : Pos} {e : Expr} {ta : TE} {σ : L2.St} {H : Hp} {Q : VK}
theorem ppr (c : Prp X.prog X.w X.K X.mg X.base k C m sp) (hr : Room j X.A) (hk : k + 1 ≤ j) (he : PE X e ta) (hab : attributeBase e m X.env (eval e X.env) = eval e X.env) : PE X (.Attribute e m pos) (tProp C sp [] E0 ta) := by
  obtain ⟨p, g, fd, ps, cl, hp, F, hb⟩ := c.ex
  exact pe_prop he cl hp F (hr.mono hk) hb .nil pass0 hab
theorem w_prop (h : ta σ H fun x H1 => PropI C sp x H1 Q E) : tProp C sp [] E ta σ H Q := h
theorem r_prop {F} {a dx : Addr} {fs : List (Str × V)} (h : H a = some (.ins C dx fs)) (q : F (.ref a) H Q E) : PropI C (sp1 F) (.ref a) H Q E := ⟨a, dx, fs, rfl, h, _, rfl, q⟩
def MethI (C : Addr) (m : Str) (sp : Sp) (E : XK) (t : TA) (σ : L2.St) (x : V) (H1 : Hp) (Q : VK) : Prop := ∃ a dx fs, x = .ref a ∧ H1 a = some (.ins C dx fs) ∧ fs.lookup m = none ∧ t σ H1 fun vs H2 => sp (x :: (vs ++ [])) H2 Q E
theorem w_meth {t : TA} (h : ta σ H fun x H1 => MethI C m sp E t σ x H1 Q) : tMeth C m sp [] E ta t σ H Q := h
theorem r_meth {t : TA} {a dx : Addr} {fs : List (Str × V)} (h : H a = some (.ins C dx fs)) (n : fs.lookup m = none) (q : t σ H fun vs H2 => sp (.ref a :: (vs ++ [])) H2 Q E) : MethI C m sp E t σ (.ref a) H Q := ⟨a, dx, fs, rfl, h, n, q⟩
def MakeI (C : Addr) (sp : Sp) (dvs : List V) (E : XK) (vs : List V) (H1 : Hp) (Q : VK) : Prop := ∀ (x dx : Addr), H1 x = none → H1 dx = none → dx ≠ x → sp (.ref x :: (vs ++ dvs)) (upd (upd H1 dx (.own x)) x (.ins C dx [])) (fun v H2 => v = .non ∧ Q (.ref x) H2) E
theorem w_make {t : TA} {dvs : List V} (h : t σ H fun vs H1 => MakeI C sp dvs E vs H1 Q) : tMake C sp dvs E t σ H Q := h
/-- an instance called -/
structure Cli (P : Program) (w : World) (K : PySem.W.Frag) (mg : Str → Option Value) (base : Heap) (k : Nat) (C : Addr) (sp : Sp) : Prop where
  ex : ∃ (g : Addr) (fd : FuncData) (ps : List Str), StX.CallO K C g ∧ FnOk P w K mg base CX0 k g fd ps sp ∧ Binds K fd ps []
def CallI (C : Addr) (sp : Sp) (E : XK) (t : TA) (σ : L2.St) (y : V) (H1 : Hp) (Q : VK) : Prop := ∃ a, y = V.ref a ∧ t σ H1 fun vs H2 => (∃ dx fs, H2 a = some (.ins C dx fs)) ∧ sp (V.ref a :: vs) H2 Q E
def tCallI (C : Addr) (sp : Sp) (E : XK) (tf : TE) (t : TA) : TE := fun σ H Q => tf σ H fun y H1 => CallI C sp E t σ y H1 Q
end
section
variable {X : Cx} {k j : Nat} {C : Addr} {sp : Sp} {pos : Pos} {fe e : Expr} {es : List Expr} {tf : TE} {t : TA}
theorem pcl (c : Cli X.prog X.w X.K X.mg X.base k C sp) (hr : Room j X.A) (hk : k ≤ j) (hf : PE X fe tf) (ha : PA X (e :: es) t)
    (ht : eval (.Call fe (e :: es) [] pos) X.env = (do callWith pos (← eval fe X.env) [] (backTo pos (starEach (e :: es) X.env)) (backToKw pos (keywordEach [] X.env))) := by rfl)
    (he : starEach (e :: es) X.env = (false, eval e X.env) :: starEach es X.env := by rfl) (hpl : (backTo pos (starEach es X.env)).any (·.1) = false := by rfl) : PE X (.Call fe (e :: es) [] pos) (StX.tCallO X C sp E0 tf t) := by
  obtain ⟨g, fd, ps, co, F, hb⟩ := c.ex
  exact StX.pe_callO hf co ((F.raw hb .nil).imp fun vs H Q E h => by rw [List.append_nil]; exact h) (hr.mono hk) pass0 ha ht he hpl
def CallOI (X : Cx) (C : Addr) (sp : Sp) (t : TA) (σ : L2.St) (y : V) (H1 : Hp) (Q : VK) : Prop := ∃ a, y = V.ref a ∧ t σ H1 fun vs H2 => StX.InsC X H2 a C ∧ sp (V.ref a :: vs) H2 Q E0
variable {σ : L2.St} {H : Hp} {Q : VK}
theorem w_callO (h : tf σ H fun y H1 => CallOI X C sp t σ y H1 Q) : StX.tCallO X C sp E0 tf t σ H Q := h
def CallOJ (X : Cx) (C a : Addr) (sp : Sp) (vs : List V) (H2 : Hp) (Q : VK) : Prop := StX.InsC X H2 a C ∧ sp (V.ref a :: vs) H2 Q E0
theorem w_callOI {a : Addr} (h : t σ H fun vs H2 => CallOJ X C a sp vs H2 Q) : CallOI X C sp t σ (.ref a) H Q := ⟨a, rfl, h⟩
theorem r_callO1 {F} {a dx : Addr} {fs : List (Str × V)} {x : V} (hi : H a = some (.ins C dx fs)) (h : F (.ref a) x H Q E0) : CallOJ X C a (sp2 F) [x] H Q := ⟨.inr ⟨dx, fs, hi⟩, _, _, rfl, h⟩
end
/-! own == : x an instance of the class at C, y any value whose type is known -/
section
variable {X : Cx} {n : Nat} {C : Addr} {sp : Sp}
def rOwnEq (K : PySem.W.Frag) (C : Addr) (sp : Sp) : R2 := fun x y H Q => ∃ a dx fs t, x = .ref a ∧ H a = some (.ins C dx fs) ∧ TyX K H y t ∧ PySem.W.notFirst K C t = true ∧ sp [x, y] H (fun v H' => (∃ b, v = .bl b) ∧ Q v H') E0
end
section
variable {X : Cx} {n : Nat} {C : Addr} {sp : Sp}
/-- what == needs of the class at C -/
structure EqOf (P : Program) (w : World) (K : PySem.W.Frag) (mg : Str → Option Value) (base : Heap) (k : Nat) (C : Addr) (sp : Sp) : Prop where
  ex : ∃ (g : Addr) (fd : FuncData) (ps : List Str), PySem.W.findIn K (.ref C) "__eq__" = some (some (.ref g)) ∧ PySem.W.isFn K (.ref g) = true ∧ FnOk P w K mg base CX0 k g fd ps sp ∧ Binds K fd ps []
theorem op_ownEq {j : Nat} (c : EqOf X.prog X.w X.K X.mg X.base n C sp) (hr : Room j X.A) (hn : n ≤ j) : OpR X (compareOp .Eq) (rOwnEq X.K C sp) := by
  obtain ⟨g, fd, ps, hs, hf, F, hb⟩ := c.ex
  intro pins s σ H x y v u Q I rx ry h
  obtain ⟨a, dx, fs, t, rfl, ha, ty, hnf, q⟩ := h
  cases (show v = Value.ref a from rx)
  obtain ⟨mA, O, _⟩ := ins_get I.hok ha
  obtain ⟨od, J, _⟩ := O.look
  obtain ⟨m, hF⟩ := I.fr
  obtain ⟨Pk, kit, hk, _⟩ := kit_of I ry ty
  show wpAny _ _ (richCompare .Eq (.ref a) u) _ _ _
  refine PySem.W.cmp_K (op := .Eq) (tb := t) (hr.mono hn).units0 hF I.ok.mod.kin J (kit.ty _ _ I.kIn hk) hnf hs hf ?_
  refine wpAny_mono (run_fn (us := [.ref a, u]) (vs := [.ref a, y]) (dvs := []) (ds := []) F (hr.mono hn) hb .nil pass0 I (.cons rfl (.cons ry .nil)) q) (fun z s' hz => ?_) fun _ _ x => x
  obtain ⟨zv, H', I', rz, ⟨b, hb⟩, qz⟩ := hz
  subst hb
  cases (show z = Value.bool b from rz)
  exact ⟨.bl b, H', I', rfl, qz⟩
def rEqO (K : PySem.W.Frag) (C : Addr) (sp : Sp) : R2 := fun x y H Q => rEqU K x y H Q ∨ rOwnEq K C sp x y H Q
theorem kEqO (K : PySem.W.Frag) {j : Nat} (c : EqOf X.prog X.w X.K X.mg X.base n C sp) (hr : Room j X.A) (hn : n ≤ j) (h : X.K = K := by rfl) : OpR X (compareOp .Eq) (rEqO K C sp) := by subst h; exact (xEq hr).or (op_ownEq c hr hn)
end
section
variable {K : PySem.W.Frag} {C : Addr} {sp : Sp} {H : Hp} {Q : VK} {x y : V}
theorem w_eqO (h : rEqU K x y H Q) : rEqO K C sp x y H Q := .inl h
theorem r_ownEq {F} {a dx : Addr} {fs : List (Str × V)} {t : Value} (ha : H a = some (.ins C dx fs)) (ty : TyX K H y t) (hn : PySem.W.notFirst K C t = true) (q : F (.ref a) y H (fun v H' => (∃ b, v = .bl b) ∧ Q v H') E0) : rEqO K C (sp2 F) (.ref a) y H Q :=
  .inr ⟨a, dx, fs, t, rfl, ha, ty, hn, _, _, rfl, q⟩
end
end M

/-! ### part H: the head's facts, functions by any address -/
namespace M
open PySem PySem.Spec PyProof.Rows L2 Evl
/-- a def: where its function stands -/
structure DX where
  adr : PySem.W.Frag → Addr
  name : Str
  qual : Str
  params : Arguments
  body : List Stmt
  scope : Scope
  dfl : List He.Dv := []
  clo : Bool := false
/-- the parts of a function; of a closure the names alone -/
def fnA (K : PySem.W.Frag) (a : Addr) (c : Bool) : He.FnW := match K.lookup a with
  | some ⟨_, _, .func q, _⟩ => some (q.name, q.qualname, q.params, q.body, q.scope, q.globals, (if c = true then q.closure.map fun p => (p.1, 0) else q.closure), q.builtins)
  | _ => none
def DX.val (d : DX) : He.FnW := some (d.name, d.qual, d.params, .stmts d.body, d.scope, mainGlobals, (if d.clo = true then [("__class__", 0)] else []), builtinsNs)
def DX.dvs (K : PySem.W.Frag) (d : DX) : List V := d.dfl.map (He.Dv.v K)
def DX.ok (K : PySem.W.Frag) (d : DX) : Bool := PySem.W.keepIn K (.ref (d.adr K)) && (match K.lookup (d.adr K) with
  | some ⟨_, _, .func q, _⟩ => PySem.W.codeIn K q.code d.qual && He.dflB K q.defaults (d.dvs K)
  | _ => false)
theorem DX.fun_ {K : PySem.W.Frag} {d : DX} (n : d.clo = false) (e : fnA K (d.adr K) d.clo = d.val) (c : d.ok K = true) : ∃ fd, FunD K d.name d.qual d.params d.body d.scope (d.dvs K) [] (d.adr K) fd := by
  have c0 := Bool.and_eq_true_iff.mp c
  have c1 := c0.2
  unfold fnA DX.val at e
  rw [n] at e
  simp only [Bool.false_eq_true, if_false] at e
  cases q : K.lookup (d.adr K) with
  | none => rw [q] at c1; cases c1
  | some o =>
    obtain ⟨oc, od, dt, osl⟩ := o
    rw [q] at c1 e
    cases dt with
    | func fd =>
      obtain ⟨m1, m2, m3, m4, m5, m6, m7, m8, m9, m10, m11, m12, m13, m14, m15⟩ := fd
      have e2 : (some (m1, m2, m3, m4, m5, m6, m7, m15) : He.FnW) = some (d.name, d.qual, d.params, .stmts d.body, d.scope, mainGlobals, [], builtinsNs) := e
      simp only [Option.some.injEq, Prod.mk.injEq] at e2
      obtain ⟨g1, g2, g3, g4, g5, g6, g7, g8⟩ := e2
      subst g1 g2 g3 g4 g5 g6 g7 g8
      have c2 := Bool.and_eq_true_iff.mp (show (PySem.W.codeIn K m13 d.qual && He.dflB K m8 (d.dvs K)) = true from c1)
      exact ⟨_, ⟨oc, od, m8, m9, m10, m11, m12, m13, m14, osl, rfl, q, c2.1, He.dflB_ok c2.2, .inl rfl⟩, c0.1⟩
    | _ => cases c1
/-- a def that names super(), as it stands -/
structure FunS (K : PySem.W.Frag) (x qual : Str) (params : Arguments) (body : List Stmt) (scope : Scope) (f : Addr) (fd : FuncData) (cc cda : Addr) : Prop where
  ex : ∃ (oc : Value) (od : Option Addr) (dV kV doc pm : Value) (an : Option Addr) (ct : Value) (osl : Array (Option Value)),
    fd = PySem.W.ksFn x qual params body scope dV kV doc pm an (.ref cda) ct cc ∧ K.lookup f = some ⟨oc, od, .func fd, osl⟩ ∧ PySem.W.codeIn K (.ref cda) qual = true ∧ DflV K dV []
  kp : PySem.W.keepIn K (.ref f) = true
def cellOf (K : PySem.W.Frag) (a : Addr) : Addr := match K.lookup a with
  | some ⟨_, _, .func q, _⟩ => (match q.closure with
    | (_, c) :: _ => c
    | _ => 0)
  | _ => 0
def codeOf (K : PySem.W.Frag) (a : Addr) : Addr := match K.lookup a with
  | some ⟨_, _, .func q, _⟩ => (match q.code with
    | .ref c => c
    | _ => 0)
  | _ => 0
theorem DX.funS_ {K : PySem.W.Frag} {d : DX} (n : d.clo = true) (nd : d.dvs K = []) (e : fnA K (d.adr K) d.clo = d.val) (c : d.ok K = true) : ∃ fd, FunS K d.name d.qual d.params d.body d.scope (d.adr K) fd (cellOf K (d.adr K)) (codeOf K (d.adr K)) := by
  have c0 := Bool.and_eq_true_iff.mp c
  have c1 := c0.2
  unfold fnA DX.val at e
  rw [n] at e
  simp only [if_true] at e
  unfold cellOf codeOf
  cases q : K.lookup (d.adr K) with
  | none => rw [q] at c1; cases c1
  | some o =>
    obtain ⟨oc, od, dt, osl⟩ := o
    rw [q] at c1 e
    cases dt with
    | func fd =>
      obtain ⟨m1, m2, m3, m4, m5, m6, m7, m8, m9, m10, m11, m12, m13, m14, m15⟩ := fd
      have e2 : (some (m1, m2, m3, m4, m5, m6, (m7.map fun p => ((p.1, 0) : Str × Addr)), m15) : He.FnW) = (some (d.name, d.qual, d.params, FuncBody.stmts d.body, d.scope, mainGlobals, [(("__class__" : Str), (0 : Addr))], builtinsNs) : He.FnW) := e
      simp only [Option.some.injEq, Prod.mk.injEq] at e2
      obtain ⟨g1, g2, g3, g4, g5, g6, g7, g8⟩ := e2
      have c2 := Bool.and_eq_true_iff.mp (show (PySem.W.codeIn K m13 d.qual && He.dflB K m8 (d.dvs K)) = true from c1)
      obtain ⟨cda, rfl⟩ : ∃ c, m13 = .ref c := by
        have := c2.1
        unfold PySem.W.codeIn at this
        split at this
        · exact ⟨_, rfl⟩
        · cases this
      have h7 : ∃ c, m7 = [(("__class__" : Str), c)] := by
        rcases m7 with _ | ⟨⟨z1, z2⟩, _ | ⟨y, m7⟩⟩
        · exact absurd (congrArg List.length g7) (by simp)
        · have g8 : z1 = ("__class__" : Str) := congrArg Prod.fst (List.cons.inj g7).1
          exact ⟨z2, by rw [g8]⟩
        · exact absurd (congrArg List.length g7) (by simp)
      obtain ⟨z2, h7⟩ := h7
      subst g1 g2 g3 g4 g5 g6 g8 h7
      have dd := He.dflB_ok c2.2
      rw [nd] at dd
      exact ⟨_, ⟨oc, od, m8, m9, m10, m11, m12, m14, osl, rfl, q, c2.1, dd⟩, c0.1⟩
    | _ => cases c1
abbrev AlM : Type := Bool × List He.FnW
def obsM (fa : List He.Fa) (fn : List DX) (ex : PySem.W.Frag → Bool) (K : PySem.W.Frag) : AlM := ((fa.all fun f => f.ok K) && ((fn.all fun d => d.ok K) && ex K), fn.map fun d => fnA K (d.adr K) d.clo)
def valM (fn : List DX) : AlM := (true, fn.map DX.val)
def SaysM (fa : List He.Fa) (fn : List DX) (ex : PySem.W.Frag → Bool) (K : PySem.W.Frag) : Prop := obsM fa fn ex K = valM fn
/-- the cells of closures, too, and the table of the statics -/
def asX (g : Addr → Option Obj) (n : Nat) : List Addr := cStatics :: (He.asD g n ++ (He.asD g n).flatMap fun a => match g a with
  | some ⟨_, _, .func q, _⟩ => q.closure.map fun p => p.2
  | _ => [])
def obsMG (n : Nat) (fa : List He.Fa) (fn : List DX) (ex : PySem.W.Frag → Bool) (g : Addr → Option Obj) : AlM := obsM fa fn ex (He.frG g (asX g n))
def hookM (n : Nat) (fa : List He.Fa) (fn : List DX) (ex : PySem.W.Frag → Bool) : PySem.W.Hook where
  α := AlM
  obs := fun s => obsMG n fa fn ex s.heap.get?
  val := fun _ => valM fn
  says := fun _ h => ∃ K : PySem.W.Frag, K.In h ∧ SaysM fa fn ex K
  of := fun _ _ e => ⟨_, He.frG_in, e⟩
  keeps := fun _ _ _ ⟨K, hK, c⟩ k => ⟨K, PySem.W.Frag.In.keeps hK k, c⟩
theorem obsMG_eq {n : Nat} {fa : List He.Fa} {fn : List DX} {ex : PySem.W.Frag → Bool} {g : Addr → Option Obj} {s : Shared} (h : ∀ a, g a = s.heap.get? a) : obsMG n fa fn ex g = (hookM n fa fn ex).obs s := by
  rw [show g = s.heap.get? from funext h] <;> rfl
section
variable {fa : List He.Fa} {fn : List DX} {ex : PySem.W.Frag → Bool} {K : PySem.W.Frag}
theorem SaysM.fact (c : SaysM fa fn ex K) (i : Nat) {f : He.Fa} (h : fa[i]? = some f := by rfl) : f.ok K = true :=
  List.all_eq_true.mp (Bool.and_eq_true_iff.mp (show ((fa.all fun f => f.ok K) && ((fn.all fun d => d.ok K) && ex K)) = true from congrArg Prod.fst c)).1 f (List.mem_of_getElem? h)
theorem SaysM.more (c : SaysM fa fn ex K) : ex K = true :=
  (Bool.and_eq_true_iff.mp (Bool.and_eq_true_iff.mp (show ((fa.all fun f => f.ok K) && ((fn.all fun d => d.ok K) && ex K)) = true from congrArg Prod.fst c)).2).2
theorem SaysM.look (c : SaysM fa fn ex K) (i : Nat) {d : DX} (h : fn[i]? = some d := by rfl) : fnA K (d.adr K) d.clo = d.val ∧ d.ok K = true := by
  have c2 := (Bool.and_eq_true_iff.mp (Bool.and_eq_true_iff.mp (show ((fa.all fun f => f.ok K) && ((fn.all fun d => d.ok K) && ex K)) = true from congrArg Prod.fst c)).2).1
  have e : fn.map (fun d => fnA K (d.adr K) d.clo) = fn.map DX.val := congrArg Prod.snd c
  have e2 : (fn.map fun d => fnA K (d.adr K) d.clo)[i]? = (fn.map DX.val)[i]? := by rw [e]
  rw [List.getElem?_map, List.getElem?_map, h] at e2
  exact ⟨Option.some.inj e2, List.all_eq_true.mp c2 d (List.mem_of_getElem? h)⟩
theorem SaysM.def_ (c : SaysM fa fn ex K) (i : Nat) {d : DX} (h : fn[i]? = some d := by rfl) (n : d.clo = false := by rfl) : ∃ fd, FunD K d.name d.qual d.params d.body d.scope (d.dvs K) [] (d.adr K) fd :=
  let ⟨e, c2⟩ := c.look i h
  DX.fun_ n e c2
theorem SaysM.defS (c : SaysM fa fn ex K) (i : Nat) {d : DX} (h : fn[i]? = some d := by rfl) (n : d.clo = true := by rfl) (nd : d.dvs K = [] := by rfl) : ∃ fd, FunS K d.name d.qual d.params d.body d.scope (d.adr K) fd (cellOf K (d.adr K)) (codeOf K (d.adr K)) :=
  let ⟨e, c2⟩ := c.look i h
  DX.funS_ n nd e c2
end
/-! facts beyond He.Fa, told by a Bool -/
/-- the property m of the class x: its object, its getter -/
def prA (x m : Str) (K : PySem.W.Frag) : Addr := He.ma K (He.ga K x) m
def prG (x m : Str) (K : PySem.W.Frag) : Addr := match PySem.W.recIn K (prA x m K) "property" with
  | some (.ref g :: _) => g
  | _ => 0
def propB (x m : Str) (K : PySem.W.Frag) : Bool := decide (PySem.W.findIn K (.ref (He.ga K x)) m = some (some (.ref (prA x m K)))) && (decide (PySem.W.specialIn K (.ref (prA x m K)) "__get__" = some (some (.builtin "property.__get__"))) &&
  (decide (PySem.W.takesIn K (.ref (prA x m K)) = some true) && (match PySem.W.recIn K (prA x m K) "property" with
    | some (.ref g :: _) => true
    | _ => false)))
theorem propB_ok {x m : Str} {K : PySem.W.Frag} (h : propB x m K = true) : PropOf K (He.ga K x) m (prA x m K) (prG x m K) := by
  obtain ⟨h1, h⟩ := Bool.and_eq_true_iff.mp h
  obtain ⟨h2, h⟩ := Bool.and_eq_true_iff.mp h
  obtain ⟨h3, h⟩ := Bool.and_eq_true_iff.mp h
  refine ⟨of_decide_eq_true h1, of_decide_eq_true h2, of_decide_eq_true h3, ?_⟩
  unfold prG
  split at h
  · rename_i g r e
    rw [e]
    exact ⟨_, rfl⟩
  · cases h
/-- an empty tuple stands at an address of the written part -/
def tup0B (K : PySem.W.Frag) (a : Addr) : Bool := match K.lookup a with
  | some ⟨.type c, _, .seq its _, _⟩ => decide (c = "tuple") && decide (its.size = 0)
  | _ => false
theorem tup0B_ok {K : PySem.W.Frag} {a : Addr} (h : tup0B K a = true) (H : Hp) : SqT K H a [] := by
  unfold tup0B at h
  split at h
  · rename_i c od its n sl e
    obtain ⟨h1, h2⟩ := Bool.and_eq_true_iff.mp h
    have h3 : its = #[] := Array.eq_empty_of_size_eq_zero (of_decide_eq_true h2)
    subst h3
    exact .inr ⟨_, #[], n, e, congrArg Value.type (of_decide_eq_true h1), rfl, by decide, .nil⟩
  · cases h
/-- an instance of the class may be called -/
def callB (x : Str) (K : PySem.W.Frag) : Bool := decide (PySem.W.findIn K (.ref (He.ga K x)) "__call__" = some (some (.ref (He.ma K (He.ga K x) "__call__")))) && (PySem.W.isFn K (.ref (He.ma K (He.ga K x) "__call__")) && PySem.W.fnIn K (He.ma K (He.ga K x) "__call__"))
theorem callB_ok {x : Str} {K : PySem.W.Frag} (h : callB x K = true) : StX.CallO K (He.ga K x) (He.ma K (He.ga K x) "__call__") := by
  obtain ⟨h1, h⟩ := Bool.and_eq_true_iff.mp h
  obtain ⟨h2, h3⟩ := Bool.and_eq_true_iff.mp h
  exact ⟨of_decide_eq_true h1, h2, h3⟩
/-- the class of an instance, for isinstance and ==: what TyOf asks -/
def insB (x : Str) (K : PySem.W.Frag) : Bool := decide (PySem.W.findIn K (.ref (He.ga K x)) "__class__" = some (some (.builtin "object.__class__"))) && (decide (PySem.W.specialIn K (.builtin "object.__class__") "__get__" = some (some (.builtin "getset_descriptor.__get__"))) &&
  (decide (PySem.W.takesIn K (.builtin "object.__class__") = some true) && decide (PySem.W.mroIn K (He.ga K x) (.type "object") = some true)))
theorem insB_ok {x : Str} {K : PySem.W.Frag} (h : insB x K = true) (c : Cls K (He.ga K x)) {H : Hp} {a dx : Addr} {fs : List (Str × V)} (e : H a = some (.ins (He.ga K x) dx fs)) : TyX K H (.ref a) (.ref (He.ga K x)) := by
  obtain ⟨h1, h⟩ := Bool.and_eq_true_iff.mp h
  obtain ⟨h2, h⟩ := Bool.and_eq_true_iff.mp h
  obtain ⟨h3, h4⟩ := Bool.and_eq_true_iff.mp h
  exact .base (.ins e c (of_decide_eq_true h1) (of_decide_eq_true h2) (of_decide_eq_true h3) (of_decide_eq_true h4))
/-- isinstance's answers of the class, == of others -/
def kitB (x : Str) (n : String) (b : Bool) (K : PySem.W.Frag) : Bool := decide (PySem.W.kitOne K (.type n) (.ref (He.ga K x)) = some b)
def kitSB (x : Str) (K : PySem.W.Frag) : Bool := decide (PySem.W.kitOne K (.ref (He.ga K x)) (.ref (He.ga K x)) = some true)
def nfB (x : Str) (n : String) (K : PySem.W.Frag) : Bool := PySem.W.notFirst K (He.ga K x) (.type n)
end M

/-! ### part I: a source of draws; frames -/
namespace M
open PySem PySem.Spec PyProof.Rows L2 Evl
/-- all but what stands at a is as it was -/
def Fr (a : Addr) (H H' : Hp) : Prop := ∀ b o, b ≠ a → H b = some o → H' b = some o
theorem Fr.refl (a : Addr) (H : Hp) : Fr a H H := fun _ _ _ h => h
theorem Fr.trans {a : Addr} {H H1 H2 : Hp} (x : Fr a H H1) (y : Fr a H1 H2) : Fr a H H2 := fun b o n h => y b o n (x b o n h)
theorem Fr.of {a : Addr} {H H' : Hp} (e : Ex H H') : Fr a H H' := fun b o _ h => e b o h
theorem Fr.upd {a : Addr} {H : Hp} {o : HO} : Fr a H (upd H a o) := fun b o n h => by rw [upd_ne n]; exact h
/-- a list of three: the digits that are left, the seed, the count -/
def SrcAt (H : Hp) (a : Addr) : Prop := ∃ d s c : Int, H a = some (.lst [.int d, .int s, .int c]) ∧ 0 ≤ d ∧ 0 ≤ s ∧ s < 2147483629 ∧ 0 ≤ c
theorem SrcAt.ex {H H' : Hp} {a : Addr} (e : Ex H H') (h : SrcAt H a) : SrcAt H' a := by
  obtain ⟨d, s, c, h1, h2⟩ := h
  exact ⟨d, s, c, e _ _ h1, h2⟩
theorem SrcAt.ne {H : Hp} {a b : Addr} (h : SrcAt H a) (n : H b = none) : b ≠ a := by
  obtain ⟨d, s, c, h1, _⟩ := h
  rintro rfl
  rw [n] at h1; cases h1
/-- a change of the source alone leaves the tuples -/
theorem Fr.tex {a : Addr} {H H' : Hp} (f : Fr a H H') (h : SrcAt H a) : TEx H H' := fun b xs q => by
  obtain ⟨d, s, c, h1, _⟩ := h
  have hb : b ≠ a := by
    rintro rfl
    rcases q with q | ⟨o', q⟩ <;> rw [h1] at q <;> cases q
  rcases q with q | ⟨o', q⟩
  · exact .inl (f b _ hb q)
  · exact .inr ⟨o', f b _ hb q⟩
theorem fr_t {K : PySem.W.Frag} {a b : Addr} {H H' : Hp} {xs : List V} (f : Fr a H H') (h : SrcAt H a) (s : SqT K H b xs) : SqT K H' b xs := tex_t (f.tex h) s
theorem fr_dp {K : PySem.W.Frag} {a : Addr} {H H' : Hp} {v : V} {d : PyData} (f : Fr a H H') (h : SrcAt H a) (hi : imm d = true) (s : Dp K H v d) : Dp K H' v d := dp_tex (f.tex h) hi s
section
variable {H : Hp} {v : V}
theorem r_set {p : Addr} {xs : List V} {k : Int} {j : Nat} {R : Hp → Prop} (h : H p = some (.lst xs)) (hj : ixN xs.length k = some j) (q : R (upd H p (.lst (xs.set j v)))) : rSetL (.ref p) (.int k) v H R := ⟨p, xs, k, j, rfl, rfl, h, hj, q⟩
theorem r_app {K : PySem.W.Frag} {p : Addr} {xs : List V} {Q : VK} (h : H p = some (.lst xs)) (hz : xs.length < sizeLine) (q : Q .non (upd H p (.lst (xs ++ [v])))) : rAppend (.ref p) [v] H Q := ⟨p, xs, v, rfl, rfl, h, hz, q⟩
end
/-- a built-in method of a list: its receiver stands -/
def BmI (K : PySem.W.Frag) (T : String) (r : V → List V → Hp → VK → Prop) (t : TA) (σ : L2.St) (x : V) (H1 : Hp) (Q : VK) : Prop := tyV K T x H1 ∧ t σ H1 fun xs H2 => r x xs H2 Q
theorem w_bm {K : PySem.W.Frag} {T : String} {r : V → List V → Hp → VK → Prop} {to : TE} {t : TA} {σ : L2.St} {H : Hp} {Q : VK} (h : to σ H fun x H1 => BmI K T r t σ x H1 Q) : tBM K T r to t σ H Q := h
theorem r_bmL {K : PySem.W.Frag} {r : V → List V → Hp → VK → Prop} {t : TA} {σ : L2.St} {p : Addr} {xs : List V} {H : Hp} {Q : VK} (h : SqL K H p xs) (q : t σ H fun vs H2 => r (.ref p) vs H2 Q) : BmI K "list" r t σ (.ref p) H Q := ⟨.inl ⟨rfl, xs, h⟩, q⟩
section
variable {H : Hp} {Q : VK}
theorem r_shr {i j : Int} (h0 : 0 ≤ j) (h : Q (.int (i / 2 ^ j.toNat)) H) : rShr (.int i) (.int j) H Q := ⟨i, j, rfl, rfl, h0, h⟩
theorem r_shl {i j : Int} (hc : CShl i j) (h : Q (.int (i * 2 ^ j.toNat)) H) : rShl (.int i) (.int j) H Q := ⟨i, j, rfl, rfl, hc, h⟩
theorem r_pow {i j : Int} (hc : CPow i j) (h : Q (.int (i ^ j.toNat)) H) : rPow (.int i) (.int j) H Q := ⟨i, j, rfl, rfl, hc, h⟩
end
end M

/-! ### part J: a def whose last statement is super().__init__(..) -/
namespace M
open PySem PySem.Spec PyProof.Rows L2 Evl
namespace MS
open NdefX ClX
theorem execs_app (a b : List Stmt) (env : Env) : execs (a ++ b) env = (do match ← execs a env with | .next => execs b env | f => pure f) := by
  induction a with
  | nil => rw [List.nil_append, execs_nil, pure_bind]
  | cons st a ih =>
    rw [List.cons_append, execs_cons, execs_cons, bind_assoc]
    congr 1
    funext f
    cases f with
    | next => exact ih
    | _ => rw [pure_bind]
/-- what super().__init__ needs of the text: the class at D, its cell cc, the code object cda, the next __init__ at f2 -/
structure SupOf (P : Program) (K : PySem.W.Frag) (mg : Str → Option Value) (D cc cda f2 : Addr) : Prop where
  cell : ∃ cl cld csl, K.lookup cc = some ⟨cl, cld, .cell (some (.ref D)), csl⟩
  cls : ∃ cd, PySem.W.clsIn K D = some cd
  sub : PySem.W.mroIn K D (.ref D) = some true
  code : ∃ ccl cdd vs ccs file tf, K.lookup cda = some ⟨ccl, cdd, .fields vs, ccs⟩ ∧ vs[2]? = some (.str file tf) ∧ ((P.main.file : Str) == file) = true
  gl : mg "super" = none
  any : PySem.W.nsIn K cStatics "thirdparty.any" = some none
  nx : PySem.W.ks_superIn K D D "__init__" = some (some (.ref f2))
  ty : PySem.W.typeIn K (.ref f2) = some (.type "function")
  fi : PySem.W.fnIn K f2 = true
  top : (P.main.scope.names.lookup ("super" : Str)).isSome = false
section
variable {X : Cx} {pins : List (Addr × Obj)} {σ : L2.St} {H : Hp} {s : Shared} {D cc cda f f2 x dx : Addr} {fs : List (Str × V)} {sp2 : Sp} {k2 : Nat} {R : Hp → Prop}
theorem super_stmt {pl : Sem Bool} {ta : TE} {body : List Stmt} {p0 p1 p2 p3 p4 : Pos} {arg : Expr} {fd : FuncData} {of : Obj} {ar : Arg} (U : SupOf X.prog X.K X.mg D cc cda f2) (F2 : FnR X.prog X.w X.K X.mg X.base CX0 k2 f2 sp2) (hr : Room k2 X.A)
    (hks : X.env.kindOf "super" = some .globalImplicit) (hkc : X.env.kindOf "__class__" = some .free) (hfu : X.env.func = some f) (hf : X.K.lookup f = some of) (hfd : of.data = .func fd)
    (hp : (fd.params.posonlyargs ++ fd.params.args).head? = some ar) (har : X.env.scope.names.lookup ar.arg = some .local) (hN : X.N[0]? = some ar.arg) (hco : X.env.code = .ref cda) (hcl : X.env.cells.lookup ("__class__" : Str) = some cc)
    (ha : PE X arg ta) (I : Inv X pins σ H s) (hσ : σ[0]? = some (some (.ref x))) (hx : H x = some (.ins D dx fs))
    (h : ta σ H fun v H2 => sp2 [.ref x, v] H2 (fun _ H3 => R H3) E0)
    (he : starEach [arg] X.env = (false, eval arg X.env) :: starEach [] X.env := by rfl) (hpl : (backTo p3 (starEach ([] : List Expr) X.env)).any (·.1) = false := by rfl)
    (ht : eval (.Call (.Attribute (.Call (.Name "super" p0) [] [] p1) "__init__" p2) [arg] [] p3) X.env = (do
      let ov ← attributeBase (.Call (.Name "super" p0) [] [] p1) "__init__" X.env (eval (.Call (.Name "super" p0) [] [] p1) X.env)
      standAt p2.atName
      let (f, first) ← holding [ov] (getMethod ov "__init__" pl)
      callWith p3 f first (backTo p3 (starEach [arg] X.env)) []) := by rfl)
    (hi : interactive X.env = false := by rfl) (hs : swapsWith (.Call (.Attribute (.Call (.Name "super" p0) [] [] p1) "__init__" p2) [arg] [] p3) none p4.line X.env = pure false := by rfl) :
    PySem.wpAt (model X.prog X.w) X.A (.func body X.env) (exec (.Expr (.Call (.Attribute (.Call (.Name "super" p0) [] [] p1) "__init__" p2) [arg] [] p3) p4) X.env) (fun fl s' => fl = .next ∧ ∃ H', Inv X pins σ H' s' ∧ R H') X.xe s := by
  obtain ⟨cl, cld, csl, hcell⟩ := U.cell
  obtain ⟨cd, hD⟩ := U.cls
  obtain ⟨ccl, cdd, vs, ccs, file, tf, hcode, hvs, hfile⟩ := U.code
  have KX := I.kIn
  obtain ⟨oD, hD1, hD2⟩ : ∃ oD, s.heap.get? D = some oD ∧ oD.data = .cls cd := by
    have hD' := hD
    unfold PySem.W.clsIn at hD'
    split at hD'
    · rename_i c d cd' sl ho
      cases hD'
      exact ⟨_, KX _ _ ho, rfl⟩
    · cases hD'
  obtain ⟨mA, O, _⟩ := ins_get I.hok hx
  obtain ⟨od, J, _⟩ := O.look
  refine ks_wpAt_Expr_any ?_ hi hs
  refine ks_wpAt_MethodCall (pl := pl) ?_ ht
  refine ks_wpAt_super_base (env := X.env) hks hkc rfl hfu (KX _ _ hf) hfd hp hco (KX _ _ hcode) rfl hvs hfile U.top ?_
  obtain ⟨mb, h1, h2⟩ := I.mod.blt
  refine PySem.W.ks_loadName_global I.ok.kind hks (Calls.loadGlobal_builtin (by rw [I.ok.glob]; exact I.mod.glob.keeps I.bk) U.gl (by rw [I.ok.blt]; exact h1.keeps I.bk) ((h2 "super" (by decide)).trans (by decide +kernel)) ⟨rfl, ?_⟩)
  refine wpAny_loadName_free I.ok.kind hkc hcl ⟨_, KX _ _ hcell, rfl⟩ ?_
  obtain ⟨m, hn, hl⟩ := id I.loc
  obtain ⟨u, ru, lo⟩ := hl 0 ar.arg (.ref x) hN hσ (.inl har)
  cases (show u = Value.ref x from ru)
  have hm : m ar.arg = some (.ref x) := by
    rcases lo with ⟨_, hm⟩ | ⟨hk, _⟩
    · exact hm
    · rcases hk with hk | hk
      · have : X.env.scope.names.lookup ar.arg = some .cell := hk
        rw [har] at this; cases this
      · have : X.env.scope.names.lookup ar.arg = some .free := hk
        rw [har] at this; cases this
  refine wpAny_loadName_local I.ok.kind har hn hm ?_
  refine ks_wpAny_isType_cls hD1 hD2 ⟨rfl, ?_⟩
  obtain ⟨hh, g, d, t, os⟩ := s
  refine ks_wpAny_call_super hD1 hD2 J.at_ J.cls (fun c e => ?_) (PySem.W.looks_mroIn KX U.sub) (fun h' e k => ?_)
  · have := J.no
    unfold PySem.W.notCls at this
    rw [e] at this
    exact Bool.noConfusion this
  have I1 := pin_new (t' := t) I k (Nat.le_refl _) e (fun v z => by cases z)
  have KX1 := I1.kIn
  have hnx := U.nx
  unfold PySem.W.ks_superIn at hnx
  rw [hD] at hnx
  obtain ⟨of2, hof, hofc⟩ : ∃ of, h'.get? f2 = some of ∧ of.cls = .type "function" := by
    have ht' : (X.K.lookup f2).map (·.cls) = some (.type "function") := U.ty
    cases z : X.K.lookup f2 with
    | none => rw [z] at ht'; cases ht'
    | some of => rw [z] at ht'; exact ⟨of, KX1 _ _ z, Option.some.inj ht'⟩
  refine ks_wpAny_getMethod_super (l₀ := cd.mro) e (PySem.W.looks_opaque KX1 U.any) ?_ rfl KX1 hnx hof hofc (PySem.W.ks_ne KX J hD) (by decide) ?_
  · exact fun A Q E s k q => wpAny_bind ((PySem.W.looks_clsIn KX1 hD) A _ E s k (wpAny_pure q))
  have I2 := met_new (g := f2) (C := x) I1
  have h' : tCons ta tNil σ H (fun vs H2 => sp2 (.ref x :: vs) H2 (fun _ H3 => R H3) E0) := h
  refine callwith_cm I2 (base_none I1 (Nat.le_refl _)) U.fi (thn ((pa_cons ha pa_nil he).run p3 _ _ σ H _ I2 h') fun us s3 ⟨vs', H2, I3, rv, q2⟩ => ⟨⟨pin_at I3, I3.kIn⟩, ?_⟩) he hpl
  refine thn (run_cm F2 hr pass0 I3 rv q2) fun u s4 ⟨w, H3, I4, _, q3⟩ => ⟨rfl, H3, unpin I4, q3⟩
end
/-- a def whose last statement is super().__init__(arg) keeps its promise -/
theorem fnsup {P : Program} {w : World} {K : PySem.W.Frag} {mg : Str → Option Value} {base : Heap} {name qual self : Str} {params : Arguments} {body pre : List Stmt} {scope : Scope} {f cc cda D f2 : Addr} {fd : FuncData} {N ps : List Str} {k k2 : Nat} {sp sp2 : Sp} {arg : Expr} {p0 p1 p2 p3 p4 : Pos} {ar : Arg}
    (F : FunS K name qual params body scope f fd cc cda) (U : SupOf P K mg D cc cda f2) (F2 : FnR P w K mg base CX0 k2 f2 sp2) (hk : k2 ≤ k)
    (hbody : body = pre ++ [.Expr (.Call (.Attribute (.Call (.Name "super" p0) [] [] p1) "__init__" p2) [arg] [] p3) p4])
    (S : NScope N (self :: ps) ["__class__"] scope) (hks : scope.names.lookup ("super" : Str) = some .globalImplicit)
    (hp : (params.posonlyargs ++ params.args).head? = some ar) (hs : ar.arg = self) (hN : N[0]? = some self)
    (len : ∀ vs H Q E, sp vs H Q E → vs.length = (self :: ps).length)
    (hgo : ∀ (A : Around) (outer : List Env) (s : Shared) (H : Hp) (vs : List V) (Q : VK) (E : XK), Room k (A.deeper (envF ⟨name, qual, params, body, scope, [("__class__", cc)], cda⟩ f s.heap.objs.size)) → sp vs H Q E →
      ∃ t ta, PSs (ncx CX0 P w K mg base N ⟨name, qual, params, body, scope, [("__class__", cc)], cda⟩ f A outer s H E).nox pre t ∧ PE (ncx CX0 P w K mg base N ⟨name, qual, params, body, scope, [("__class__", cc)], cda⟩ f A outer s H E).nox arg ta ∧
        t { nx := fun σ H' => ∃ x dx fs, σ[0]? = some (some (.ref x)) ∧ H' x = some (.ins D dx fs) ∧ ta σ H' fun v H2 => sp2 [.ref x, v] H2 (fun _ H3 => Q .non H3) E0, rt := fun _ _ => False } (startF N vs [some (.ref D)]) H)
    (hst : ∀ (X : Cx), starEach [arg] X.env = (false, eval arg X.env) :: starEach [] X.env := by intro _; rfl) (hpl : ∀ (X : Cx), (backTo p3 (starEach ([] : List Expr) X.env)).any (·.1) = false := by intro _; rfl)
    {pl : Cx → Sem Bool}
    (ht : ∀ (X : Cx), eval (.Call (.Attribute (.Call (.Name "super" p0) [] [] p1) "__init__" p2) [arg] [] p3) X.env = (do
      let ov ← attributeBase (.Call (.Name "super" p0) [] [] p1) "__init__" X.env (eval (.Call (.Name "super" p0) [] [] p1) X.env)
      standAt p2.atName
      let (f, first) ← holding [ov] (getMethod ov "__init__" (pl X))
      callWith p3 f first (backTo p3 (starEach [arg] X.env)) []) := by intro _; rfl)
    (hsw : ∀ (X : Cx), swapsWith (.Call (.Attribute (.Call (.Name "super" p0) [] [] p1) "__init__" p2) [arg] [] p3) none p4.line X.env = pure false := by intro _; rfl) :
    FnOk P w K mg base CX0 (k + 1) f fd (self :: ps) sp := by
  obtain ⟨oc, od, dV, kV, doc, pm, an, ct, osl, rfl, lk, hcd, _⟩ := F.ex
  refine ⟨len, fun A outer s H args us vs Q E hr e0 hb r hsp => ?_⟩
  have KX : K.In s.heap := e0.mod.kin.keeps fun b o e => (e0.bs b o e).1
  have hl := len _ _ _ _ hsp
  have lim : s.heap.NoLimit := e0.mod.nolimit.keeps fun b o e => (e0.bs b o e).1
  obtain ⟨cl, cld, csl, hcell⟩ := U.cell
  refine codeAny_call_function hr.depth (KX _ _ lk) rfl S.co S.gen rfl (PySem.W.codeRec_of KX hcd) (hb _ _ _ _ ?_)
  refine wpAny_newFunctionEnv S.nocell (fun ⟨n, _⟩ hy => S.par n (List.of_mem_zip hy).1) (fun h₁ hns hsb => ⟨lim.fresh _ hsb, ?_⟩) S.kind
  show codeAny _ _ (.func body (envF ⟨name, qual, params, body, scope, [("__class__", cc)], cda⟩ f s.heap.objs.size)) _ _
  refine ks_codeAny_funcAt ?_
  have kp : ∀ b o, s.heap.get? b = some o → h₁.get? b = some o := fun b o e => hsb.extBut b o (Nat.ne_of_lt (Heap.lt_size e)) (Heap.get?_push_of_some _ e)
  have hcc : H cc = none := (e0.bs _ _ (e0.mod.kin _ _ hcell)).2
  have look1 : ∀ y c, List.lookup y [(("__class__" : Str), cc)] = some c → y = "__class__" ∧ c = cc := fun y c e => by
    unfold List.lookup at e
    split at e
    · rename_i q
      cases e
      exact ⟨beq_iff_eq.mp q, rfl⟩
    · cases e
  have C : CellsAt [(("__class__" : Str), cc)] ["__class__"] [some (.ref D)] s.heap H := by
    refine ⟨rfl, fun y c e => ?_, fun x y c e e' => ?_, fun i y e => ?_⟩
    · obtain ⟨_, rfl⟩ := look1 y c e
      exact ⟨hcc, _, ⟨_, KX _ _ hcell, rfl⟩⟩
    · exact (look1 _ _ e).1.trans (look1 _ _ e').1.symm
    · rcases i with _ | i
      · cases e
        refine ⟨cc, by unfold List.lookup; rw [beq_self_eq_true], fun v e => ?_⟩
        cases e
        exact ⟨.ref D, rfl, ⟨_, KX _ _ hcell, rfl⟩⟩
      · cases e
  have hroom := hr.deeper (envF ⟨name, qual, params, body, scope, [("__class__", cc)], cda⟩ f s.heap.objs.size)
  obtain ⟨t, ta, h1, h2, h3⟩ := hgo A outer s H vs Q E hroom hsp
  have I : Inv (ncx CX0 P w K mg base N ⟨name, qual, params, body, scope, [("__class__", cc)], cda⟩ f A outer s H E) [] (startF N vs [some (.ref D)]) H { s with heap := h₁, toks := s.toks + ((self :: ps).zip us).length } := inv_startN S hr.hd e0 hl r C hns kp
  have ebody : execs body (envF ⟨name, qual, params, body, scope, [("__class__", cc)], cda⟩ f s.heap.objs.size) = execs (pre ++ [.Expr (.Call (.Attribute (.Call (.Name "super" p0) [] [] p1) "__init__" p2) [arg] [] p3) p4]) (envF ⟨name, qual, params, body, scope, [("__class__", cc)], cda⟩ f s.heap.objs.size) := congrArg (fun b => execs b _) hbody
  rw [ebody, execs_app]
  refine _root_.PySem.wpAt_bind (_root_.PySem.wpAt_of_wpAny (wpAny_mono (h1.nox.run [] _ _ H _ I h3) (fun fl s' hs' => ?_) fun e s' he => he))
  have fin : ∀ {σ' : L2.St} {H' : Hp} {v : V} {u : Value} {s' : Shared}, Inv (ncx CX0 P w K mg base N ⟨name, qual, params, body, scope, [("__class__", cc)], cda⟩ f A outer s H E) [] σ' H' s' → L2.RelV v u → Q v H' → CE outer P w H s Q u s' :=
    fun {σ' H' v u s'} J rv q => ⟨v, H', J.os, J.bare, J.base, J.hok, rv, q⟩
  cases fl with
  | ret u =>
    obtain ⟨_, _, _, _, _, q⟩ := hs'
    exact q.elim
  | next =>
    obtain ⟨σ', H', J, x, dx, fs, hσ, hx, hta⟩ := hs'
    refine ks_wpAt_execs_cons (ks_wpAt_mono (super_stmt (X := ncx CX0 P w K mg base N ⟨name, qual, params, body, scope, [("__class__", cc)], cda⟩ f A outer s H E) (f := f) (cda := cda) (cc := cc) (D := D) (R := fun H3 => Q .non H3) U F2 (hroom.mono hk) hks (S.frk _ List.mem_cons_self) rfl lk rfl hp (by rw [hs]; exact S.par _ List.mem_cons_self) (by rw [hs]; exact hN) rfl (by show List.lookup ("__class__" : Str) [(("__class__" : Str), cc)] = some cc; unfold List.lookup; rw [beq_self_eq_true]) h2.nox J hσ hx hta (hst _) (hpl _) (ht _) (by show interactive (envF ⟨name, qual, params, body, scope, [("__class__", cc)], cda⟩ f s.heap.objs.size) = false; unfold interactive; rw [show (envF ⟨name, qual, params, body, scope, [("__class__", cc)], cda⟩ f s.heap.objs.size).scope.kind = .function from S.kind]; first | rfl | decide) (hsw _)) (fun fl2 s2 h4 => ?_) fun e s2 h4 => h4)
    obtain ⟨rfl, H3, J3, q3⟩ := h4
    exact _root_.PySem.wpAt_of_wpAny (wpAny_pure (fin (v := .non) (u := Value.none) J3 rfl q3))
  | brk =>
    obtain ⟨_, _, _, q⟩ := hs'
    exact q.elim
  | cont =>
    obtain ⟨_, _, _, q⟩ := hs'
    exact q.elim
end MS
open MS
/-- what the text must have for super().__init__, told by a Bool -/
def cellB (K : PySem.W.Frag) (c D : Addr) : Bool := match K.lookup c with
  | some ⟨_, _, .cell (some (.ref d)), _⟩ => d == D
  | _ => false
theorem cellB_ok {K : PySem.W.Frag} {c D : Addr} (h : cellB K c D = true) : ∃ cl cld csl, K.lookup c = some ⟨cl, cld, .cell (some (.ref D)), csl⟩ := by
  unfold cellB at h
  split at h
  · rename_i e
    rw [beq_iff_eq.mp h] at e
    exact ⟨_, _, _, e⟩
  · cases h
def codeB (mf : Str) (K : PySem.W.Frag) (c : Addr) : Bool := match K.lookup c with
  | some ⟨_, _, .fields vs, _⟩ => (match (vs[2]? : Option Value) with
    | some (Value.str f _) => mf == f
    | _ => false)
  | _ => false
theorem codeB_ok {mf : Str} {K : PySem.W.Frag} {c : Addr} (h : codeB mf K c = true) : ∃ ccl cdd vs ccs file tf, K.lookup c = some ⟨ccl, cdd, .fields vs, ccs⟩ ∧ vs[2]? = some (.str file tf) ∧ (mf == file) = true := by
  unfold codeB at h
  split at h
  · rename_i e
    split at h
    · rename_i e2
      exact ⟨_, _, _, _, _, _, e, e2, h⟩
    · cases h
  · cases h
def someNone (o : Option (Option Value)) : Bool := match o with
  | some none => true
  | _ => false
theorem someNone_ok {o : Option (Option Value)} (h : someNone o = true) : o = some none := by
  unfold someNone at h
  split at h
  · rfl
  · cases h
def supB0 (mf : Str) (K : PySem.W.Frag) (D f f2 : Addr) : Bool := cellB K (cellOf K f) D && ((PySem.W.clsIn K D).isSome && (decide (PySem.W.mroIn K D (.ref D) = some true) && (codeB mf K (codeOf K f) && (someNone (PySem.W.nsIn K cStatics "thirdparty.any") &&
  (He.eqO (PySem.W.ks_superIn K D D "__init__") (some (some (.ref f2))) && (decide (PySem.W.typeIn K (.ref f2) = some (.type "function")) && PySem.W.fnIn K f2))))))
theorem supB0_ok {P : Program} {K : PySem.W.Frag} {mg : Str → Option Value} {D f f2 : Addr} (mf : Str) (pf : ((P.main.file : Str) == mf) = true) (top : (P.main.scope.names.lookup ("super" : Str)).isSome = false) (gl : mg "super" = none) (h : supB0 mf K D f f2 = true) : SupOf P K mg D (cellOf K f) (codeOf K f) f2 := by
  unfold supB0 at h
  simp only [Bool.and_eq_true] at h
  obtain ⟨h1, h2, h3, h4, h5, h6, h7, h8⟩ := h
  refine ⟨cellB_ok h1, Option.isSome_iff_exists.mp h2, of_decide_eq_true h3, ?_, gl, someNone_ok h5, He.eqO_ok h6, of_decide_eq_true h7, h8, top⟩
  rw [beq_iff_eq.mp pf]
  exact codeB_ok h4
theorem FunS.bindsN {K : PySem.W.Frag} {x qual : Str} {params : Arguments} {body : List Stmt} {scope : Scope} {f cc cda : Addr} {fd : FuncData} {ps : List Str} (F : FunS K x qual params body scope f fd cc cda)
    (h : ∀ (kV doc pm : Value) (an : Option Addr) (cdv ct : Value) (us : List Value), us.length = ps.length → bindArgs (PySem.W.ksFn x qual params body scope .none kV doc pm an cdv ct cc) ⟨us, []⟩ = pure (ps.zip us)) : Binds K fd ps [] := by
  obtain ⟨oc, od, dV, kV, doc, pm, an, ct, osl, rfl, lk, hcd, hD⟩ := F.ex
  rcases hD with ⟨_, rfl⟩ | ⟨e, _⟩
  · exact .all (h kV doc pm an (.ref cda) ct)
  · exact absurd rfl e
end M

/-! ### part K: the greatest of three ints, the least of a list, truth of an instance -/
namespace M
open PySem PySem.Spec PyProof.Rows L2 Evl
section
variable {X : Cx} {H : Hp} {Q : VK}
def rMax3U : List V → Hp → VK → Prop := fun xs H Q => ∃ i j k, xs = [.int i, .int j, .int k] ∧ Q (.int (max (max i j) k)) H
theorem xMax3 (hc : X.calm = true) : CallR X (.builtin "max") rMax3U := by
  intro pins s σ H xs us Q I r h
  obtain ⟨i, j, k, rfl, q⟩ := h
  have m2 : ∀ a b : Int, nuMax2 (.int a) (.int b) = some (.int (max a b)) := fun a b => by
    show Option.map _ (some (decide (a < b))) = _
    by_cases c : a < b
    · rw [decide_eq_true c, Int.max_eq_right (by omega)]; rfl
    · rw [decide_eq_false c, Int.max_eq_left (by omega)]; rfl
  exact call_max3Nu hc pins s σ H _ us Q I r ⟨_, _, _, _, rfl, by unfold nuMax3; rw [m2]; exact m2 _ _, q⟩
theorem r_max3 {i j k : Int} (q : Q (.int (max (max i j) k)) H) : rMax3U [.int i, .int j, .int k] H Q := ⟨i, j, k, rfl, q⟩
theorem kMinL (K : PySem.W.Frag) (hc : X.calm = true) (h : X.K = K := by rfl) : CallR X (.builtin "min") (rMin K) := by subst h; exact cr_min hc
theorem kMaxL (K : PySem.W.Frag) (hc : X.calm = true) (h : X.K = K := by rfl) : CallR X (.builtin "max") (rMax K) := by subst h; exact cr_max hc
theorem r_minL {K : PySem.W.Frag} {a : Addr} {ns : List Int} (h : SqL K H a (vI ns)) (hn : 0 < ns.length) (q : ∀ m, m ∈ ns → (∀ y, y ∈ ns → m ≤ y) → Q (.int m) H) : rMin K [.ref a] H Q := ⟨a, ns, rfl, h, hn, q⟩
theorem r_maxL {K : PySem.W.Frag} {a : Addr} {ns : List Int} (h : SqL K H a (vI ns)) (hn : 0 < ns.length) (q : ∀ m, m ∈ ns → (∀ y, y ∈ ns → y ≤ m) → Q (.int m) H) : rMax K [.ref a] H Q := ⟨a, ns, rfl, h, hn, q⟩
end
end M

/-! ### part L: static methods of a class -/
namespace M
open PySem PySem.Spec PyProof.Rows L2 Evl
def smF (x m : Str) (K : PySem.W.Frag) : Addr := match PySem.W.recIn K (He.ma K (He.ga K x) m) "staticmethod" with
  | some (.ref f :: _) => f
  | _ => 0
structure SMet (K : PySem.W.Frag) (C : Addr) (m : Str) (p g : Addr) : Prop where
  rd : ClX.CRead K C (.type "type")
  at_ : PySem.W.findCls K (.ref C) (.type "type") m = some (.get (.builtin "staticmethod.__get__") (.ref p) .none (.ref C))
  rc : ∃ rest, PySem.W.recIn K p "staticmethod" = some (.ref g :: rest)
  kp : PySem.W.keepIn K (.ref g) = true
def smB (x m : Str) (K : PySem.W.Frag) : Bool := (match PySem.W.findCls K (.ref (He.ga K x)) (.type "type") m with
    | some (.get (.builtin g) (.ref p) .none (.ref D)) => decide (g = "staticmethod.__get__") && (decide (p = He.ma K (He.ga K x) m) && decide (D = He.ga K x))
    | _ => false) && ((match PySem.W.recIn K (He.ma K (He.ga K x) m) "staticmethod" with
    | some (.ref _ :: _) => true
    | _ => false) && (PySem.W.keepIn K (.ref (smF x m K)) && (PySem.W.readsIn K (He.ga K x) (.type "type") && He.eqO (PySem.W.specialIn K (.ref (He.ga K x)) "__getattribute__") (some (some (.builtin "type.__getattribute__"))))))
theorem smB_ok {x m : Str} {K : PySem.W.Frag} (h : smB x m K = true) : SMet K (He.ga K x) m (He.ma K (He.ga K x) m) (smF x m K) := by
  obtain ⟨h1, h⟩ := Bool.and_eq_true_iff.mp h
  obtain ⟨h2, h⟩ := Bool.and_eq_true_iff.mp h
  obtain ⟨h3, h⟩ := Bool.and_eq_true_iff.mp h
  obtain ⟨h4, h5⟩ := Bool.and_eq_true_iff.mp h
  refine ⟨⟨h4, He.eqO_ok h5⟩, ?_, ?_, h3⟩
  · clear h2 h3
    split at h1
    · rename_i g p D e
      obtain ⟨k1, k⟩ := Bool.and_eq_true_iff.mp h1
      obtain ⟨k2, k3⟩ := Bool.and_eq_true_iff.mp k
      rw [e, of_decide_eq_true k1, of_decide_eq_true k2, of_decide_eq_true k3]
    · cases h1
  · unfold smF
    split at h2
    · rename_i f r e
      exact ⟨r, by rw [e]⟩
    · cases h2
/-- C.m(..), m a staticmethod of the class at C -/
def tSMeth (C : Addr) (sp : Sp) (E : XK) (ta : TE) (t : TA) : TE := fun σ H Q => ta σ H fun x H1 => x = .ref C ∧ t σ H1 fun vs H2 => sp vs H2 Q E
theorem w_smeth {C : Addr} {sp : Sp} {E : XK} {t : TA} {σ : L2.St} {H : Hp} {Q : VK} (h : t σ H fun vs H2 => sp vs H2 Q E) : tSMeth C sp E (tC (.ref C)) t σ H Q := ⟨rfl, h⟩
structure Stm (P : Program) (w : World) (K : PySem.W.Frag) (mg : Str → Option Value) (base : Heap) (k : Nat) (C : Addr) (m : Str) (sp : Sp) : Prop where
  ex : ∃ (p g : Addr) (fd : FuncData) (ps : List Str), SMet K C m p g ∧ FnOk P w K mg base CX0 k g fd ps sp ∧ Binds K fd ps []
section
variable {X : Cx} {CX : CXT} {k j : Nat} {C p g : Addr} {sp : Sp} {E : XK} {o e : Expr} {es : List Expr} {m : Str} {pos apos : Pos} {ta : TE} {t : TA} {pl : Sem Bool}
theorem pe_smeth (he : PE X o ta) (c : SMet X.K C m p g) (F : FnR X.prog X.w X.K X.mg X.base CX k g sp) (hr : Room k X.A) (hx : Passes CX X E) (ha : PA X (e :: es) t)
    (hst : starEach (e :: es) X.env = (false, eval e X.env) :: starEach es X.env := by rfl) (hpl : (backTo pos (starEach es X.env)).any (·.1) = false := by rfl)
    (ht : eval (.Call (.Attribute o m apos) (e :: es) [] pos) X.env = (do
      let ov ← eval o X.env
      standAt apos.atName
      let (f, first) ← holding [ov] (getMethod ov m pl)
      callWith pos f first (backTo pos (starEach (e :: es) X.env)) (backToKw pos (keywordEach [] X.env))) := by rfl) :
    PE X (.Call (.Attribute o m apos) (e :: es) [] pos) (tSMeth C sp E ta t) := by
  refine ⟨fun pins s σ H Q I h => ?_⟩
  refine PySem.W.methodCall_KW (pl := pl) (thn (he.run pins s σ H _ I h) fun u s1 ⟨x, H1, I1, rx, ex, q⟩ => ?_) ht
  subst ex
  obtain rfl : u = Value.ref C := rx
  obtain ⟨rest, hp⟩ := c.rc
  refine PySem.W.method_cls I1.kIn c.rd.ga (PySem.W.cls_bind I1.kIn c.rd.rd c.at_ ?_)
  refine wpAny_call (PySem.W.sm_get (s := { s1 with toks := s1.toks + 1 }) I1.kIn hp (PySem.W.handed_on rfl ?_))
  have I2 := I1.tok (s1.toks + 1)
  refine PySem.W.callWith_K (h₀ := X.base) I.ok.mod.kin c.kp (thn (ha.run pos pins _ σ H1 _ I2 q) fun us s3 ⟨vs, H2, I3, rv, q2⟩ => ⟨I3.kIn, ?_⟩) hst hpl
  exact wpAny_call (run_fnR F hr hx I3 rv q2)
theorem psm (c : Stm X.prog X.w X.K X.mg X.base k C m sp) (hr : Room j X.A) (hk : k ≤ j) (he : PE X o ta) (ha : PA X (e :: es) t)
    (hst : starEach (e :: es) X.env = (false, eval e X.env) :: starEach es X.env := by rfl) (hpl : (backTo pos (starEach es X.env)).any (·.1) = false := by rfl)
    (ht : eval (.Call (.Attribute o m apos) (e :: es) [] pos) X.env = (do
      let ov ← eval o X.env
      standAt apos.atName
      let (f, first) ← holding [ov] (getMethod ov m pl)
      callWith pos f first (backTo pos (starEach (e :: es) X.env)) (backToKw pos (keywordEach [] X.env))) := by rfl) :
    PE X (.Call (.Attribute o m apos) (e :: es) [] pos) (tSMeth C sp E0 ta t) := by
  obtain ⟨p, g, fd, ps, sm, F, hb⟩ := c.ex
  exact pe_smeth (pl := pl) he sm ((F.raw hb .nil).imp fun vs H Q E h => by rw [List.append_nil]; exact h) (hr.mono hk) pass0 ha hst hpl ht
end
end M

namespace M
open PySem PySem.Spec PyProof.Rows L2 Evl MS
--@import HandS.Text
--@import HandS.Iter
--@import HandS.Walk
/-! texts: comparing, joining, splitting, reading and writing numbers, walking the signs -/
def rLeU : R2 := fun x y H Q => rI0 (fun i j => .bl (decide (i ≤ j))) x y H Q ∨ ∃ i j, x = .str i ∧ y = .str j ∧ Q (.bl (!decide (j.cps.toList < i.cps.toList))) H
theorem xLeS {X : Cx} : OpR X (compareOp .LtE) rLeU := op_le.or op_le_str
def rJoin (K : PySem.W.Frag) : V → List V → Hp → VK → Prop := fun x xs H Q => ∃ a p, ∃ ys : List Str, x = .str a ∧ xs = [.ref p] ∧ (SqL K H p (ys.map V.str) ∨ SqT K H p (ys.map V.str)) ∧ (ys.map (·.length)).sum + ys.length * a.length ≤ 16777216 ∧ Q (.str (Txt.join a ys)) H
def rSplit : V → List V → Hp → VK → Prop := fun x xs H Q => ∃ a b, x = .str a ∧ xs = [.str b] ∧ (b.length == 0) = false ∧ a.length + 2 ≤ sizeLine ∧ rNewStrs (Txt.split a b) H Q
section
variable {X : Cx} {o e : Expr} {to te : TE} {apos pos : Pos}
theorem kJoin (K : PySem.W.Frag) (ho : PE X o to) (he : PE X e te) (hs : starEach [e] X.env = [(false, eval e X.env)] := by rfl) (hbase : attributeBase o "join" X.env (eval o X.env) = eval o X.env := by rfl) (hline : (apos.endLine == pos.line) = true := by rfl) (h : X.K = K := by rfl) :
    PE X (.Call (.Attribute o "join" apos) [e] [] pos) (tM1 (rJoin K) to te) := by subst h; exact pe_join ho he hs hbase hline
theorem xSplit (ho : PE X o to) (he : PE X e te) (hs : starEach [e] X.env = [(false, eval e X.env)] := by rfl) (hbase : attributeBase o "split" X.env (eval o X.env) = eval o X.env := by rfl) (hline : (apos.endLine == pos.line) = true := by rfl) :
    PE X (.Call (.Attribute o "split" apos) [e] [] pos) (tM1 rSplit to te) := pe_split ho he hs hbase hline
end
def rIntS : List V → Hp → VK → Prop := fun xs H Q => ∃ a n, xs = [.str a] ∧ PySem.intText? a = some n ∧ a.length ≤ 640 ∧ Q (.int n) H
theorem xIntS {X : Cx} : CallR X (.type "int") rIntS := call_int_str
def rStrI : List V → Hp → VK → Prop := fun xs H Q => ∃ i, xs = [.int i] ∧ i.natAbs.log2 < 1920 ∧ Q (.str (toString i)) H
theorem xStrI {X : Cx} : CallR X (.type "str") rStrI := call_str_int
def rLenS : List V → Hp → VK → Prop := fun xs H Q => ∃ z, xs = [.str z] ∧ z.length ≤ sizeLine ∧ Q (.int z.length) H
theorem xLenS {X : Cx} : CallR X (.builtin "len") rLenS := call_len_str
theorem kFldAug (K : PySem.W.Frag) {X : Cx} {o value : Expr} {f : Str} {op : Operator} {pos tpos : Pos} {ta tv : TE} {rd : V → V → Hp → VK → Prop} (ha : PE X o ta) (hv : PE X value tv) (hop : InOp X op rd) (h : X.K = K := by rfl) : PS X (.AugAssign (.Attribute o f tpos) op value pos) (sFldAug K ta tv rd f) := by
  subst h
  exact ps_fldaug ha hv hop
section
variable {K : PySem.W.Frag} {H : Hp} {Q : VK} {σ : L2.St}
theorem r_leUI {i j : Int} (h : Q (.bl (decide (i ≤ j))) H) : rLeU (.int i) (.int j) H Q := .inl ⟨i, j, rfl, rfl, h⟩
theorem r_leUS {i j : Str} (h : Q (.bl (!decide (j.cps.toList < i.cps.toList))) H) : rLeU (.str i) (.str j) H Q := .inr ⟨i, j, rfl, rfl, h⟩
theorem w_m1 {r : V → List V → Hp → VK → Prop} {to te : TE} (h : to σ H fun x H1 => (∃ a, x = .str a) ∧ te σ H1 fun y H2 => r x [y] H2 Q) : tM1 r to te σ H Q := h
theorem r_joinL {a : Str} {p : Addr} {ys : List Str} (h : SqL K H p (ys.map V.str)) (hz : (ys.map (·.length)).sum + ys.length * a.length ≤ 16777216) (q : Q (.str (Txt.join a ys)) H) : rJoin K (.str a) [.ref p] H Q := ⟨a, p, ys, rfl, rfl, .inl h, hz, q⟩
theorem r_split {a b : Str} (hb : (b.length == 0) = false) (hz : a.length + 2 ≤ sizeLine) (q : ∀ p H1, H p = none → Ex H H1 → H1 p = some (.lst ((Txt.split a b).map V.str)) → Q (.ref p) H1) : rSplit (.str a) [.str b] H Q :=
  ⟨a, b, rfl, rfl, hb, hz, fun p hp => q p _ hp (Ex.new hp) upd_same⟩
theorem r_strI {i : Int} (hz : i.natAbs.log2 < 1920) (q : Q (.str (toString i)) H) : rStrI [.int i] H Q := ⟨i, rfl, hz, q⟩
theorem r_intS {a : Str} {n : Int} (hn : PySem.intText? a = some n) (hz : a.length ≤ 640) (q : Q (.int n) H) : rIntS [.str a] H Q := ⟨a, n, rfl, hn, hz, q⟩
theorem r_lenS {a : Str} (hz : a.length ≤ sizeLine) (q : Q (.int a.length) H) : rLenS [.str a] H Q := ⟨a, rfl, hz, q⟩
theorem r_ixS {z : Str} {i : Int} {c : Nat} (hz : z.length ≤ sizeLine) (ha : atI z.cps.toList i = some c) (q : Q (.str ⟨#[c]⟩) H) : rIx K (.str z) (.int i) H Q := .inr (.inr ⟨z, i, c, rfl, rfl, hz, ha, q⟩)
theorem w_fldAug {a C dx dx' : Addr} {fs fs' : List (Str × V)} {ta tv : TE} {rd : V → V → Hp → VK → Prop} {f : Str} {D : Ends}
    (h : ta σ H fun x H1 => ∃ a C dx fs v, x = .ref a ∧ H1 a = some (.ins C dx fs) ∧ Cls K C ∧ NoAttr K C f ∧ fs.lookup f = some v ∧ tv σ H1 fun y H2 => rd v y H2 fun z H3 => ∃ dx' fs', H3 a = some (.ins C dx' fs') ∧ fs'.length < 1000 ∧ D.nx σ (upd H3 a (.ins C dx' (putF f z fs')))) : sFldAug K ta tv rd f D σ H := h
theorem i_str {te : TE} {R : It → Hp → Prop} (h : te σ H fun v H1 => ∃ x, v = .str x ∧ R (Its x) H1) : iStr te σ H R := h
/-- a comprehension over a text's signs -/
theorem lcJ_str {z : Str} {j : Nat} {te : TE} {vs : List Nat} (v : Nat → V) (hn : z.cps.size ≤ 100000) (σ' : V → L2.St) (hσ : ∀ x, (wipe σ vs).set j (some x) = σ' x) (hw : ∀ x, wipe ((wipe σ vs).set j (some x)) vs = wipe σ vs)
    (he : ∀ (c : Nat) (H1 : Hp) (Q' : VK), Ex H H1 → c ∈ z.cps.toList → (∀ H2, Ex H1 H2 → Q' (v c) H2) → te (σ' (.str ⟨#[c]⟩)) H1 Q')
    (hq : ∀ p H2, H p = none → Ex H H2 → H2 p = some (.lst (z.cps.toList.map v)) → Q (.ref p) H2) : LcJ (Its z) (gName j) tYes te vs σ H Q := fun D hD => by
  have hsz : z.cps.toList.length = z.cps.size := Array.length_toList
  have key := lc_it (J := Its z) (n := z.cps.size) (G := fun _ => True) (Y := fun i H x H' => H' = H ∧ ∃ c, z.cps[i]? = some c ∧ x = .str ⟨#[c]⟩) ⟨fun _ _ hi _ => hi, fun _ _ => Nat.le_refl _, fun _ _ _ _ _ _ y => y⟩
    (g := gName j) (tt := tYes) (te := te) (vs := vs) (σ := σ) (H1 := H) (D := D) (Qd := Q (.ref D)) (fun i H' => Ex H H' ∧ H' D = some (.lst ((z.cps.toList.take i).map v))) ⟨Ex.new hD, upd_same⟩ (fun _ _ _ _ => trivial) ?_ (fun H' p => hq D H' hD p.1 (by
      have e := p.2
      rwa [← hsz, List.take_length] at e))
  · exact key
  · rintro i x H' H'' hi p ⟨rfl, c, hc, rfl⟩
    refine ⟨hw _, ?_⟩
    show te ((wipe σ vs).set j _) H'' _
    rw [hσ]
    have hcl : z.cps.toList[i]? = some c := by rw [Array.getElem?_toList]; exact hc
    refine he c H'' _ p.1 (List.mem_of_getElem? hcl) fun H2 e2 => ⟨(z.cps.toList.take i).map v, e2 D _ p.2, sz_lt (by rw [List.length_map, List.length_take]; omega), Ex.mut (p.1.trans e2) hD, ?_⟩
    rw [List.take_add_one, hcl, List.map_append]
    exact upd_same
end

end M
namespace M
open PySem PySem.Spec PyProof.Rows L2 Evl MS
--@import PyProof.Draws
--@import HandS.Iter
/-! enumerate of a text -/
/-- the signs of x, each with its place in a new pair -/
def Ites (x : Str) : It :=
  ⟨fun i _ => i < x.cps.size, fun i H v H' => ∃ T c, v = .ref T ∧ H T = none ∧ H' = upd H T (.tup [.int (i : Nat), .str ⟨#[c]⟩]) ∧ x.cps[i]? = some c, fun i _ => x.cps.size ≤ i⟩
theorem turn_enumS {P : Program} {w : World} {K : PySem.W.Frag} {elts : List Expr} {kk : Nat} {tpos : Pos} (e it : Addr) (x : Str) (t : Tok) (ty : String) (hty : ty = "str_ascii_iterator" ∨ ty = "str_iterator") :
    Turn P w K (.Tuple elts kk tpos) (Ites x) [e, it] e (fun i h => (∃ old, IsEnum h e it ((i : Nat) : Int) old) ∧ h.IsStrIter it ty x t i ∧ e ≠ it) where
  mem := by simp
  obj := fun i h st b hb => by
    obtain ⟨⟨old, he⟩, ⟨o, ho, hc, hd⟩, _⟩ := st
    have e' : b = e ∨ b = it := by simpa using hb
    rcases e' with z | z
    · rw [z]; exact ⟨_, he, fun v q => nomatch q⟩
    · rw [z]; exact ⟨o, ho, fun v q => by rw [hd] at q; cases q⟩
  keep := fun i h h' st k => let ⟨⟨old, he⟩, ⟨o, ho, r⟩, hne⟩ := st; ⟨⟨old, k e (by simp) _ he⟩, ⟨o, k it (by simp) o ho, r⟩, hne⟩
  item := by
    intro X hP hw hK hc i pins s σ H E I hf st hg
    subst hP hw hK
    obtain ⟨⟨old, he⟩, hit, hne⟩ := st
    have hel : e < s.heap.objs.size := Heap.lt_size he
    have hil : it < s.heap.objs.size := by obtain ⟨_, q, _⟩ := hit; exact Heap.lt_size q
    have D : Draws X.prog X.w X.A.in1 it [it] x.cps.size (fun i v => ∃ c u, x.cps[i]? = some c ∧ v = .str ⟨#[c]⟩ u) (fun i h => h.IsStrIter it ty x t i) := by
      rcases hty with q | q
      · rw [q]; exact Draws.strAscii (show X.A.in1.handled = none from I.ok.hd hc) it x t
      · rw [q]; exact Draws.strWide (show X.A.in1.handled = none from I.ok.hd hc) it x t
    refine wpAny_pyNext_enum_itemD D he hit hg hne (by simpa using hne) fun u h' tk hP ho hit' hT hsz hk => ?_
    obtain ⟨c, tu, hcx, rfl⟩ := hP
    refine ⟨_, rfl, wpAny_letOwnedTupleGo_enum (s := { s with heap := h', toks := tk + 1 }) ho fun h'' he' sb => ?_⟩
    have hT2 : h''.get? s.heap.objs.size = some { cls := .type "tuple", data := .seq #[.int i tk, .str ⟨#[c]⟩ tu] } := (sb.2 _ (Nat.ne_of_gt hel)).trans hT
    have new : ObjOk X.prog X.w (upd H s.heap.objs.size (.tup [.int (i : Nat), .str ⟨#[c]⟩])) h'' s.heap.objs.size (.tup [.int (i : Nat), .str ⟨#[c]⟩]) :=
      ⟨by show 2 ≤ sizeLine; decide, [.int i tk, .str ⟨#[c]⟩ tu], .cons ⟨_, rfl⟩ (.cons ⟨_, rfl⟩ .nil), ⟨_, hT2, rfl, _, rfl⟩⟩
    have I1 : Inv X pins σ (upd H s.heap.objs.size (.tup [.int (i : Nat), .str ⟨#[c]⟩])) { s with heap := h'', toks := tk + 1 } :=
      I.turnedNew (ch := [e, it]) (fun b o hb q => (sb.2 b (fun z => hb (by simp [z]))).trans (hk b o (fun z => hb (by simp [z])) (fun z => hb (by simp [z])) q)) hf (Nat.le_refl _) new
    refine ⟨.ref s.heap.objs.size, _, I1, rfl, ⟨_, c, rfl, I.hok.fresh (Nat.le_refl _), rfl, hcx⟩, ⟨⟨.str ⟨#[c]⟩ tu, ?_⟩, ?_, hne⟩, fun b hb => ?_⟩
    · have e1 : ((i + 1 : Nat) : Int) = (i : Int) + 1 := by omega
      rw [e1]; exact he'
    · obtain ⟨o, ho2, r⟩ := hit'
      exact ⟨o, (sb.2 it (Ne.symm hne)).trans ho2, r⟩
    · have hb' : b < s.heap.objs.size := by
        have e' : b = e ∨ b = it := by simpa using hb
        rcases e' with z | z
        · rw [z]; exact hel
        · rw [z]; exact hil
      rw [upd_ne (Nat.ne_of_lt hb')]
      exact (hf b hb).1
  done := by
    intro X hP hw hK hc i pins s σ H E I hf st hg
    subst hP hw hK
    obtain ⟨⟨old, he⟩, hit, hne⟩ := st
    obtain ⟨f0, f1, f2, f3, f4, f5⟩ := hf it (by simp)
    have hx : x.cps[i]? = none := Array.getElem?_eq_none hg
    have hT : s.TypeIs (.ref e) "enumerate" := ⟨_, he, rfl⟩
    have fin : ∀ h', Heap.ExtBut it s.heap h' → Inv X pins σ H { s with heap := h' } := fun h' eb => I.turned (t' := s.toks) (fun b o hb q => eb b o hb q) f0 f1 f3 f4 f5
    unfold pyNext
    refine wpAny_bind (wpAny_attempt (wpAny_callSpecial?_slot (name := Str.ofString "__next__") hT F.slot_enumerate_next
      (wpAny_call_entry F.slot_enumerate_next hT F.entry_enumerate_next ?_ (F.args_enumerate_next_1 _))))
    show wpAny _ _ (field (.ref e) 2 >>= _) _ _ _
    refine wpAny_bind (wpAny_field he rfl (x := .ref it) rfl ?_)
    rcases hty with q | q
    · rw [q] at hit
      refine wpAny_bind (wpAny_nextOf_ascii_end (I.ok.hd hc) hit hx fun h' z he' hx' => ?_)
      obtain ⟨o, ho, hc'⟩ := hx'
      refine wpAny_bind (wpAny_isInstance (T := "StopIteration") (b := true) ⟨o, ho, hc'⟩ isSubtype_stop ?_)
      exact wpAny_pure ⟨rfl, fin h' he'⟩
    · rw [q] at hit
      refine wpAny_bind (wpAny_nextOf_wide_end (I.ok.hd hc) hit hx fun h' z he' hx' => ?_)
      obtain ⟨o, ho, hc'⟩ := hx'
      refine wpAny_bind (wpAny_isInstance (T := "StopIteration") (b := true) ⟨o, ho, hc'⟩ isSubtype_stop ?_)
      exact wpAny_pure ⟨rfl, fin h' he'⟩
  self := fun A i s Q E st h => let ⟨⟨_, he⟩, _⟩ := st; wpAny_pyIter_enum he h
def iEnumS (ta : TA) : TI := fun σ H R => ta σ H fun vs H1 => ∃ x, vs = [.str x] ∧ R (Ites x) H1
theorem pi_enumS {X : Cx} {e : Expr} {ta : TA} {p pos tpos : Pos} {elts : List Expr} {kk : Nat} (hg : Gl X "enumerate") (hm : X.mg "enumerate" = none) (ha : PA X [e] ta) (hs : starEach [e] X.env = [(false, eval e X.env)] := by rfl) :
    PI X (.Tuple elts kk tpos) (.Call (.Name "enumerate" p) [e] [] pos) (iEnumS ta) := by
  refine ⟨fun pins s σ H R I h => ?_⟩
  refine Call_ (ld_blt I hg hm boot_enumerate (PyProof.Rows.callWith_type1 (thn (ha.run pos pins s σ H _ I h) fun us s1 ⟨vs, H1, I1, r1, q1⟩ => ?_) hs rfl))
  obtain ⟨x, ex, q⟩ := q1
  subst ex
  cases r1 with
  | cons r rr =>
    cases rr
    obtain ⟨t, rfl⟩ := r
    refine call_enumerate_str fun h' he hit hsz hk => wpAny_pyIter_enum he ?_
    have I2 : Inv X pins σ H1 { s1 with heap := h' } := I1.kept (t' := s1.toks) hk
    have hty : (if x.cps.all (· < 128) then "str_ascii_iterator" else "str_iterator") = "str_ascii_iterator" ∨ (if x.cps.all (· < 128) then "str_ascii_iterator" else "str_iterator") = "str_iterator" := by
      split
      · exact .inl rfl
      · exact .inr rfl
    refine ⟨s1.heap.objs.size + 1, [s1.heap.objs.size + 1, s1.heap.objs.size], _, _, H1, rfl, I2, turn_enumS (s1.heap.objs.size + 1) s1.heap.objs.size x t _ hty, ⟨⟨.none, he⟩, hit, Nat.succ_ne_self _⟩, fun b hb => ?_, q⟩
    have e' : b = s1.heap.objs.size + 1 ∨ b = s1.heap.objs.size := by simpa using hb
    have hle : s1.heap.objs.size ≤ b := by
      rcases e' with z | z
      · rw [z]; exact Nat.le_add_right _ _
      · rw [z]; exact Nat.le_refl _
    exact I1.fpOk hle (I1.hok.fresh hle)

end M
namespace M
open PySem PySem.Spec PyProof.Rows L2 Evl MS
--@import PyProof.Draws
--@import PyProof.EnumMake
--@import PyProof.TupleIter
--@import KE.GoesMore
--@import HandS.Iter
--@import HandS.Walk
/-! enumerate of a tuple -/
section
open AutoSeq1 (wpAny_loadPart')
set_option maxHeartbeats 1000000 in
theorem meets_enumerate_newT (l : Addr) (items : Array Value) (n : Nat) (dct : Option Addr) (sl : Array (Option Value)) :
    Meets (Builtin.«enumerate.__new__» ⟨[.type "enumerate", .ref l], []⟩) (fun _ R s => s.heap.get? l = some { cls := .type "tuple", dict := dct, data := .seq items n, slots := sl } ∧
      R (.ok (.ret (.ref (s.heap.push { cls := .type "tuple_iterator", data := .fields #[.ref l, .int 0 0] }).objs.size)))
        { s with heap := (s.heap.push { cls := .type "tuple_iterator", data := .fields #[.ref l, .int 0 0] }).push { cls := .type "enumerate", data := .fields #[.none, .bool false, .ref s.heap.objs.size, rawInt 0, .none, .none] } }) :=
  .of_wp fun prog w A R s h => by
    obtain ⟨hp, g, d, tk, os⟩ := s
    obtain ⟨hl, h⟩ := h
    have hsub := sub_enumerate
    have hL : Heap.IsTuple (Shared.heap ⟨hp, g, d, tk, os⟩) l items := ⟨_, hl, rfl, n, rfl⟩
    wp_walk using wpAny_loadPart' hl
    refine wpAny_stack_any fun st => wpAny_pure ?_
    split
    · rename_i c _ _ _ _ _
      cases (c == Value.type "enumerate")
      · wp_walk using wpAny_loadPart' hl, wpAny_pyIter_tuple hL
        exact ⟨_, rfl, h⟩
      · wp_walk using wpAny_loadPart' hl, wpAny_pyIter_tuple hL
        exact ⟨_, rfl, h⟩
    · wp_walk using wpAny_loadPart' hl, wpAny_pyIter_tuple hL
      exact ⟨_, rfl, h⟩
end
theorem call_enumerate_tuple {prog : Program} {w : World} {A : Around} {E : Value → Shared → Prop} {s : Shared} {l : Addr} {items : Array Value} {Q : Value → Shared → Prop} (hL : s.heap.IsTuple l items)
    (h : ∀ h', IsEnum h' (s.heap.objs.size + 1) s.heap.objs.size 0 .none → h'.IsTupleIter s.heap.objs.size l 0 → (∀ b o, s.heap.get? b = some o → h'.get? b = some o) → Q (.ref (s.heap.objs.size + 1)) { s with heap := h' }) :
    wpAny (model prog w) A (call (.type "enumerate") [.ref l]) Q E s := by
  obtain ⟨⟨c, dct, dt, sl⟩, hl, hc, n, hd⟩ := hL
  replace hc : c = .type "tuple" := hc
  replace hd : dt = .seq items n := hd
  subst hc hd
  refine callType_new F.called_enumerate (by decide) (F.typeCall_enumerate_1 _) (F.newCall_enumerate_1 _) (fun obj => F.args_object_init_2 obj _) F.entry_enumerate_new
    (meets_enumerate_newT l items n dct sl) ⟨hl, ?_⟩
  have hz : (s.heap.push { cls := .type "tuple_iterator", data := .fields #[.ref l, .int 0 0] }).objs.size = s.heap.objs.size + 1 := Heap.size_push ..
  show _ ∧ _
  rw [hz]
  have he : IsEnum ((s.heap.push { cls := .type "tuple_iterator", data := .fields #[.ref l, .int 0 0] }).push
      { cls := .type "enumerate", data := .fields #[.none, .bool false, .ref s.heap.objs.size, rawInt 0, .none, .none] }) (s.heap.objs.size + 1) s.heap.objs.size 0 .none := by
    have := Heap.get?_push_size (s.heap.push { cls := .type "tuple_iterator", data := .fields #[.ref l, .int 0 0] })
      (o := { cls := .type "enumerate", data := .fields #[.none, .bool false, .ref s.heap.objs.size, rawInt 0, .none, .none] }) rfl
    rw [hz] at this; exact this
  exact ⟨⟨_, he, rfl⟩, h _ he ⟨_, Heap.get?_push_of_some _ (Heap.get?_push_size _ rfl), rfl, rfl⟩ fun b o x => Heap.get?_push_of_some _ (Heap.get?_push_of_some _ x)⟩
theorem drawsT {prog : Program} {w : World} {A : Around} (hh : A.handled = none) (it l : Addr) (hne : l ≠ it) (items : Array Value) :
    Draws prog w A it [it, l] items.size (fun i v => items[i]? = some v) (fun i h => h.IsTupleIter it l i ∧ h.IsTuple l items) where
  live := fun _ _ st => let ⟨o, ho, _⟩ := st.1; ⟨o, ho⟩
  frame := fun _ _ _ st hk => ⟨st.1.at fun o e => hk it (by simp) o e, let ⟨o, ho, r⟩ := st.2; ⟨o, hk l (by simp) o ho, r⟩⟩
  item := fun i s Q E hi st hQ => by
    refine wpAny_nextOf_tuple_item st.1 st.2 (x := items[i]) (by simp [hi]) fun h' hit' hs' => ?_
    exact hQ _ h' s.toks (by simp [hi]) ⟨hit', st.2.extBut hs'.extBut hne⟩ hs'
  done := fun s Q E st hE => wpAny_nextOf_tuple_end hh st.1 st.2 (by simp) hE
/-- the tuple at a, each item in a new pair -/
def IteT (K : PySem.W.Frag) (a : Addr) : It :=
  ⟨fun i H => ∃ (xs : List V) (x : V), SqT K H a xs ∧ xs[i]? = some x, fun i H v H' => ∃ T x, v = .ref T ∧ H T = none ∧ H' = upd H T (.tup [.int (i : Nat), x]) ∧ ∀ xs, SqT K H a xs → xs[i]? = some x, fun i H => ∃ xs : List V, SqT K H a xs ∧ xs.length ≤ i⟩
theorem turn_enumT {P : Program} {w : World} {K : PySem.W.Frag} {elts : List Expr} {kk : Nat} {tpos : Pos} (a e it : Addr) (xs0 : List V) (items : Array Value) :
    Turn P w K (.Tuple elts kk tpos) (IteT K a) [e, it] e (fun i h => (∃ old, IsEnum h e it ((i : Nat) : Int) old) ∧ h.IsTupleIter it a i ∧ e ≠ it) where
  mem := by simp
  obj := fun i h st b hb => by
    obtain ⟨⟨old, he⟩, ⟨o, ho, hc, hd⟩, _⟩ := st
    have e' : b = e ∨ b = it := by simpa using hb
    rcases e' with z | z
    · rw [z]; exact ⟨_, he, fun v q => nomatch q⟩
    · rw [z]; exact ⟨o, ho, fun v q => by rw [hd] at q; cases q⟩
  keep := fun i h h' st k => let ⟨⟨old, he⟩, hi, hne⟩ := st; ⟨⟨old, k e (by simp) _ he⟩, hi.at fun o q => k it (by simp) o q, hne⟩
  item := by
    intro X hP hw hK hc i pins s σ H E I hf st hg
    subst hP hw hK
    obtain ⟨⟨old, he⟩, hit, hne⟩ := st
    obtain ⟨xs, x, hq, hx⟩ := hg
    obtain ⟨its, rv, p, hz⟩ := I.tuple hq
    obtain ⟨u, hu, ru⟩ := rv.get hx
    have hel : e < s.heap.objs.size := Heap.lt_size he
    have hil : it < s.heap.objs.size := by obtain ⟨_, q, _⟩ := hit; exact Heap.lt_size q
    have hia : a ≠ it := by
      rintro rfl
      obtain ⟨o1, h1, c1, _⟩ := hit
      obtain ⟨o2, h2, c2, _⟩ := p
      rw [h1] at h2
      cases h2
      rw [c1] at c2
      exact absurd c2 (by decide)
    have hea : e ≠ a := by
      rintro rfl
      obtain ⟨o2, h2, c2, n2, d2⟩ := p
      have h1 := he
      unfold IsEnum at h1
      rw [h1] at h2
      cases h2
      exact nomatch (show Value.type "enumerate" = Value.type "tuple" from c2)
    have hlt : i < its.toArray.size := by
      have := (List.getElem?_eq_some_iff.mp hu).1
      simpa using this
    refine wpAny_pyNext_enum_itemD (drawsT (show X.A.in1.handled = none from I.ok.hd hc) it a hia its.toArray) he ⟨hit, p⟩ hlt hne (by simp; exact ⟨hne, hea⟩) fun u' h' tk hP ho st' hT hsz hk => ?_
    obtain ⟨hit', _⟩ := st'
    have eu : u' = u := by
      have h1 : its.toArray[i]? = some u := by simpa using hu
      rw [h1] at hP
      exact (Option.some.inj hP).symm
    subst eu
    refine ⟨_, rfl, wpAny_letOwnedTupleGo_enum (s := { s with heap := h', toks := tk + 1 }) ho fun h'' he' sb => ?_⟩
    have hT2 : h''.get? s.heap.objs.size = some { cls := .type "tuple", data := .seq #[.int i tk, u'] } := (sb.2 _ (Nat.ne_of_gt hel)).trans hT
    have new : ObjOk X.prog X.w (upd H s.heap.objs.size (.tup [.int (i : Nat), x])) h'' s.heap.objs.size (.tup [.int (i : Nat), x]) :=
      ⟨by show 2 ≤ sizeLine; decide, [.int i tk, u'], .cons ⟨_, rfl⟩ (.cons ru .nil), ⟨_, hT2, rfl, _, rfl⟩⟩
    have I1 : Inv X pins σ (upd H s.heap.objs.size (.tup [.int (i : Nat), x])) { s with heap := h'', toks := tk + 1 } :=
      I.turnedNew (ch := [e, it]) (fun b ob hb q => (sb.2 b (fun z => hb (by simp [z]))).trans (hk b ob (fun z => hb (by simp [z])) (fun z => hb (by simp [z])) q)) hf (Nat.le_refl _) new
    refine ⟨.ref s.heap.objs.size, _, I1, rfl, ⟨_, x, rfl, I.hok.fresh (Nat.le_refl _), rfl, fun ys hy => by rw [I.tuple_inj hy hq]; exact hx⟩, ⟨⟨u', ?_⟩, hit'.at fun o q => (sb.2 it (Ne.symm hne)).trans q, hne⟩, fun b hb => ?_⟩
    · have e1 : ((i + 1 : Nat) : Int) = (i : Int) + 1 := by omega
      rw [e1]; exact he'
    · have hb' : b < s.heap.objs.size := by
        have e' : b = e ∨ b = it := by simpa using hb
        rcases e' with z | z
        · rw [z]; exact hel
        · rw [z]; exact hil
      rw [upd_ne (Nat.ne_of_lt hb')]
      exact (hf b hb).1
  done := by
    intro X hP hw hK hc i pins s σ H E I hf st hg
    subst hP hw hK
    obtain ⟨⟨old, he⟩, hit, hne⟩ := st
    obtain ⟨xs, hq, hx⟩ := hg
    obtain ⟨its, rv, p, hz⟩ := I.tuple hq
    obtain ⟨f0, f1, f2, f3, f4, f5⟩ := hf it (by simp)
    have hl := rv.length
    have hT : s.TypeIs (.ref e) "enumerate" := ⟨_, he, rfl⟩
    have hn : its.toArray[i]? = none := Array.getElem?_eq_none (by simp; omega)
    have fin : ∀ h', Heap.ExtBut it s.heap h' → Inv X pins σ H { s with heap := h' } := fun h' eb => I.turned (t' := s.toks) (fun b o hb q => eb b o hb q) f0 f1 f3 f4 f5
    unfold pyNext
    refine wpAny_bind (wpAny_attempt (wpAny_callSpecial?_slot (name := Str.ofString "__next__") hT F.slot_enumerate_next
      (wpAny_call_entry F.slot_enumerate_next hT F.entry_enumerate_next ?_ (F.args_enumerate_next_1 _))))
    show wpAny _ _ (field (.ref e) 2 >>= _) _ _ _
    refine wpAny_bind (wpAny_field he rfl (x := .ref it) rfl ?_)
    refine wpAny_bind (wpAny_nextOf_tuple_end (I.ok.hd hc) hit p hn fun h' z he' hx' => ?_)
    obtain ⟨o, ho, hc'⟩ := hx'
    refine wpAny_bind (wpAny_isInstance (T := "StopIteration") (b := true) ⟨o, ho, hc'⟩ isSubtype_stop ?_)
    exact wpAny_pure ⟨rfl, fin h' he'⟩
  self := fun A i s Q E st h => let ⟨⟨_, he⟩, _⟩ := st; wpAny_pyIter_enum he h
/-- enumerate of a list or a tuple -/
def iEnumE (K : PySem.W.Frag) (ta : TA) : TI := fun σ H R => ta σ H fun vs H1 => ∃ a xs, vs = [.ref a] ∧ ((SqL K H1 a xs ∧ R (Ite K a) H1) ∨ (SqT K H1 a xs ∧ R (IteT K a) H1))
theorem pi_enumE {X : Cx} (K : PySem.W.Frag) {e : Expr} {ta : TA} {p pos tpos : Pos} {elts : List Expr} {kk : Nat} (hg : Gl X "enumerate") (hm : X.mg "enumerate" = none) (ha : PA X [e] ta) (hs : starEach [e] X.env = [(false, eval e X.env)] := by rfl) (hK : X.K = K := by rfl) :
    PI X (.Tuple elts kk tpos) (.Call (.Name "enumerate" p) [e] [] pos) (iEnumE K ta) := by
  subst hK
  refine ⟨fun pins s σ H R I h => ?_⟩
  refine Call_ (ld_blt I hg hm boot_enumerate (PyProof.Rows.callWith_type1 (thn (ha.run pos pins s σ H _ I h) fun us s1 ⟨vs, H1, I1, r1, q1⟩ => ?_) hs rfl))
  obtain ⟨a, xs, ex, q⟩ := q1
  subst ex
  cases r1 with
  | cons r rr =>
    cases rr
    cases r
    have hle : ∀ b, b ∈ [s1.heap.objs.size + 1, s1.heap.objs.size] → s1.heap.objs.size ≤ b := fun b hb => by
      have e' : b = s1.heap.objs.size + 1 ∨ b = s1.heap.objs.size := by simpa using hb
      rcases e' with z | z
      · rw [z]; exact Nat.le_add_right _ _
      · rw [z]; exact Nat.le_refl _
    rcases q with ⟨hq, q⟩ | ⟨hq, q⟩
    · obtain ⟨its, rv, p', hz⟩ := I1.list hq
      refine call_enumerate_list p'.isList fun h' he hit hsz hk => wpAny_pyIter_enum he ?_
      exact ⟨s1.heap.objs.size + 1, [s1.heap.objs.size + 1, s1.heap.objs.size], _, _, H1, rfl, I1.kept (t' := s1.toks) hk, turn_enum a (s1.heap.objs.size + 1) s1.heap.objs.size, ⟨⟨.none, he⟩, hit, Nat.succ_ne_self _⟩, fun b hb => I1.fpOk (hle b hb) (I1.hok.fresh (hle b hb)), q⟩
    · obtain ⟨its, rv, p', hz⟩ := I1.tuple hq
      refine call_enumerate_tuple p' fun h' he hit hk => wpAny_pyIter_enum he ?_
      exact ⟨s1.heap.objs.size + 1, [s1.heap.objs.size + 1, s1.heap.objs.size], _, _, H1, rfl, I1.kept (t' := s1.toks) hk, turn_enumT a (s1.heap.objs.size + 1) s1.heap.objs.size [] #[], ⟨⟨.none, he⟩, hit, Nat.succ_ne_self _⟩, fun b hb => I1.fpOk (hle b hb) (I1.hok.fresh (hle b hb)), q⟩
/-- a for over enumerate(tuple) -/
theorem for_enumT {K : PySem.W.Frag} {a : Addr} {xs : List V} {g : TG} {tb : TS} {D : Ends} {σ : L2.St} {H : Hp} (Pv : Nat → L2.St → Hp → Prop) (h0 : Pv 0 σ H) (hl : ∀ i σ H, i ≤ xs.length → Pv i σ H → SqT K H a xs)
    (hs : ∀ i x σ H T, xs[i]? = some x → Pv i σ H → H T = none → g (.ref T) σ (upd H T (.tup [.int (i : Nat), x])) fun σ2 H2 => tb { D with nx := Pv (i + 1), ct := Pv (i + 1), bk := D.nx } σ2 H2) (hd : ∀ σ H, Pv xs.length σ H → D.nx σ H) : ForJ (IteT K a) g tb D σ H := by
  refine for_it (J := IteT K a) (n := xs.length) (G := fun H => SqT K H a xs) (Y := fun i H v H' => ∃ T x, v = .ref T ∧ H T = none ∧ H' = upd H T (.tup [.int (i : Nat), x]) ∧ xs[i]? = some x)
    ⟨fun i H hi h => ⟨xs, xs[i], h, List.getElem?_eq_getElem hi⟩, fun H h => ⟨xs, h, Nat.le_refl _⟩, fun i H x H' hi h y => by obtain ⟨T, z, e1, e2, e3, e4⟩ := y; exact ⟨T, z, e1, e2, e3, e4 xs h⟩⟩ Pv h0 hl ?_ hd
  rintro i v σ H H' hi p ⟨T, x, rfl, hT, rfl, hx⟩
  exact hs i x σ H T hx p hT

end M
namespace M
open PySem PySem.Spec PyProof.Rows L2 Evl MS
/-! a def called with some of its defaults left out -/
structure FnD (P : Program) (w : World) (K : PySem.W.Frag) (mg : Str → Option Value) (base : Heap) (CX : CXT) (k : Nat) (x : Str) (sp : Sp) (dvs : List V) : Prop where
  ex : ∃ (f : Addr) (fd : FuncData) (ps : List Str) (ds : List Value), FnOk P w K mg base CX k f fd ps sp ∧ mg x = some (.ref f) ∧ PySem.W.keepIn K (.ref f) = true ∧ Binds K fd ps ds ∧ Vals dvs ds
theorem pcD {X : Cx} {CX : CXT} {k j : Nat} {x : Str} {sp : Sp} {dvs : List V} {E : XK} {p pos : Pos} {e : Expr} {es : List Expr} {t : TA} (c : FnD X.prog X.w X.K X.mg X.base CX k x sp dvs) (hr : Room j X.A) (hk : k ≤ j) (hx : Passes CX X E) (hg : Gl X x) (ha : PA X (e :: es) t)
    (hdb : (x == ("__debug__" : Str)) = false := by decide) (he : starEach (e :: es) X.env = (false, eval e X.env) :: starEach es X.env := by rfl) (hpl : (backTo pos (starEach es X.env)).any (·.1) = false := by rfl) :
    PE X (.Call (.Name x p) (e :: es) [] pos) (tCall sp dvs E t) := by
  obtain ⟨f, fd, ps, ds, F, hm, hkp, hb, hd⟩ := c.ex
  exact pe_call F (hr.mono hk) hg hm hkp hb hd hx ha hdb he hpl
theorem w_callD {σ : L2.St} {H : Hp} {Q : VK} {sp : Sp} {dvs : List V} {E : XK} {t : TA} (h : t σ H fun vs H1 => sp (vs ++ dvs) H1 Q E) : tCall sp dvs E t σ H Q := h

end M
namespace M
open PySem PySem.Spec PyProof.Rows L2 Evl MS
--@import HandS.Deep
--@import KE.DataFind
/-! t.count(x) of a tuple; x in t of a tuple, by data -/
def rCountT (K : PySem.W.Frag) : V → List V → Hp → VK → Prop := fun x xs H Q => ∃ (a : Addr) (y : V) (d : PyData) (ds : List PyData), x = V.ref a ∧ xs = [y] ∧ Dp K H (V.ref a) (.tuple ds) ∧ Dp K H y d ∧ SeqAt.shaped (.tuple ds) = true ∧ SeqAt.shaped d = true ∧ Q (.int ((ds.countP fun z => PyData.eqv z d : Nat) : Int)) H
theorem mt_countT {X : Cx} (hu : X.A.units + 65 < cLine) : MtR X "tuple.count" (rCountT X.K) := by
  intro pins s σ H x xs v us Q I rx rxs h
  obtain ⟨a, y, d, ds, rfl, rfl, hl, hy, sl, sd, q⟩ := h
  cases rx
  cases rxs with
  | cons ry rt =>
    rename_i uy ut
    cases rt
    obtain ⟨bs, r1⟩ := Dp.reads I d y uy hy ry
    have hxs : PyData.canLayAll0 ds = true := SeqAt.canLay_of_shaped sl
    have hroom : X.A.units + 1 + min (PyData.depthAll ds) d.depth < cLine := by
      have := SeqAt.depth_of_shaped sd
      omega
    cases hl with
    | tup hs ha =>
      obtain ⟨its, rv, p, hlen⟩ := I.tuple hs
      obtain ⟨as, h4⟩ := Dp.readsAll I ds _ its ha rv
      exact SeqAt.count_tuple_data p (show ReadsAll s.heap its.toArray.toList ds as from h4) r1 (PyData.plainAll_of_canLay0 ds hxs) (PyData.plain_of_canLay0 d (SeqAt.canLay_of_shaped sd)) hroom ⟨.int _, H, I.tok _, ⟨_, rfl⟩, q⟩
theorem kCountT (K : PySem.W.Frag) {X : Cx} {j : Nat} (hr : Room j X.A) (h : X.K = K := by rfl) : MtR X "tuple.count" (rCountT K) := by subst h; exact mt_countT (by have := hr.un; omega)
def rInT (K : PySem.W.Frag) : R2 := fun x y H Q => ∃ d ds, Dp K H x d ∧ Dp K H y (.tuple ds) ∧ SeqAt.shaped d = true ∧ SeqAt.shaped (.tuple ds) = true ∧ Q (.bl (ds.any fun z => PyData.eqv z d)) H
theorem op_inT {X : Cx} (hu : X.A.units + 65 < cLine) : OpR X (compareOp .In) (rInT X.K) := by
  intro pins s σ H x y v u Q I rx ry h
  obtain ⟨d, ds, hd, he, sd, se, q⟩ := h
  obtain ⟨as, r1⟩ := Dp.reads I d x v hd rx
  obtain ⟨bs, r2⟩ := Dp.reads I (.tuple ds) y u he ry
  exact SeqAt.in_tuple_reads r2 r1 (SeqAt.canLay_of_shaped se) (SeqAt.canLay_of_shaped sd) (room_in_shaped sd hu) ⟨.bl _, H, I, rfl, q⟩
theorem kInT (K : PySem.W.Frag) {X : Cx} {j : Nat} (hr : Room j X.A) (h : X.K = K := by rfl) : OpR X (compareOp .In) (rInT K) := by subst h; exact op_inT (by have := hr.un; omega)

end M
namespace M
open PySem PySem.Spec PyProof.Rows L2 Evl MS
--@import HandS.Text
/-! a text parted at the first sign -/
def rPart : V → List V → Hp → VK → Prop := fun x xs H Q => ∃ a b, x = .str a ∧ xs = [.str b] ∧ (b.length == 0) = false ∧ a.length ≤ sizeLine ∧ ∀ p, H p = none → Q (.ref p) (upd H p (.tup [.str (Txt.partition a b).1, .str (Txt.partition a b).2.1, .str (Txt.partition a b).2.2]))
section
variable {X : Cx} {o e : Expr} {to te : TE} {apos pos : Pos}
theorem xPart (ho : PE X o to) (he : PE X e te) (hs : starEach [e] X.env = [(false, eval e X.env)] := by rfl) (hbase : attributeBase o "partition" X.env (eval o X.env) = eval o X.env := by rfl) (hline : (apos.endLine == pos.line) = true := by rfl) :
    PE X (.Call (.Attribute o "partition" apos) [e] [] pos) (tM1 rPart to te) := pe_partition ho he hs hbase hline
end
theorem r_part {a b : Str} {H : Hp} {Q : VK} (hb : (b.length == 0) = false) (hz : a.length ≤ sizeLine) (q : ∀ p H1, H p = none → Ex H H1 → H1 p = some (.tup [.str (Txt.partition a b).1, .str (Txt.partition a b).2.1, .str (Txt.partition a b).2.2]) → Q (.ref p) H1) : rPart (.str a) [.str b] H Q :=
  ⟨a, b, rfl, rfl, hb, hz, fun p hp => q p _ hp (Ex.new hp) upd_same⟩

end M
namespace M
open PySem PySem.Spec PyProof.Rows L2 Evl MS
--@import HandS.HeadHook3
--@import HandS.More
/-! dicts of the module: keys text, values numbers -/
abbrev AlMT : Type := AlM × List (Option (List (Option (Str × Int))))
def obsMT (fa : List He.Fa) (fn : List DX) (ex : PySem.W.Frag → Bool) (ts : List He.Tab) (K : PySem.W.Frag) : AlMT := (obsM fa fn ex K, ts.map fun t => He.dicW K (t.1 K))
def valMT (fn : List DX) (ts : List He.Tab) (w : World) : AlMT := (valM fn, ts.map fun t => some (He.keysIn w.params t.2))
def SaysMT (fa : List He.Fa) (fn : List DX) (ex : PySem.W.Frag → Bool) (ts : List He.Tab) (w : World) (K : PySem.W.Frag) : Prop := obsMT fa fn ex ts K = valMT fn ts w
def obsMTG (n : Nat) (fa : List He.Fa) (fn : List DX) (ex : PySem.W.Frag → Bool) (ts : List He.Tab) (g : Addr → Option Obj) : AlMT := obsMT fa fn ex ts (He.frG g (asX g n))
def hookMT (n : Nat) (fa : List He.Fa) (fn : List DX) (ex : PySem.W.Frag → Bool) (ts : List He.Tab) : PySem.W.Hook where
  α := AlMT
  obs := fun s => obsMTG n fa fn ex ts s.heap.get?
  val := fun w => valMT fn ts w
  says := fun w h => ∃ K : PySem.W.Frag, K.In h ∧ SaysMT fa fn ex ts w K
  of := fun _ _ e => ⟨_, He.frG_in, e⟩
  keeps := fun _ _ _ ⟨K, hK, c⟩ k => ⟨K, PySem.W.Frag.In.keeps hK k, c⟩
theorem obsMTG_eq {n : Nat} {fa : List He.Fa} {fn : List DX} {ex : PySem.W.Frag → Bool} {ts : List He.Tab} {g : Addr → Option Obj} {s : Shared} (h : ∀ a, g a = s.heap.get? a) : obsMTG n fa fn ex ts g = (hookMT n fa fn ex ts).obs s := by
  rw [show g = s.heap.get? from funext h] <;> rfl
section
variable {fa : List He.Fa} {fn : List DX} {ex : PySem.W.Frag → Bool} {ts : List He.Tab} {w : World} {K : PySem.W.Frag}
theorem SaysMT.m (c : SaysMT fa fn ex ts w K) : SaysM fa fn ex K := congrArg (fun z : AlMT => z.1) c
theorem SaysMT.tab (c : SaysMT fa fn ex ts w K) (i : Nat) {t : He.Tab} (h : ts[i]? = some t := by rfl) : He.dicW K (t.1 K) = some (He.keysIn w.params t.2) := by
  have e : ts.map (fun t => He.dicW K (t.1 K)) = ts.map fun t => some (He.keysIn w.params t.2) := congrArg (fun z : AlMT => z.2) c
  have e2 : (ts.map fun t => He.dicW K (t.1 K))[i]? = (ts.map fun t => some (He.keysIn w.params t.2))[i]? := by rw [e]
  rw [List.getElem?_map, List.getElem?_map, h] at e2
  exact Option.some.inj e2
end
/-- a table of the module -/
structure TabOk (K : PySem.W.Frag) (w : World) (d : Addr) (kvs : List (Str × Int)) : Prop where
  kd : ∃ es n, KDict K w d es n
  get : ∀ z v, kvs.lookup z = some v → ∃ u, PySem.W.nsIn K d z = some (some u) ∧ RelV (.int v) u
  no : ∀ z, kvs.lookup z = none → PySem.W.nsIn K d z = some none
theorem keyOf_str {P : Params} : ∀ {l : List DictEntry} {ks : List Str} {z : Str}, l.map He.keyOf = He.keysIn P ks → z ∉ ks → (l.find? fun e => e.key.isStr z) = none ∧ (l.any fun e => e.refKey) = false
  | [], _, _, _, _ => ⟨rfl, rfl⟩
  | e :: r, [], _, h, _ => by cases h
  | e :: r, k :: ks, z, h, hz => by
    have h1 : He.keyOf e :: r.map He.keyOf = some (k, PyData.keyHash P k) :: He.keysIn P ks := h
    injection h1 with h2 h3
    obtain ⟨i1, i2⟩ := keyOf_str (z := z) h3 fun m => hz (List.mem_cons_of_mem _ m)
    unfold He.keyOf at h2
    split at h2
    · rename_i x t q
      have h4 := Option.some.inj h2
      obtain ⟨h5, h6⟩ := Prod.mk.inj h4
      have n1 : e.key.isStr z = false := by
        rw [q]
        show decide (x = z) = false
        rw [h5]
        exact decide_eq_false fun e => hz (by rw [← e]; exact List.mem_cons_self)
      have n2 : e.refKey = false := by
        unfold DictEntry.refKey
        rw [q]
      refine ⟨?_, ?_⟩
      · rw [List.find?_cons, n1]
        exact i1
      · rw [List.any_cons, n2, i2]
        rfl
    · cases h2
theorem dicW_no {K : PySem.W.Frag} {w : World} {a : Addr} {ks : List Str} (h : He.dicW K a = some (He.keysIn w.params ks)) {z : Str} (hz : z ∉ ks) : PySem.W.nsIn K a z = some none := by
  obtain ⟨es, n, kd⟩ := He.dicW_ok h
  have h2 : He.dicW K a = some (es.toList.map He.keyOf) := by
    unfold He.dicW
    rw [kd.at_]
    show (match decide (("dict" : String) = "dict") && ((#[] : Array (Option Value)).isEmpty && !(a == sysModules)) with
      | true => some (es.toList.map He.keyOf)
      | false => none) = _
    rw [kd.low]
    rfl
  rw [h2] at h
  obtain ⟨a1, a2⟩ := keyOf_str (Option.some.inj h) hz
  unfold PySem.W.nsIn
  rw [kd.at_]
  show (match es.toList.find? (fun e => e.key.isStr z) with
    | some e => some (some e.val)
    | none => if (es.toList.any fun e => e.refKey) = true then none else some none) = _
  rw [a1, a2]
  rfl
theorem tab_ok {K : PySem.W.Frag} {w : World} {d : Addr} {ks : List Str} {kvs : List (Str × Int)} (h : He.dicW K d = some (He.keysIn w.params ks)) (hk : ks = kvs.map (·.1)) (hv : He.valsB K d (kvs.map fun q => (q.1, He.Dv.int q.2)) = true) : TabOk K w d kvs := by
  refine ⟨He.dicW_ok h, fun z v e => ?_, fun z e => dicW_no h ?_⟩
  · have m : (z, v) ∈ kvs := by
      clear h hk hv
      induction kvs with
      | nil => cases e
      | cons q r ih =>
        rw [List.lookup_cons] at e
        split at e
        · rename_i q1
          cases e
          rw [show z = q.1 from eq_of_beq q1]
          exact List.mem_cons_self
        · exact List.mem_cons_of_mem _ (ih e)
    have := He.valsB_ok hv (q := (z, He.Dv.int v)) (List.mem_map.mpr ⟨(z, v), m, rfl⟩)
    exact this
  · rw [hk]
    intro m
    obtain ⟨q, hq, rfl⟩ := List.mem_map.mp m
    clear h hk hv m
    induction kvs with
    | nil => cases hq
    | cons p r ih =>
      rw [List.lookup_cons] at e
      split at e
      · cases e
      · rename_i q1
        rcases List.mem_cons.mp hq with rfl | hq
        · rw [beq_self_eq_true] at q1
          cases q1
        · exact ih hq e
def rInTab (d : Addr) (kvs : List (Str × Int)) : R2 := fun x y H Q => ∃ z, x = .str z ∧ y = .ref d ∧ Q (.bl (kvs.lookup z).isSome) H
def rIxTab (d : Addr) (kvs : List (Str × Int)) : R2 := fun x y H Q => ∃ z v, x = .ref d ∧ y = .str z ∧ kvs.lookup z = some v ∧ Q (.int v) H
section
variable {X : Cx} {d : Addr} {kvs : List (Str × Int)}
theorem kInTab {K : PySem.W.Frag} {w : World} (T : TabOk K w d kvs) (h : X.K = K := by rfl) (hw : X.w = w := by rfl) : OpR X (compareOp .In) (rInTab d kvs) := by
  subst h hw
  obtain ⟨es, n, kd⟩ := T.kd
  intro pins s σ H x y v u Q I rx ry q
  obtain ⟨z, rfl, rfl, q⟩ := q
  cases e : kvs.lookup z with
  | none =>
    rw [e] at q
    exact op_in_kd kd pins s σ H _ _ v u Q I rx ry ⟨z, none, rfl, rfl, T.no z e, q⟩
  | some v0 =>
    rw [e] at q
    obtain ⟨u0, e0, _⟩ := T.get z v0 e
    exact op_in_kd kd pins s σ H _ _ v u Q I rx ry ⟨z, some u0, rfl, rfl, e0, q⟩
theorem kIxTab {K : PySem.W.Frag} {w : World} (T : TabOk K w d kvs) (h : X.K = K := by rfl) (hw : X.w = w := by rfl) : IxR X (rIxTab d kvs) := by
  subst h hw
  obtain ⟨es, n, kd⟩ := T.kd
  intro value slice pins s σ H x y v u Q I rx ry q hs
  obtain ⟨z, v0, rfl, rfl, e, q⟩ := q
  obtain ⟨u0, e0, r0⟩ := T.get z v0 e
  exact ix_kdict value slice pins s σ H _ _ v u Q I rx ry ⟨d, z, .int v0, rfl, rfl, ⟨es, n, u0, kd.at_, kd.lit, e0, r0⟩, q⟩ hs
end

end M
namespace M
open PySem PySem.Spec PyProof.Rows L2 Evl MS
--@import HandS.TryMany
--@import HandS.RaiseMore
--@import HandS.Dict
/-! try with clauses that keep no name -/
def tTryN (K : PySem.W.Frag) (l : List (Value × (Addr → Value → Option Addr → TS))) (tb : WX → TS) : TS := fun D σ H => tb (wMany K (fun _ _ _ _ => False) D l) D σ H
theorem ptrymany (K : PySem.W.Frag) {X : Cx} {body : List Stmt} {h₀ : ExceptHandler} {hds : List ExceptHandler} {l : List (Value × (Addr → Value → Option Addr → TS))} {pos : Pos} {tb : WX → TS}
    (hs : X.stack = X.env :: X.outer) (hf : X.env.frame = some X.env.locals)
    (hb : ∀ (W : WX) (pn : List (Addr × Obj)) (xe : Value → Shared → Prop), Takes (X.tr pn xe) W → PassesOwn (model X.prog X.w) X.A X.env xe → PSs (X.tr pn xe) body (tb W))
    (hh : HdsOk X (h₀ :: hds) l) (hK : X.K = K := by rfl) : PS X (.Try body (h₀ :: hds) [] [] pos) (tTryN K l tb) := by
  subst hK
  exact ps_try_many hs hf takes_none5 hb hh
theorem w_tryN {K : PySem.W.Frag} {l : List (Value × (Addr → Value → Option Addr → TS))} {tb : WX → TS} {D : Ends} {σ : L2.St} {H : Hp} (h : tb (wMany K (fun _ _ _ _ => False) D l) D σ H) : tTryN K l tb D σ H := h
/-! str of a number or of a text -/
def rStrU : List V → Hp → VK → Prop := fun xs H Q => (∃ i, xs = [.int i] ∧ i.natAbs.log2 < 1920 ∧ Q (.str (toString i)) H) ∨ ∃ a, xs = [.str a] ∧ Q (.str a) H
theorem xStrU {X : Cx} : CallR X (.type "str") rStrU := CallR.or call_str_int SkE.call_str_str
theorem r_strU {i : Int} {H : Hp} {Q : VK} (hz : i.natAbs.log2 < 1920) (q : Q (.str (toString i)) H) : rStrU [.int i] H Q := .inl ⟨i, rfl, hz, q⟩
theorem r_strUS {a : Str} {H : Hp} {Q : VK} (q : Q (.str a) H) : rStrU [.str a] H Q := .inr ⟨a, rfl, q⟩
/-! dict displays -/
theorem w_disp {trs : List (TE × TE)} {σ : L2.St} {H : Hp} {Q : VK} (h : ∀ p, H p = none → tPairs trs σ (upd H p (.dK [])) fun ps H2 => H2 p = some (.dK []) ∧ ∃ kvs : List (Key × V), ps = kvs.map (fun kv => (kV kv.1, kv.2)) ∧ kvs.length ≤ 15 ∧ Q (.ref p) (upd H2 p (.dK (mergeK [] kvs)))) : tDisp trs σ H Q := h

end M
namespace M
open PySem PySem.Spec PyProof.Rows L2 Evl MS
--@import HandS.Text
--@import HandS.Codes
/-! more of texts: +, slices, a sign in a text; own exceptions whose text is an f-string of a number -/
def rAddS : V → V → Hp → VK → Prop := fun x y H Q => ∃ i j, x = .str i ∧ y = .str j ∧ i.length + j.length ≤ sizeLine ∧ Q (.str (i ++ j)) H
theorem xAddS {X : Cx} : OpR X (binaryOp .Add) rAddS := op_add_str
def rSlS1 : V → Option Int → Option Int → Hp → VK → Prop := rSlS
theorem xSlS {X : Cx} : SlR X rSlS1 := sl_str
def rInSg : V → V → Hp → VK → Prop := fun x y H Q => ∃ (c : Nat) (z : Str), x = .str ⟨#[c]⟩ ∧ y = .str z ∧ Q (.bl (decide (c ∈ z.cps.toList))) H
theorem xInSg {X : Cx} : OpR X (compareOp .In) rInSg := op_in_sign
section
variable {H : Hp} {Q : VK}
theorem r_addS {i j : Str} (hz : i.length + j.length ≤ sizeLine) (q : Q (.str (i ++ j)) H) : rAddS (.str i) (.str j) H Q := ⟨i, j, rfl, rfl, hz, q⟩
theorem r_inSg {c : Nat} {z : Str} (q : Q (.bl (decide (c ∈ z.cps.toList))) H) : rInSg (.str ⟨#[c]⟩) (.str z) H Q := ⟨c, z, rfl, rfl, q⟩
theorem cutS_to {z : Str} {k : Nat} : cutS z none (some (k : Int)) = ⟨(z.cps.toList.take k).toArray⟩ := by
  have hl : z.length = z.cps.toList.length := by rw [Array.length_toList]; rfl
  unfold cutS
  rw [HT.sIx_none, HT.sIx_nat, Nat.sub_zero, List.drop_zero, hl]
  by_cases h : k ≤ z.cps.toList.length
  · rw [Nat.min_eq_left h]
  · rw [Nat.min_eq_right (by omega), List.take_length, List.take_of_length_le (by omega)]
theorem cutS_from {z : Str} {k : Nat} : cutS z (some (k : Int)) none = ⟨(z.cps.toList.drop k).toArray⟩ := by
  have hl : z.length = z.cps.toList.length := by rw [Array.length_toList]; rfl
  unfold cutS
  rw [HT.sIx_none, HT.sIx_nat, hl]
  by_cases h : k ≤ z.cps.toList.length
  · rw [Nat.min_eq_left h, List.take_of_length_le (by rw [List.length_drop]; omega)]
  · rw [Nat.min_eq_right (by omega), List.drop_length, List.drop_eq_nil_of_le (by omega)]
    simp
theorem r_slSto {z : Str} {k : Nat} (hz : z.length ≤ sizeLine) (q : Q (.str ⟨(z.cps.toList.take k).toArray⟩) H) : rSlS1 (.str z) none (some (k : Int)) H Q := ⟨z, rfl, hz, by rw [cutS_to]; exact q⟩
theorem r_slSfrom {z : Str} {k : Nat} (hz : z.length ≤ sizeLine) (q : Q (.str ⟨(z.cps.toList.drop k).toArray⟩) H) : rSlS1 (.str z) (some (k : Int)) none H Q := ⟨z, rfl, hz, by rw [cutS_from]; exact q⟩
end

end M
namespace M
open PySem PySem.Spec PyProof.Rows L2 Evl MS
def top (i : Nat) : Stmt := PySem.Challenge.pw_rosterneed_k29_whole_webs_read.main.body.getD i (.Pass ⟨0, 0, 0, 0⟩)
def mainFile : Str := PySem.Challenge.pw_rosterneed_k29_whole_webs_read.main.file
abbrev s_is_integer : Stmt := top 16
def d_is_integer : DX := ⟨fun K => He.ga K "is_integer", "is_integer", "is_integer", defArgs s_is_integer, defBody s_is_integer, defScope s_is_integer, [], false⟩
abbrev s_is_listed : Stmt := top 17
def d_is_listed : DX := ⟨fun K => He.ga K "is_listed", "is_listed", "is_listed", defArgs s_is_listed, defBody s_is_listed, defScope s_is_listed, [], false⟩
abbrev s_deep : Stmt := top 18
def d_deep : DX := ⟨fun K => He.ga K "deep", "deep", "deep", defArgs s_deep, defBody s_deep, defScope s_deep, [], false⟩
abbrev s_is_word : Stmt := top 19
def d_is_word : DX := ⟨fun K => He.ga K "is_word", "is_word", "is_word", defArgs s_is_word, defBody s_is_word, defScope s_is_word, [.bl false], false⟩
abbrev s_is_deed : Stmt := top 26
def d_is_deed : DX := ⟨fun K => He.ga K "is_deed", "is_deed", "is_deed", defArgs s_is_deed, defBody s_is_deed, defScope s_is_deed, [], false⟩
abbrev s_is_deeds : Stmt := top 27
def d_is_deeds : DX := ⟨fun K => He.ga K "is_deeds", "is_deeds", "is_deeds", defArgs s_is_deeds, defBody s_is_deeds, defScope s_is_deeds, [], false⟩
abbrev s_is_ways : Stmt := top 28
def d_is_ways : DX := ⟨fun K => He.ga K "is_ways", "is_ways", "is_ways", defArgs s_is_ways, defBody s_is_ways, defScope s_is_ways, [], false⟩
abbrev s_is_row_name : Stmt := top 33
def d_is_row_name : DX := ⟨fun K => He.ga K "is_row_name", "is_row_name", "is_row_name", defArgs s_is_row_name, defBody s_is_row_name, defScope s_is_row_name, [], false⟩
abbrev s_is_unknown_name : Stmt := top 34
def d_is_unknown_name : DX := ⟨fun K => He.ga K "is_unknown_name", "is_unknown_name", "is_unknown_name", defArgs s_is_unknown_name, defBody s_is_unknown_name, defScope s_is_unknown_name, [], false⟩
abbrev s_is_row : Stmt := top 35
def d_is_row : DX := ⟨fun K => He.ga K "is_row", "is_row", "is_row", defArgs s_is_row, defBody s_is_row, defScope s_is_row, [], false⟩
abbrev s_check_givens : Stmt := top 36
def d_check_givens : DX := ⟨fun K => He.ga K "check_givens", "check_givens", "check_givens", defArgs s_check_givens, defBody s_check_givens, defScope s_check_givens, [], false⟩
abbrev s_check_rows : Stmt := top 37
def d_check_rows : DX := ⟨fun K => He.ga K "check_rows", "check_rows", "check_rows", defArgs s_check_rows, defBody s_check_rows, defScope s_check_rows, [], false⟩
abbrev s_check_names : Stmt := top 38
def d_check_names : DX := ⟨fun K => He.ga K "check_names", "check_names", "check_names", defArgs s_check_names, defBody s_check_names, defScope s_check_names, [], false⟩
abbrev s_deeds_text : Stmt := top 43
def d_deeds_text : DX := ⟨fun K => He.ga K "deeds_text", "deeds_text", "deeds_text", defArgs s_deeds_text, defBody s_deeds_text, defScope s_deeds_text, [], false⟩
abbrev s_row_line : Stmt := top 44
def d_row_line : DX := ⟨fun K => He.ga K "row_line", "row_line", "row_line", defArgs s_row_line, defBody s_row_line, defScope s_row_line, [], false⟩
abbrev s_write_web : Stmt := top 45
def d_write_web : DX := ⟨fun K => He.ga K "write_web", "write_web", "write_web", defArgs s_write_web, defBody s_write_web, defScope s_write_web, [], false⟩
abbrev s_read_deeds : Stmt := top 46
def d_read_deeds : DX := ⟨fun K => He.ga K "read_deeds", "read_deeds", "read_deeds", defArgs s_read_deeds, defBody s_read_deeds, defScope s_read_deeds, [], false⟩
abbrev s_read_maker : Stmt := top 47
def d_read_maker : DX := ⟨fun K => He.ga K "read_maker", "read_maker", "read_maker", defArgs s_read_maker, defBody s_read_maker, defScope s_read_maker, [], false⟩
abbrev s_read_row : Stmt := top 48
def d_read_row : DX := ⟨fun K => He.ga K "read_row", "read_row", "read_row", defArgs s_read_row, defBody s_read_row, defScope s_read_row, [], false⟩
abbrev s_read_given : Stmt := top 49
def d_read_given : DX := ⟨fun K => He.ga K "read_given", "read_given", "read_given", defArgs s_read_given, defBody s_read_given, defScope s_read_given, [], false⟩
abbrev s_read_web : Stmt := top 50
def d_read_web : DX := ⟨fun K => He.ga K "read_web", "read_web", "read_web", defArgs s_read_web, defBody s_read_web, defScope s_read_web, [], false⟩
abbrev s__law_source : Stmt := top 52
def d__law_source : DX := ⟨fun K => He.ga K "_law_source", "_law_source", "_law_source", defArgs s__law_source, defBody s__law_source, defScope s__law_source, [], false⟩
abbrev s__law_pick : Stmt := top 53
def d__law_pick : DX := ⟨fun K => He.ga K "_law_pick", "_law_pick", "_law_pick", defArgs s__law_pick, defBody s__law_pick, defScope s__law_pick, [], false⟩
abbrev s__law_truth : Stmt := top 54
def d__law_truth : DX := ⟨fun K => He.ga K "_law_truth", "_law_truth", "_law_truth", defArgs s__law_truth, defBody s__law_truth, defScope s__law_truth, [], false⟩
abbrev s__law_deeds : Stmt := top 55
def d__law_deeds : DX := ⟨fun K => He.ga K "_law_deeds", "_law_deeds", "_law_deeds", defArgs s__law_deeds, defBody s__law_deeds, defScope s__law_deeds, [], false⟩
abbrev s__law_maker : Stmt := top 56
def d__law_maker : DX := ⟨fun K => He.ga K "_law_maker", "_law_maker", "_law_maker", defArgs s__law_maker, defBody s__law_maker, defScope s__law_maker, [], false⟩
abbrev s__law_made : Stmt := top 57
def d__law_made : DX := ⟨fun K => He.ga K "_law_made", "_law_made", "_law_made", defArgs s__law_made, defBody s__law_made, defScope s__law_made, [], false⟩
abbrev s__law_web : Stmt := top 58
def d__law_web : DX := ⟨fun K => He.ga K "_law_web", "_law_web", "_law_web", defArgs s__law_web, defBody s__law_web, defScope s__law_web, [], false⟩
abbrev s__law_built : Stmt := top 59
def d__law_built : DX := ⟨fun K => He.ga K "_law_built", "_law_built", "_law_built", defArgs s__law_built, defBody s__law_built, defScope s__law_built, [], false⟩
abbrev s__law_opened : Stmt := top 60
def d__law_opened : DX := ⟨fun K => He.ga K "_law_opened", "_law_opened", "_law_opened", defArgs s__law_opened, defBody s__law_opened, defScope s__law_opened, [], false⟩
abbrev s__law_line : Stmt := top 61
def d__law_line : DX := ⟨fun K => He.ga K "_law_line", "_law_line", "_law_line", defArgs s__law_line, defBody s__law_line, defScope s__law_line, [], false⟩
abbrev s__law_web_lines : Stmt := top 62
def d__law_web_lines : DX := ⟨fun K => He.ga K "_law_web_lines", "_law_web_lines", "_law_web_lines", defArgs s__law_web_lines, defBody s__law_web_lines, defScope s__law_web_lines, [], false⟩
abbrev s__law_same_web : Stmt := top 63
def d__law_same_web : DX := ⟨fun K => He.ga K "_law_same_web", "_law_same_web", "_law_same_web", defArgs s__law_same_web, defBody s__law_same_web, defScope s__law_same_web, [], false⟩
abbrev s__law_other : Stmt := top 64
def d__law_other : DX := ⟨fun K => He.ga K "_law_other", "_law_other", "_law_other", defArgs s__law_other, defBody s__law_other, defScope s__law_other, [], false⟩
abbrev s_law : Stmt := top 65
def d_law : DX := ⟨fun K => He.ga K "law", "law", "law", defArgs s_law, defBody s_law, defScope s_law, [], false⟩
abbrev s_Maker_init : Stmt := inClass (top 29) 0
def d_Maker_init : DX := ⟨fun K => He.ma K (He.ga K "Maker") "__init__", "__init__", "Maker.__init__", defArgs s_Maker_init, defBody s_Maker_init, defScope s_Maker_init, [], false⟩
abbrev s_Maker_eq : Stmt := inClass (top 29) 1
def d_Maker_eq : DX := ⟨fun K => He.ma K (He.ga K "Maker") "__eq__", "__eq__", "Maker.__eq__", defArgs s_Maker_eq, defBody s_Maker_eq, defScope s_Maker_eq, [], false⟩
abbrev s_Web_init : Stmt := inClass (top 39) 0
def d_Web_init : DX := ⟨fun K => He.ma K (He.ga K "Web") "__init__", "__init__", "Web.__init__", defArgs s_Web_init, defBody s_Web_init, defScope s_Web_init, [], false⟩
abbrev s_Web_eq : Stmt := inClass (top 39) 5
def d_Web_eq : DX := ⟨fun K => He.ma K (He.ga K "Web") "__eq__", "__eq__", "Web.__eq__", defArgs s_Web_eq, defBody s_Web_eq, defScope s_Web_eq, [], false⟩
def fn0 : List DX := [d_is_integer, d_is_listed, d_deep, d_is_word, d_is_deed, d_is_deeds, d_is_ways, d_is_row_name, d_is_unknown_name, d_is_row, d_check_givens, d_check_rows]
def fn1 : List DX := [d_check_names, d_deeds_text, d_row_line, d_write_web, d_read_deeds, d_read_maker, d_read_row, d_read_given, d_read_web, d__law_source, d__law_pick, d__law_truth]
def fn2 : List DX := [d__law_deeds, d__law_maker, d__law_made, d__law_web, d__law_built, d__law_opened, d__law_line, d__law_web_lines, d__law_same_web, d__law_other, d_law, d_Maker_init]
def fn3 : List DX := [d_Maker_eq, d_Web_init, d_Web_eq]
def fn : List DX := fn0 ++ fn1 ++ fn2 ++ fn3
def fa0 : List He.Fa := [.free "abs", .free "all", .free "any", .free "bool", .free "enumerate", .free "int", .free "isinstance", .free "iter", .free "len", .free "list", .free "range", .free "str"]
def fa1 : List He.Fa := [.free "tuple", .glo "is_integer", .glo "is_listed", .glo "deep", .glo "is_word", .glo "is_deed", .glo "is_deeds", .glo "is_ways", .glo "is_row_name", .glo "is_unknown_name", .glo "is_row", .glo "check_givens"]
def fa2 : List He.Fa := [.glo "check_rows", .glo "check_names", .glo "deeds_text", .glo "row_line", .glo "write_web", .glo "read_deeds", .glo "read_maker", .glo "read_row", .glo "read_given", .glo "read_web", .glo "_law_source", .glo "_law_pick"]
def fa3 : List He.Fa := [.glo "_law_truth", .glo "_law_deeds", .glo "_law_maker", .glo "_law_made", .glo "_law_web", .glo "_law_built", .glo "_law_opened", .glo "_law_line", .glo "_law_web_lines", .glo "_law_same_web", .glo "_law_other", .glo "law"]
def fa4 : List He.Fa := [.meth "Maker" "__init__", .meth "Maker" "__eq__", .meth "Web" "__init__", .meth "Web" "__eq__", .glo "Maker", .cls "Maker", .mkr "Maker", .noat "Maker" "inlets", .noat "Maker" "begin", .noat "Maker" "ways", .glo "Web", .cls "Web"]
def fa5 : List He.Fa := [.mkr "Web", .noat "Web" "givens", .noat "Web" "rows", .noat "Web" "row_names", .glo "BadMaker", .glo "TooMany", .int "MOST_INLETS" 3, .int "MOST_WAYS" 4, .int "MOST_DEEDS" 600, .int "MOST_DEEDS_EACH" 24, .int "MOST_GIVENS" 3, .int "MOST_ROWS" 6]
def fa6 : List He.Fa := [.int "MOST_LINES" 9, .str "GIVE" "give", .glo "FIGURES"]
def fa : List He.Fa := fa0 ++ fa1 ++ fa2 ++ fa3 ++ fa4 ++ fa5 ++ fa6
def exL0 : List (PySem.W.Frag → Bool) := [(insB "Maker"), (kitSB "Maker"), (fun K => PySem.W.notFirst K (He.ga K "Maker") (.ref (He.ga K "Maker"))), (fun K => He.eqO (PySem.W.findIn K (.ref (He.ga K "Maker")) "__ne__") (some (some (.builtin "object.__ne__")))), (fun K => decide (PySem.W.mroIn K (He.ga K "Maker") (.type "object") = some true)), (kitB "Maker" "tuple" false), (nfB "Maker" "tuple"), (kitB "Maker" "list" false), (nfB "Maker" "list"), (kitB "Maker" "int" false), (nfB "Maker" "int"), (kitB "Maker" "NoneType" false)]
def exL1 : List (PySem.W.Frag → Bool) := [(nfB "Maker" "NoneType"), (kitB "Maker" "str" false), (nfB "Maker" "str"), (kitB "Maker" "bool" false), (nfB "Maker" "bool"), (insB "Web"), (kitSB "Web"), (fun K => PySem.W.notFirst K (He.ga K "Web") (.ref (He.ga K "Web"))), (fun K => He.eqO (PySem.W.findIn K (.ref (He.ga K "Web")) "__ne__") (some (some (.builtin "object.__ne__")))), (fun K => decide (PySem.W.mroIn K (He.ga K "Web") (.type "object") = some true)), (kitB "Web" "tuple" false), (nfB "Web" "tuple")]
def exL2 : List (PySem.W.Frag → Bool) := [(kitB "Web" "list" false), (nfB "Web" "list"), (kitB "Web" "int" false), (nfB "Web" "int"), (kitB "Web" "NoneType" false), (nfB "Web" "NoneType"), (kitB "Web" "str" false), (nfB "Web" "str"), (kitB "Web" "bool" false), (nfB "Web" "bool"), (fun K => decide (PySem.W.kitOne K (.ref (He.ga K "Maker")) (.type "str") = some false)), (fun K => decide (PySem.W.kitOne K (.ref (He.ga K "Maker")) (.type "tuple") = some false))]
def exL3 : List (PySem.W.Frag → Bool) := [(fun K => He.valsB K (He.ga K "FIGURES") [("0", He.Dv.int 0), ("1", He.Dv.int 1), ("2", He.Dv.int 2)])]
def exL : List (PySem.W.Frag → Bool) := exL0 ++ exL1 ++ exL2 ++ exL3
def exB (K : PySem.W.Frag) : Bool := exL.all fun f => f K
/-- what the top has left -/
structure Env (P : Program) (K : PySem.W.Frag) (mg : Str → Option Value) : Prop where
  ex : ∃ h : Heap, K.In h ∧ h.Ns mainGlobals mg
  c : SaysM fa fn exB K
  pf : ((P.main.file : Str) == mainFile) = true ∧ (P.main.scope.names.lookup ("super" : Str)).isSome = false
theorem Env.x {P : Program} {K : PySem.W.Frag} {mg : Str → Option Value} (E : Env P K mg) (i : Nat) {f : PySem.W.Frag → Bool} (h : exL[i]? = some f) : f K = true := List.all_eq_true.mp (show (exL.all fun f => f K) = true from E.c.more) f (List.mem_of_getElem? h)
theorem Env.f_abs {P : Program} {K : PySem.W.Frag} {mg : Str → Option Value} (E : Env P K mg) : mg "abs" = none := by obtain ⟨h, X, G⟩ := E.ex; exact He.free_ok X G (E.c.fact 0 (f := .free "abs") rfl)
theorem Env.f_all {P : Program} {K : PySem.W.Frag} {mg : Str → Option Value} (E : Env P K mg) : mg "all" = none := by obtain ⟨h, X, G⟩ := E.ex; exact He.free_ok X G (E.c.fact 1 (f := .free "all") rfl)
theorem Env.f_any {P : Program} {K : PySem.W.Frag} {mg : Str → Option Value} (E : Env P K mg) : mg "any" = none := by obtain ⟨h, X, G⟩ := E.ex; exact He.free_ok X G (E.c.fact 2 (f := .free "any") rfl)
theorem Env.f_bool {P : Program} {K : PySem.W.Frag} {mg : Str → Option Value} (E : Env P K mg) : mg "bool" = none := by obtain ⟨h, X, G⟩ := E.ex; exact He.free_ok X G (E.c.fact 3 (f := .free "bool") rfl)
theorem Env.f_enumerate {P : Program} {K : PySem.W.Frag} {mg : Str → Option Value} (E : Env P K mg) : mg "enumerate" = none := by obtain ⟨h, X, G⟩ := E.ex; exact He.free_ok X G (E.c.fact 4 (f := .free "enumerate") rfl)
theorem Env.f_int {P : Program} {K : PySem.W.Frag} {mg : Str → Option Value} (E : Env P K mg) : mg "int" = none := by obtain ⟨h, X, G⟩ := E.ex; exact He.free_ok X G (E.c.fact 5 (f := .free "int") rfl)
theorem Env.f_isinstance {P : Program} {K : PySem.W.Frag} {mg : Str → Option Value} (E : Env P K mg) : mg "isinstance" = none := by obtain ⟨h, X, G⟩ := E.ex; exact He.free_ok X G (E.c.fact 6 (f := .free "isinstance") rfl)
theorem Env.f_iter {P : Program} {K : PySem.W.Frag} {mg : Str → Option Value} (E : Env P K mg) : mg "iter" = none := by obtain ⟨h, X, G⟩ := E.ex; exact He.free_ok X G (E.c.fact 7 (f := .free "iter") rfl)
theorem Env.f_len {P : Program} {K : PySem.W.Frag} {mg : Str → Option Value} (E : Env P K mg) : mg "len" = none := by obtain ⟨h, X, G⟩ := E.ex; exact He.free_ok X G (E.c.fact 8 (f := .free "len") rfl)
theorem Env.f_list {P : Program} {K : PySem.W.Frag} {mg : Str → Option Value} (E : Env P K mg) : mg "list" = none := by obtain ⟨h, X, G⟩ := E.ex; exact He.free_ok X G (E.c.fact 9 (f := .free "list") rfl)
theorem Env.f_range {P : Program} {K : PySem.W.Frag} {mg : Str → Option Value} (E : Env P K mg) : mg "range" = none := by obtain ⟨h, X, G⟩ := E.ex; exact He.free_ok X G (E.c.fact 10 (f := .free "range") rfl)
theorem Env.f_str {P : Program} {K : PySem.W.Frag} {mg : Str → Option Value} (E : Env P K mg) : mg "str" = none := by obtain ⟨h, X, G⟩ := E.ex; exact He.free_ok X G (E.c.fact 11 (f := .free "str") rfl)
theorem Env.f_tuple {P : Program} {K : PySem.W.Frag} {mg : Str → Option Value} (E : Env P K mg) : mg "tuple" = none := by obtain ⟨h, X, G⟩ := E.ex; exact He.free_ok X G (E.c.fact 12 (f := .free "tuple") rfl)
theorem Env.g_is_integer {P : Program} {K : PySem.W.Frag} {mg : Str → Option Value} (E : Env P K mg) : mg "is_integer" = some (.ref (He.ga K "is_integer")) := by obtain ⟨h, X, G⟩ := E.ex; exact He.glo_ok X G (E.c.fact 13 (f := .glo "is_integer") rfl)
theorem Env.g_is_listed {P : Program} {K : PySem.W.Frag} {mg : Str → Option Value} (E : Env P K mg) : mg "is_listed" = some (.ref (He.ga K "is_listed")) := by obtain ⟨h, X, G⟩ := E.ex; exact He.glo_ok X G (E.c.fact 14 (f := .glo "is_listed") rfl)
theorem Env.g_deep {P : Program} {K : PySem.W.Frag} {mg : Str → Option Value} (E : Env P K mg) : mg "deep" = some (.ref (He.ga K "deep")) := by obtain ⟨h, X, G⟩ := E.ex; exact He.glo_ok X G (E.c.fact 15 (f := .glo "deep") rfl)
theorem Env.g_is_word {P : Program} {K : PySem.W.Frag} {mg : Str → Option Value} (E : Env P K mg) : mg "is_word" = some (.ref (He.ga K "is_word")) := by obtain ⟨h, X, G⟩ := E.ex; exact He.glo_ok X G (E.c.fact 16 (f := .glo "is_word") rfl)
theorem Env.g_is_deed {P : Program} {K : PySem.W.Frag} {mg : Str → Option Value} (E : Env P K mg) : mg "is_deed" = some (.ref (He.ga K "is_deed")) := by obtain ⟨h, X, G⟩ := E.ex; exact He.glo_ok X G (E.c.fact 17 (f := .glo "is_deed") rfl)
theorem Env.g_is_deeds {P : Program} {K : PySem.W.Frag} {mg : Str → Option Value} (E : Env P K mg) : mg "is_deeds" = some (.ref (He.ga K "is_deeds")) := by obtain ⟨h, X, G⟩ := E.ex; exact He.glo_ok X G (E.c.fact 18 (f := .glo "is_deeds") rfl)
theorem Env.g_is_ways {P : Program} {K : PySem.W.Frag} {mg : Str → Option Value} (E : Env P K mg) : mg "is_ways" = some (.ref (He.ga K "is_ways")) := by obtain ⟨h, X, G⟩ := E.ex; exact He.glo_ok X G (E.c.fact 19 (f := .glo "is_ways") rfl)
theorem Env.g_is_row_name {P : Program} {K : PySem.W.Frag} {mg : Str → Option Value} (E : Env P K mg) : mg "is_row_name" = some (.ref (He.ga K "is_row_name")) := by obtain ⟨h, X, G⟩ := E.ex; exact He.glo_ok X G (E.c.fact 20 (f := .glo "is_row_name") rfl)
theorem Env.g_is_unknown_name {P : Program} {K : PySem.W.Frag} {mg : Str → Option Value} (E : Env P K mg) : mg "is_unknown_name" = some (.ref (He.ga K "is_unknown_name")) := by obtain ⟨h, X, G⟩ := E.ex; exact He.glo_ok X G (E.c.fact 21 (f := .glo "is_unknown_name") rfl)
theorem Env.g_is_row {P : Program} {K : PySem.W.Frag} {mg : Str → Option Value} (E : Env P K mg) : mg "is_row" = some (.ref (He.ga K "is_row")) := by obtain ⟨h, X, G⟩ := E.ex; exact He.glo_ok X G (E.c.fact 22 (f := .glo "is_row") rfl)
theorem Env.g_check_givens {P : Program} {K : PySem.W.Frag} {mg : Str → Option Value} (E : Env P K mg) : mg "check_givens" = some (.ref (He.ga K "check_givens")) := by obtain ⟨h, X, G⟩ := E.ex; exact He.glo_ok X G (E.c.fact 23 (f := .glo "check_givens") rfl)
theorem Env.g_check_rows {P : Program} {K : PySem.W.Frag} {mg : Str → Option Value} (E : Env P K mg) : mg "check_rows" = some (.ref (He.ga K "check_rows")) := by obtain ⟨h, X, G⟩ := E.ex; exact He.glo_ok X G (E.c.fact 24 (f := .glo "check_rows") rfl)
theorem Env.g_check_names {P : Program} {K : PySem.W.Frag} {mg : Str → Option Value} (E : Env P K mg) : mg "check_names" = some (.ref (He.ga K "check_names")) := by obtain ⟨h, X, G⟩ := E.ex; exact He.glo_ok X G (E.c.fact 25 (f := .glo "check_names") rfl)
theorem Env.g_deeds_text {P : Program} {K : PySem.W.Frag} {mg : Str → Option Value} (E : Env P K mg) : mg "deeds_text" = some (.ref (He.ga K "deeds_text")) := by obtain ⟨h, X, G⟩ := E.ex; exact He.glo_ok X G (E.c.fact 26 (f := .glo "deeds_text") rfl)
theorem Env.g_row_line {P : Program} {K : PySem.W.Frag} {mg : Str → Option Value} (E : Env P K mg) : mg "row_line" = some (.ref (He.ga K "row_line")) := by obtain ⟨h, X, G⟩ := E.ex; exact He.glo_ok X G (E.c.fact 27 (f := .glo "row_line") rfl)
theorem Env.g_write_web {P : Program} {K : PySem.W.Frag} {mg : Str → Option Value} (E : Env P K mg) : mg "write_web" = some (.ref (He.ga K "write_web")) := by obtain ⟨h, X, G⟩ := E.ex; exact He.glo_ok X G (E.c.fact 28 (f := .glo "write_web") rfl)
theorem Env.g_read_deeds {P : Program} {K : PySem.W.Frag} {mg : Str → Option Value} (E : Env P K mg) : mg "read_deeds" = some (.ref (He.ga K "read_deeds")) := by obtain ⟨h, X, G⟩ := E.ex; exact He.glo_ok X G (E.c.fact 29 (f := .glo "read_deeds") rfl)
theorem Env.g_read_maker {P : Program} {K : PySem.W.Frag} {mg : Str → Option Value} (E : Env P K mg) : mg "read_maker" = some (.ref (He.ga K "read_maker")) := by obtain ⟨h, X, G⟩ := E.ex; exact He.glo_ok X G (E.c.fact 30 (f := .glo "read_maker") rfl)
theorem Env.g_read_row {P : Program} {K : PySem.W.Frag} {mg : Str → Option Value} (E : Env P K mg) : mg "read_row" = some (.ref (He.ga K "read_row")) := by obtain ⟨h, X, G⟩ := E.ex; exact He.glo_ok X G (E.c.fact 31 (f := .glo "read_row") rfl)
theorem Env.g_read_given {P : Program} {K : PySem.W.Frag} {mg : Str → Option Value} (E : Env P K mg) : mg "read_given" = some (.ref (He.ga K "read_given")) := by obtain ⟨h, X, G⟩ := E.ex; exact He.glo_ok X G (E.c.fact 32 (f := .glo "read_given") rfl)
theorem Env.g_read_web {P : Program} {K : PySem.W.Frag} {mg : Str → Option Value} (E : Env P K mg) : mg "read_web" = some (.ref (He.ga K "read_web")) := by obtain ⟨h, X, G⟩ := E.ex; exact He.glo_ok X G (E.c.fact 33 (f := .glo "read_web") rfl)
theorem Env.g__law_source {P : Program} {K : PySem.W.Frag} {mg : Str → Option Value} (E : Env P K mg) : mg "_law_source" = some (.ref (He.ga K "_law_source")) := by obtain ⟨h, X, G⟩ := E.ex; exact He.glo_ok X G (E.c.fact 34 (f := .glo "_law_source") rfl)
theorem Env.g__law_pick {P : Program} {K : PySem.W.Frag} {mg : Str → Option Value} (E : Env P K mg) : mg "_law_pick" = some (.ref (He.ga K "_law_pick")) := by obtain ⟨h, X, G⟩ := E.ex; exact He.glo_ok X G (E.c.fact 35 (f := .glo "_law_pick") rfl)
theorem Env.g__law_truth {P : Program} {K : PySem.W.Frag} {mg : Str → Option Value} (E : Env P K mg) : mg "_law_truth" = some (.ref (He.ga K "_law_truth")) := by obtain ⟨h, X, G⟩ := E.ex; exact He.glo_ok X G (E.c.fact 36 (f := .glo "_law_truth") rfl)
theorem Env.g__law_deeds {P : Program} {K : PySem.W.Frag} {mg : Str → Option Value} (E : Env P K mg) : mg "_law_deeds" = some (.ref (He.ga K "_law_deeds")) := by obtain ⟨h, X, G⟩ := E.ex; exact He.glo_ok X G (E.c.fact 37 (f := .glo "_law_deeds") rfl)
theorem Env.g__law_maker {P : Program} {K : PySem.W.Frag} {mg : Str → Option Value} (E : Env P K mg) : mg "_law_maker" = some (.ref (He.ga K "_law_maker")) := by obtain ⟨h, X, G⟩ := E.ex; exact He.glo_ok X G (E.c.fact 38 (f := .glo "_law_maker") rfl)
theorem Env.g__law_made {P : Program} {K : PySem.W.Frag} {mg : Str → Option Value} (E : Env P K mg) : mg "_law_made" = some (.ref (He.ga K "_law_made")) := by obtain ⟨h, X, G⟩ := E.ex; exact He.glo_ok X G (E.c.fact 39 (f := .glo "_law_made") rfl)
theorem Env.g__law_web {P : Program} {K : PySem.W.Frag} {mg : Str → Option Value} (E : Env P K mg) : mg "_law_web" = some (.ref (He.ga K "_law_web")) := by obtain ⟨h, X, G⟩ := E.ex; exact He.glo_ok X G (E.c.fact 40 (f := .glo "_law_web") rfl)
theorem Env.g__law_built {P : Program} {K : PySem.W.Frag} {mg : Str → Option Value} (E : Env P K mg) : mg "_law_built" = some (.ref (He.ga K "_law_built")) := by obtain ⟨h, X, G⟩ := E.ex; exact He.glo_ok X G (E.c.fact 41 (f := .glo "_law_built") rfl)
theorem Env.g__law_opened {P : Program} {K : PySem.W.Frag} {mg : Str → Option Value} (E : Env P K mg) : mg "_law_opened" = some (.ref (He.ga K "_law_opened")) := by obtain ⟨h, X, G⟩ := E.ex; exact He.glo_ok X G (E.c.fact 42 (f := .glo "_law_opened") rfl)
theorem Env.g__law_line {P : Program} {K : PySem.W.Frag} {mg : Str → Option Value} (E : Env P K mg) : mg "_law_line" = some (.ref (He.ga K "_law_line")) := by obtain ⟨h, X, G⟩ := E.ex; exact He.glo_ok X G (E.c.fact 43 (f := .glo "_law_line") rfl)
theorem Env.g__law_web_lines {P : Program} {K : PySem.W.Frag} {mg : Str → Option Value} (E : Env P K mg) : mg "_law_web_lines" = some (.ref (He.ga K "_law_web_lines")) := by obtain ⟨h, X, G⟩ := E.ex; exact He.glo_ok X G (E.c.fact 44 (f := .glo "_law_web_lines") rfl)
theorem Env.g__law_same_web {P : Program} {K : PySem.W.Frag} {mg : Str → Option Value} (E : Env P K mg) : mg "_law_same_web" = some (.ref (He.ga K "_law_same_web")) := by obtain ⟨h, X, G⟩ := E.ex; exact He.glo_ok X G (E.c.fact 45 (f := .glo "_law_same_web") rfl)
theorem Env.g__law_other {P : Program} {K : PySem.W.Frag} {mg : Str → Option Value} (E : Env P K mg) : mg "_law_other" = some (.ref (He.ga K "_law_other")) := by obtain ⟨h, X, G⟩ := E.ex; exact He.glo_ok X G (E.c.fact 46 (f := .glo "_law_other") rfl)
theorem Env.g_law {P : Program} {K : PySem.W.Frag} {mg : Str → Option Value} (E : Env P K mg) : mg "law" = some (.ref (He.ga K "law")) := by obtain ⟨h, X, G⟩ := E.ex; exact He.glo_ok X G (E.c.fact 47 (f := .glo "law") rfl)
theorem Env.m_Maker_init {P : Program} {K : PySem.W.Frag} {mg : Str → Option Value} (E : Env P K mg) : Meth K (He.ga K "Maker") "__init__" (He.ma K (He.ga K "Maker") "__init__") := He.meth_ok (E.c.fact 48 (f := .meth "Maker" "__init__") rfl)
theorem Env.m_Maker_eq {P : Program} {K : PySem.W.Frag} {mg : Str → Option Value} (E : Env P K mg) : Meth K (He.ga K "Maker") "__eq__" (He.ma K (He.ga K "Maker") "__eq__") := He.meth_ok (E.c.fact 49 (f := .meth "Maker" "__eq__") rfl)
theorem Env.m_Web_init {P : Program} {K : PySem.W.Frag} {mg : Str → Option Value} (E : Env P K mg) : Meth K (He.ga K "Web") "__init__" (He.ma K (He.ga K "Web") "__init__") := He.meth_ok (E.c.fact 50 (f := .meth "Web" "__init__") rfl)
theorem Env.m_Web_eq {P : Program} {K : PySem.W.Frag} {mg : Str → Option Value} (E : Env P K mg) : Meth K (He.ga K "Web") "__eq__" (He.ma K (He.ga K "Web") "__eq__") := He.meth_ok (E.c.fact 51 (f := .meth "Web" "__eq__") rfl)
theorem Env.g_Maker {P : Program} {K : PySem.W.Frag} {mg : Str → Option Value} (E : Env P K mg) : mg "Maker" = some (.ref (He.ga K "Maker")) := by obtain ⟨h, X, G⟩ := E.ex; exact He.glo_ok X G (E.c.fact 52 (f := .glo "Maker") rfl)
theorem Env.c_Maker {P : Program} {K : PySem.W.Frag} {mg : Str → Option Value} (E : Env P K mg) : Cls K (He.ga K "Maker") := He.cls_ok (E.c.fact 53 (f := .cls "Maker") rfl)
theorem Env.mk_Maker {P : Program} {K : PySem.W.Frag} {mg : Str → Option Value} (E : Env P K mg) : Mk K (He.ga K "Maker") (He.ma K (He.ga K "Maker") "__init__") := He.mkr_ok (E.c.fact 54 (f := .mkr "Maker") rfl)
theorem Env.na_Maker_inlets {P : Program} {K : PySem.W.Frag} {mg : Str → Option Value} (E : Env P K mg) : NoAttr K (He.ga K "Maker") "inlets" := He.noat_ok (E.c.fact 55 (f := .noat "Maker" "inlets") rfl)
theorem Env.na_Maker_begin {P : Program} {K : PySem.W.Frag} {mg : Str → Option Value} (E : Env P K mg) : NoAttr K (He.ga K "Maker") "begin" := He.noat_ok (E.c.fact 56 (f := .noat "Maker" "begin") rfl)
theorem Env.na_Maker_ways {P : Program} {K : PySem.W.Frag} {mg : Str → Option Value} (E : Env P K mg) : NoAttr K (He.ga K "Maker") "ways" := He.noat_ok (E.c.fact 57 (f := .noat "Maker" "ways") rfl)
theorem Env.ins_Maker {P : Program} {K : PySem.W.Frag} {mg : Str → Option Value} (E : Env P K mg) : insB "Maker" K = true := (E.x 0 (f := insB "Maker") rfl)
theorem Env.kit_Maker_self {P : Program} {K : PySem.W.Frag} {mg : Str → Option Value} (E : Env P K mg) : PySem.W.kitOne K (.ref (He.ga K "Maker")) (.ref (He.ga K "Maker")) = some true := of_decide_eq_true (E.x 1 (f := kitSB "Maker") rfl)
theorem Env.nf_Maker_self {P : Program} {K : PySem.W.Frag} {mg : Str → Option Value} (E : Env P K mg) : PySem.W.notFirst K (He.ga K "Maker") (.ref (He.ga K "Maker")) = true := (E.x 2 (f := fun K => PySem.W.notFirst K (He.ga K "Maker") (.ref (He.ga K "Maker"))) rfl)
theorem Env.ne_Maker {P : Program} {K : PySem.W.Frag} {mg : Str → Option Value} (E : Env P K mg) : PySem.W.findIn K (.ref (He.ga K "Maker")) "__ne__" = some (some (.builtin "object.__ne__")) := He.eqO_ok (E.x 3 (f := fun K => He.eqO (PySem.W.findIn K (.ref (He.ga K "Maker")) "__ne__") (some (some (.builtin "object.__ne__")))) rfl)
theorem Env.mo_Maker {P : Program} {K : PySem.W.Frag} {mg : Str → Option Value} (E : Env P K mg) : PySem.W.mroIn K (He.ga K "Maker") (.type "object") = some true := of_decide_eq_true (E.x 4 (f := fun K => decide (PySem.W.mroIn K (He.ga K "Maker") (.type "object") = some true)) rfl)
theorem Env.kit_Maker_tuple {P : Program} {K : PySem.W.Frag} {mg : Str → Option Value} (E : Env P K mg) : PySem.W.kitOne K (.type "tuple") (.ref (He.ga K "Maker")) = some false := of_decide_eq_true (E.x 5 (f := kitB "Maker" "tuple" false) rfl)
theorem Env.nf_Maker_tuple {P : Program} {K : PySem.W.Frag} {mg : Str → Option Value} (E : Env P K mg) : PySem.W.notFirst K (He.ga K "Maker") (.type "tuple") = true := (E.x 6 (f := nfB "Maker" "tuple") rfl)
theorem Env.kit_Maker_list {P : Program} {K : PySem.W.Frag} {mg : Str → Option Value} (E : Env P K mg) : PySem.W.kitOne K (.type "list") (.ref (He.ga K "Maker")) = some false := of_decide_eq_true (E.x 7 (f := kitB "Maker" "list" false) rfl)
theorem Env.nf_Maker_list {P : Program} {K : PySem.W.Frag} {mg : Str → Option Value} (E : Env P K mg) : PySem.W.notFirst K (He.ga K "Maker") (.type "list") = true := (E.x 8 (f := nfB "Maker" "list") rfl)
theorem Env.kit_Maker_int {P : Program} {K : PySem.W.Frag} {mg : Str → Option Value} (E : Env P K mg) : PySem.W.kitOne K (.type "int") (.ref (He.ga K "Maker")) = some false := of_decide_eq_true (E.x 9 (f := kitB "Maker" "int" false) rfl)
theorem Env.nf_Maker_int {P : Program} {K : PySem.W.Frag} {mg : Str → Option Value} (E : Env P K mg) : PySem.W.notFirst K (He.ga K "Maker") (.type "int") = true := (E.x 10 (f := nfB "Maker" "int") rfl)
theorem Env.kit_Maker_NoneType {P : Program} {K : PySem.W.Frag} {mg : Str → Option Value} (E : Env P K mg) : PySem.W.kitOne K (.type "NoneType") (.ref (He.ga K "Maker")) = some false := of_decide_eq_true (E.x 11 (f := kitB "Maker" "NoneType" false) rfl)
theorem Env.nf_Maker_NoneType {P : Program} {K : PySem.W.Frag} {mg : Str → Option Value} (E : Env P K mg) : PySem.W.notFirst K (He.ga K "Maker") (.type "NoneType") = true := (E.x 12 (f := nfB "Maker" "NoneType") rfl)
theorem Env.kit_Maker_str {P : Program} {K : PySem.W.Frag} {mg : Str → Option Value} (E : Env P K mg) : PySem.W.kitOne K (.type "str") (.ref (He.ga K "Maker")) = some false := of_decide_eq_true (E.x 13 (f := kitB "Maker" "str" false) rfl)
theorem Env.nf_Maker_str {P : Program} {K : PySem.W.Frag} {mg : Str → Option Value} (E : Env P K mg) : PySem.W.notFirst K (He.ga K "Maker") (.type "str") = true := (E.x 14 (f := nfB "Maker" "str") rfl)
theorem Env.kit_Maker_bool {P : Program} {K : PySem.W.Frag} {mg : Str → Option Value} (E : Env P K mg) : PySem.W.kitOne K (.type "bool") (.ref (He.ga K "Maker")) = some false := of_decide_eq_true (E.x 15 (f := kitB "Maker" "bool" false) rfl)
theorem Env.nf_Maker_bool {P : Program} {K : PySem.W.Frag} {mg : Str → Option Value} (E : Env P K mg) : PySem.W.notFirst K (He.ga K "Maker") (.type "bool") = true := (E.x 16 (f := nfB "Maker" "bool") rfl)
theorem Env.g_Web {P : Program} {K : PySem.W.Frag} {mg : Str → Option Value} (E : Env P K mg) : mg "Web" = some (.ref (He.ga K "Web")) := by obtain ⟨h, X, G⟩ := E.ex; exact He.glo_ok X G (E.c.fact 58 (f := .glo "Web") rfl)
theorem Env.c_Web {P : Program} {K : PySem.W.Frag} {mg : Str → Option Value} (E : Env P K mg) : Cls K (He.ga K "Web") := He.cls_ok (E.c.fact 59 (f := .cls "Web") rfl)
theorem Env.mk_Web {P : Program} {K : PySem.W.Frag} {mg : Str → Option Value} (E : Env P K mg) : Mk K (He.ga K "Web") (He.ma K (He.ga K "Web") "__init__") := He.mkr_ok (E.c.fact 60 (f := .mkr "Web") rfl)
theorem Env.na_Web_givens {P : Program} {K : PySem.W.Frag} {mg : Str → Option Value} (E : Env P K mg) : NoAttr K (He.ga K "Web") "givens" := He.noat_ok (E.c.fact 61 (f := .noat "Web" "givens") rfl)
theorem Env.na_Web_rows {P : Program} {K : PySem.W.Frag} {mg : Str → Option Value} (E : Env P K mg) : NoAttr K (He.ga K "Web") "rows" := He.noat_ok (E.c.fact 62 (f := .noat "Web" "rows") rfl)
theorem Env.na_Web_row_names {P : Program} {K : PySem.W.Frag} {mg : Str → Option Value} (E : Env P K mg) : NoAttr K (He.ga K "Web") "row_names" := He.noat_ok (E.c.fact 63 (f := .noat "Web" "row_names") rfl)
theorem Env.ins_Web {P : Program} {K : PySem.W.Frag} {mg : Str → Option Value} (E : Env P K mg) : insB "Web" K = true := (E.x 17 (f := insB "Web") rfl)
theorem Env.kit_Web_self {P : Program} {K : PySem.W.Frag} {mg : Str → Option Value} (E : Env P K mg) : PySem.W.kitOne K (.ref (He.ga K "Web")) (.ref (He.ga K "Web")) = some true := of_decide_eq_true (E.x 18 (f := kitSB "Web") rfl)
theorem Env.nf_Web_self {P : Program} {K : PySem.W.Frag} {mg : Str → Option Value} (E : Env P K mg) : PySem.W.notFirst K (He.ga K "Web") (.ref (He.ga K "Web")) = true := (E.x 19 (f := fun K => PySem.W.notFirst K (He.ga K "Web") (.ref (He.ga K "Web"))) rfl)
theorem Env.ne_Web {P : Program} {K : PySem.W.Frag} {mg : Str → Option Value} (E : Env P K mg) : PySem.W.findIn K (.ref (He.ga K "Web")) "__ne__" = some (some (.builtin "object.__ne__")) := He.eqO_ok (E.x 20 (f := fun K => He.eqO (PySem.W.findIn K (.ref (He.ga K "Web")) "__ne__") (some (some (.builtin "object.__ne__")))) rfl)
theorem Env.mo_Web {P : Program} {K : PySem.W.Frag} {mg : Str → Option Value} (E : Env P K mg) : PySem.W.mroIn K (He.ga K "Web") (.type "object") = some true := of_decide_eq_true (E.x 21 (f := fun K => decide (PySem.W.mroIn K (He.ga K "Web") (.type "object") = some true)) rfl)
theorem Env.kit_Web_tuple {P : Program} {K : PySem.W.Frag} {mg : Str → Option Value} (E : Env P K mg) : PySem.W.kitOne K (.type "tuple") (.ref (He.ga K "Web")) = some false := of_decide_eq_true (E.x 22 (f := kitB "Web" "tuple" false) rfl)
theorem Env.nf_Web_tuple {P : Program} {K : PySem.W.Frag} {mg : Str → Option Value} (E : Env P K mg) : PySem.W.notFirst K (He.ga K "Web") (.type "tuple") = true := (E.x 23 (f := nfB "Web" "tuple") rfl)
theorem Env.kit_Web_list {P : Program} {K : PySem.W.Frag} {mg : Str → Option Value} (E : Env P K mg) : PySem.W.kitOne K (.type "list") (.ref (He.ga K "Web")) = some false := of_decide_eq_true (E.x 24 (f := kitB "Web" "list" false) rfl)
theorem Env.nf_Web_list {P : Program} {K : PySem.W.Frag} {mg : Str → Option Value} (E : Env P K mg) : PySem.W.notFirst K (He.ga K "Web") (.type "list") = true := (E.x 25 (f := nfB "Web" "list") rfl)
theorem Env.kit_Web_int {P : Program} {K : PySem.W.Frag} {mg : Str → Option Value} (E : Env P K mg) : PySem.W.kitOne K (.type "int") (.ref (He.ga K "Web")) = some false := of_decide_eq_true (E.x 26 (f := kitB "Web" "int" false) rfl)
theorem Env.nf_Web_int {P : Program} {K : PySem.W.Frag} {mg : Str → Option Value} (E : Env P K mg) : PySem.W.notFirst K (He.ga K "Web") (.type "int") = true := (E.x 27 (f := nfB "Web" "int") rfl)
theorem Env.kit_Web_NoneType {P : Program} {K : PySem.W.Frag} {mg : Str → Option Value} (E : Env P K mg) : PySem.W.kitOne K (.type "NoneType") (.ref (He.ga K "Web")) = some false := of_decide_eq_true (E.x 28 (f := kitB "Web" "NoneType" false) rfl)
theorem Env.nf_Web_NoneType {P : Program} {K : PySem.W.Frag} {mg : Str → Option Value} (E : Env P K mg) : PySem.W.notFirst K (He.ga K "Web") (.type "NoneType") = true := (E.x 29 (f := nfB "Web" "NoneType") rfl)
theorem Env.kit_Web_str {P : Program} {K : PySem.W.Frag} {mg : Str → Option Value} (E : Env P K mg) : PySem.W.kitOne K (.type "str") (.ref (He.ga K "Web")) = some false := of_decide_eq_true (E.x 30 (f := kitB "Web" "str" false) rfl)
theorem Env.nf_Web_str {P : Program} {K : PySem.W.Frag} {mg : Str → Option Value} (E : Env P K mg) : PySem.W.notFirst K (He.ga K "Web") (.type "str") = true := (E.x 31 (f := nfB "Web" "str") rfl)
theorem Env.kit_Web_bool {P : Program} {K : PySem.W.Frag} {mg : Str → Option Value} (E : Env P K mg) : PySem.W.kitOne K (.type "bool") (.ref (He.ga K "Web")) = some false := of_decide_eq_true (E.x 32 (f := kitB "Web" "bool" false) rfl)
theorem Env.nf_Web_bool {P : Program} {K : PySem.W.Frag} {mg : Str → Option Value} (E : Env P K mg) : PySem.W.notFirst K (He.ga K "Web") (.type "bool") = true := (E.x 33 (f := nfB "Web" "bool") rfl)
theorem Env.g_BadMaker {P : Program} {K : PySem.W.Frag} {mg : Str → Option Value} (E : Env P K mg) : mg "BadMaker" = some (.ref (He.ga K "BadMaker")) := by obtain ⟨h, X, G⟩ := E.ex; exact He.glo_ok X G (E.c.fact 64 (f := .glo "BadMaker") rfl)
theorem Env.g_TooMany {P : Program} {K : PySem.W.Frag} {mg : Str → Option Value} (E : Env P K mg) : mg "TooMany" = some (.ref (He.ga K "TooMany")) := by obtain ⟨h, X, G⟩ := E.ex; exact He.glo_ok X G (E.c.fact 65 (f := .glo "TooMany") rfl)
theorem Env.k_MOST_INLETS {P : Program} {K : PySem.W.Frag} {mg : Str → Option Value} (E : Env P K mg) : ∃ t, mg "MOST_INLETS" = some (.int 3 t) := by obtain ⟨h, X, G⟩ := E.ex; exact He.int_ok X G (E.c.fact 66 (f := .int "MOST_INLETS" 3) rfl)
theorem Env.k_MOST_WAYS {P : Program} {K : PySem.W.Frag} {mg : Str → Option Value} (E : Env P K mg) : ∃ t, mg "MOST_WAYS" = some (.int 4 t) := by obtain ⟨h, X, G⟩ := E.ex; exact He.int_ok X G (E.c.fact 67 (f := .int "MOST_WAYS" 4) rfl)
theorem Env.k_MOST_DEEDS {P : Program} {K : PySem.W.Frag} {mg : Str → Option Value} (E : Env P K mg) : ∃ t, mg "MOST_DEEDS" = some (.int 600 t) := by obtain ⟨h, X, G⟩ := E.ex; exact He.int_ok X G (E.c.fact 68 (f := .int "MOST_DEEDS" 600) rfl)
theorem Env.k_MOST_DEEDS_EACH {P : Program} {K : PySem.W.Frag} {mg : Str → Option Value} (E : Env P K mg) : ∃ t, mg "MOST_DEEDS_EACH" = some (.int 24 t) := by obtain ⟨h, X, G⟩ := E.ex; exact He.int_ok X G (E.c.fact 69 (f := .int "MOST_DEEDS_EACH" 24) rfl)
theorem Env.k_MOST_GIVENS {P : Program} {K : PySem.W.Frag} {mg : Str → Option Value} (E : Env P K mg) : ∃ t, mg "MOST_GIVENS" = some (.int 3 t) := by obtain ⟨h, X, G⟩ := E.ex; exact He.int_ok X G (E.c.fact 70 (f := .int "MOST_GIVENS" 3) rfl)
theorem Env.k_MOST_ROWS {P : Program} {K : PySem.W.Frag} {mg : Str → Option Value} (E : Env P K mg) : ∃ t, mg "MOST_ROWS" = some (.int 6 t) := by obtain ⟨h, X, G⟩ := E.ex; exact He.int_ok X G (E.c.fact 71 (f := .int "MOST_ROWS" 6) rfl)
theorem Env.k_MOST_LINES {P : Program} {K : PySem.W.Frag} {mg : Str → Option Value} (E : Env P K mg) : ∃ t, mg "MOST_LINES" = some (.int 9 t) := by obtain ⟨h, X, G⟩ := E.ex; exact He.int_ok X G (E.c.fact 72 (f := .int "MOST_LINES" 9) rfl)
theorem Env.k_GIVE {P : Program} {K : PySem.W.Frag} {mg : Str → Option Value} (E : Env P K mg) : ∃ t, mg "GIVE" = some (.str "give" t) := by obtain ⟨h, X, G⟩ := E.ex; exact He.str_ok X G (E.c.fact 73 (f := .str "GIVE" "give") rfl)
theorem Env.kitb_Maker_str {P : Program} {K : PySem.W.Frag} {mg : Str → Option Value} (E : Env P K mg) : PySem.W.kitOne K (.ref (He.ga K "Maker")) (.type "str") = some false := of_decide_eq_true (E.x 34 (f := fun K => decide (PySem.W.kitOne K (.ref (He.ga K "Maker")) (.type "str") = some false)) rfl)
theorem Env.kitb_Maker_tuple {P : Program} {K : PySem.W.Frag} {mg : Str → Option Value} (E : Env P K mg) : PySem.W.kitOne K (.ref (He.ga K "Maker")) (.type "tuple") = some false := of_decide_eq_true (E.x 35 (f := fun K => decide (PySem.W.kitOne K (.ref (He.ga K "Maker")) (.type "tuple") = some false)) rfl)
theorem Env.g_FIGURES {P : Program} {K : PySem.W.Frag} {mg : Str → Option Value} (E : Env P K mg) : mg "FIGURES" = some (.ref (He.ga K "FIGURES")) := by obtain ⟨h, X, G⟩ := E.ex; exact He.glo_ok X G (E.c.fact 74 (f := .glo "FIGURES") rfl)
theorem Env.vb_FIGURES {P : Program} {K : PySem.W.Frag} {mg : Str → Option Value} (E : Env P K mg) : He.valsB K (He.ga K "FIGURES") [("0", He.Dv.int 0), ("1", He.Dv.int 1), ("2", He.Dv.int 2)] = true := (E.x 36 (f := fun K => He.valsB K (He.ga K "FIGURES") [("0", He.Dv.int 0), ("1", He.Dv.int 1), ("2", He.Dv.int 2)]) rfl)
theorem Env.dd_is_integer {P : Program} {K : PySem.W.Frag} {mg : Str → Option Value} (E : Env P K mg) : ∃ fd, FunD K "is_integer" "is_integer" (defArgs s_is_integer) (defBody s_is_integer) (defScope s_is_integer) (d_is_integer.dvs K) [] (d_is_integer.adr K) fd := E.c.def_ 0 (d := d_is_integer) rfl
theorem Env.dd_is_listed {P : Program} {K : PySem.W.Frag} {mg : Str → Option Value} (E : Env P K mg) : ∃ fd, FunD K "is_listed" "is_listed" (defArgs s_is_listed) (defBody s_is_listed) (defScope s_is_listed) (d_is_listed.dvs K) [] (d_is_listed.adr K) fd := E.c.def_ 1 (d := d_is_listed) rfl
theorem Env.dd_deep {P : Program} {K : PySem.W.Frag} {mg : Str → Option Value} (E : Env P K mg) : ∃ fd, FunD K "deep" "deep" (defArgs s_deep) (defBody s_deep) (defScope s_deep) (d_deep.dvs K) [] (d_deep.adr K) fd := E.c.def_ 2 (d := d_deep) rfl
theorem Env.dd_is_word {P : Program} {K : PySem.W.Frag} {mg : Str → Option Value} (E : Env P K mg) : ∃ fd, FunD K "is_word" "is_word" (defArgs s_is_word) (defBody s_is_word) (defScope s_is_word) (d_is_word.dvs K) [] (d_is_word.adr K) fd := E.c.def_ 3 (d := d_is_word) rfl
theorem Env.dd_is_deed {P : Program} {K : PySem.W.Frag} {mg : Str → Option Value} (E : Env P K mg) : ∃ fd, FunD K "is_deed" "is_deed" (defArgs s_is_deed) (defBody s_is_deed) (defScope s_is_deed) (d_is_deed.dvs K) [] (d_is_deed.adr K) fd := E.c.def_ 4 (d := d_is_deed) rfl
theorem Env.dd_is_deeds {P : Program} {K : PySem.W.Frag} {mg : Str → Option Value} (E : Env P K mg) : ∃ fd, FunD K "is_deeds" "is_deeds" (defArgs s_is_deeds) (defBody s_is_deeds) (defScope s_is_deeds) (d_is_deeds.dvs K) [] (d_is_deeds.adr K) fd := E.c.def_ 5 (d := d_is_deeds) rfl
theorem Env.dd_is_ways {P : Program} {K : PySem.W.Frag} {mg : Str → Option Value} (E : Env P K mg) : ∃ fd, FunD K "is_ways" "is_ways" (defArgs s_is_ways) (defBody s_is_ways) (defScope s_is_ways) (d_is_ways.dvs K) [] (d_is_ways.adr K) fd := E.c.def_ 6 (d := d_is_ways) rfl
theorem Env.dd_is_row_name {P : Program} {K : PySem.W.Frag} {mg : Str → Option Value} (E : Env P K mg) : ∃ fd, FunD K "is_row_name" "is_row_name" (defArgs s_is_row_name) (defBody s_is_row_name) (defScope s_is_row_name) (d_is_row_name.dvs K) [] (d_is_row_name.adr K) fd := E.c.def_ 7 (d := d_is_row_name) rfl
theorem Env.dd_is_unknown_name {P : Program} {K : PySem.W.Frag} {mg : Str → Option Value} (E : Env P K mg) : ∃ fd, FunD K "is_unknown_name" "is_unknown_name" (defArgs s_is_unknown_name) (defBody s_is_unknown_name) (defScope s_is_unknown_name) (d_is_unknown_name.dvs K) [] (d_is_unknown_name.adr K) fd := E.c.def_ 8 (d := d_is_unknown_name) rfl
theorem Env.dd_is_row {P : Program} {K : PySem.W.Frag} {mg : Str → Option Value} (E : Env P K mg) : ∃ fd, FunD K "is_row" "is_row" (defArgs s_is_row) (defBody s_is_row) (defScope s_is_row) (d_is_row.dvs K) [] (d_is_row.adr K) fd := E.c.def_ 9 (d := d_is_row) rfl
theorem Env.dd_check_givens {P : Program} {K : PySem.W.Frag} {mg : Str → Option Value} (E : Env P K mg) : ∃ fd, FunD K "check_givens" "check_givens" (defArgs s_check_givens) (defBody s_check_givens) (defScope s_check_givens) (d_check_givens.dvs K) [] (d_check_givens.adr K) fd := E.c.def_ 10 (d := d_check_givens) rfl
theorem Env.dd_check_rows {P : Program} {K : PySem.W.Frag} {mg : Str → Option Value} (E : Env P K mg) : ∃ fd, FunD K "check_rows" "check_rows" (defArgs s_check_rows) (defBody s_check_rows) (defScope s_check_rows) (d_check_rows.dvs K) [] (d_check_rows.adr K) fd := E.c.def_ 11 (d := d_check_rows) rfl
theorem Env.dd_check_names {P : Program} {K : PySem.W.Frag} {mg : Str → Option Value} (E : Env P K mg) : ∃ fd, FunD K "check_names" "check_names" (defArgs s_check_names) (defBody s_check_names) (defScope s_check_names) (d_check_names.dvs K) [] (d_check_names.adr K) fd := E.c.def_ 12 (d := d_check_names) rfl
theorem Env.dd_deeds_text {P : Program} {K : PySem.W.Frag} {mg : Str → Option Value} (E : Env P K mg) : ∃ fd, FunD K "deeds_text" "deeds_text" (defArgs s_deeds_text) (defBody s_deeds_text) (defScope s_deeds_text) (d_deeds_text.dvs K) [] (d_deeds_text.adr K) fd := E.c.def_ 13 (d := d_deeds_text) rfl
theorem Env.dd_row_line {P : Program} {K : PySem.W.Frag} {mg : Str → Option Value} (E : Env P K mg) : ∃ fd, FunD K "row_line" "row_line" (defArgs s_row_line) (defBody s_row_line) (defScope s_row_line) (d_row_line.dvs K) [] (d_row_line.adr K) fd := E.c.def_ 14 (d := d_row_line) rfl
theorem Env.dd_write_web {P : Program} {K : PySem.W.Frag} {mg : Str → Option Value} (E : Env P K mg) : ∃ fd, FunD K "write_web" "write_web" (defArgs s_write_web) (defBody s_write_web) (defScope s_write_web) (d_write_web.dvs K) [] (d_write_web.adr K) fd := E.c.def_ 15 (d := d_write_web) rfl
theorem Env.dd_read_deeds {P : Program} {K : PySem.W.Frag} {mg : Str → Option Value} (E : Env P K mg) : ∃ fd, FunD K "read_deeds" "read_deeds" (defArgs s_read_deeds) (defBody s_read_deeds) (defScope s_read_deeds) (d_read_deeds.dvs K) [] (d_read_deeds.adr K) fd := E.c.def_ 16 (d := d_read_deeds) rfl
theorem Env.dd_read_maker {P : Program} {K : PySem.W.Frag} {mg : Str → Option Value} (E : Env P K mg) : ∃ fd, FunD K "read_maker" "read_maker" (defArgs s_read_maker) (defBody s_read_maker) (defScope s_read_maker) (d_read_maker.dvs K) [] (d_read_maker.adr K) fd := E.c.def_ 17 (d := d_read_maker) rfl
theorem Env.dd_read_row {P : Program} {K : PySem.W.Frag} {mg : Str → Option Value} (E : Env P K mg) : ∃ fd, FunD K "read_row" "read_row" (defArgs s_read_row) (defBody s_read_row) (defScope s_read_row) (d_read_row.dvs K) [] (d_read_row.adr K) fd := E.c.def_ 18 (d := d_read_row) rfl
theorem Env.dd_read_given {P : Program} {K : PySem.W.Frag} {mg : Str → Option Value} (E : Env P K mg) : ∃ fd, FunD K "read_given" "read_given" (defArgs s_read_given) (defBody s_read_given) (defScope s_read_given) (d_read_given.dvs K) [] (d_read_given.adr K) fd := E.c.def_ 19 (d := d_read_given) rfl
theorem Env.dd_read_web {P : Program} {K : PySem.W.Frag} {mg : Str → Option Value} (E : Env P K mg) : ∃ fd, FunD K "read_web" "read_web" (defArgs s_read_web) (defBody s_read_web) (defScope s_read_web) (d_read_web.dvs K) [] (d_read_web.adr K) fd := E.c.def_ 20 (d := d_read_web) rfl
theorem Env.dd__law_source {P : Program} {K : PySem.W.Frag} {mg : Str → Option Value} (E : Env P K mg) : ∃ fd, FunD K "_law_source" "_law_source" (defArgs s__law_source) (defBody s__law_source) (defScope s__law_source) (d__law_source.dvs K) [] (d__law_source.adr K) fd := E.c.def_ 21 (d := d__law_source) rfl
theorem Env.dd__law_pick {P : Program} {K : PySem.W.Frag} {mg : Str → Option Value} (E : Env P K mg) : ∃ fd, FunD K "_law_pick" "_law_pick" (defArgs s__law_pick) (defBody s__law_pick) (defScope s__law_pick) (d__law_pick.dvs K) [] (d__law_pick.adr K) fd := E.c.def_ 22 (d := d__law_pick) rfl
theorem Env.dd__law_truth {P : Program} {K : PySem.W.Frag} {mg : Str → Option Value} (E : Env P K mg) : ∃ fd, FunD K "_law_truth" "_law_truth" (defArgs s__law_truth) (defBody s__law_truth) (defScope s__law_truth) (d__law_truth.dvs K) [] (d__law_truth.adr K) fd := E.c.def_ 23 (d := d__law_truth) rfl
theorem Env.dd__law_deeds {P : Program} {K : PySem.W.Frag} {mg : Str → Option Value} (E : Env P K mg) : ∃ fd, FunD K "_law_deeds" "_law_deeds" (defArgs s__law_deeds) (defBody s__law_deeds) (defScope s__law_deeds) (d__law_deeds.dvs K) [] (d__law_deeds.adr K) fd := E.c.def_ 24 (d := d__law_deeds) rfl
theorem Env.dd__law_maker {P : Program} {K : PySem.W.Frag} {mg : Str → Option Value} (E : Env P K mg) : ∃ fd, FunD K "_law_maker" "_law_maker" (defArgs s__law_maker) (defBody s__law_maker) (defScope s__law_maker) (d__law_maker.dvs K) [] (d__law_maker.adr K) fd := E.c.def_ 25 (d := d__law_maker) rfl
theorem Env.dd__law_made {P : Program} {K : PySem.W.Frag} {mg : Str → Option Value} (E : Env P K mg) : ∃ fd, FunD K "_law_made" "_law_made" (defArgs s__law_made) (defBody s__law_made) (defScope s__law_made) (d__law_made.dvs K) [] (d__law_made.adr K) fd := E.c.def_ 26 (d := d__law_made) rfl
theorem Env.dd__law_web {P : Program} {K : PySem.W.Frag} {mg : Str → Option Value} (E : Env P K mg) : ∃ fd, FunD K "_law_web" "_law_web" (defArgs s__law_web) (defBody s__law_web) (defScope s__law_web) (d__law_web.dvs K) [] (d__law_web.adr K) fd := E.c.def_ 27 (d := d__law_web) rfl
theorem Env.dd__law_built {P : Program} {K : PySem.W.Frag} {mg : Str → Option Value} (E : Env P K mg) : ∃ fd, FunD K "_law_built" "_law_built" (defArgs s__law_built) (defBody s__law_built) (defScope s__law_built) (d__law_built.dvs K) [] (d__law_built.adr K) fd := E.c.def_ 28 (d := d__law_built) rfl
theorem Env.dd__law_opened {P : Program} {K : PySem.W.Frag} {mg : Str → Option Value} (E : Env P K mg) : ∃ fd, FunD K "_law_opened" "_law_opened" (defArgs s__law_opened) (defBody s__law_opened) (defScope s__law_opened) (d__law_opened.dvs K) [] (d__law_opened.adr K) fd := E.c.def_ 29 (d := d__law_opened) rfl
theorem Env.dd__law_line {P : Program} {K : PySem.W.Frag} {mg : Str → Option Value} (E : Env P K mg) : ∃ fd, FunD K "_law_line" "_law_line" (defArgs s__law_line) (defBody s__law_line) (defScope s__law_line) (d__law_line.dvs K) [] (d__law_line.adr K) fd := E.c.def_ 30 (d := d__law_line) rfl
theorem Env.dd__law_web_lines {P : Program} {K : PySem.W.Frag} {mg : Str → Option Value} (E : Env P K mg) : ∃ fd, FunD K "_law_web_lines" "_law_web_lines" (defArgs s__law_web_lines) (defBody s__law_web_lines) (defScope s__law_web_lines) (d__law_web_lines.dvs K) [] (d__law_web_lines.adr K) fd := E.c.def_ 31 (d := d__law_web_lines) rfl
theorem Env.dd__law_same_web {P : Program} {K : PySem.W.Frag} {mg : Str → Option Value} (E : Env P K mg) : ∃ fd, FunD K "_law_same_web" "_law_same_web" (defArgs s__law_same_web) (defBody s__law_same_web) (defScope s__law_same_web) (d__law_same_web.dvs K) [] (d__law_same_web.adr K) fd := E.c.def_ 32 (d := d__law_same_web) rfl
theorem Env.dd__law_other {P : Program} {K : PySem.W.Frag} {mg : Str → Option Value} (E : Env P K mg) : ∃ fd, FunD K "_law_other" "_law_other" (defArgs s__law_other) (defBody s__law_other) (defScope s__law_other) (d__law_other.dvs K) [] (d__law_other.adr K) fd := E.c.def_ 33 (d := d__law_other) rfl
theorem Env.dd_law {P : Program} {K : PySem.W.Frag} {mg : Str → Option Value} (E : Env P K mg) : ∃ fd, FunD K "law" "law" (defArgs s_law) (defBody s_law) (defScope s_law) (d_law.dvs K) [] (d_law.adr K) fd := E.c.def_ 34 (d := d_law) rfl
theorem Env.dd_Maker_init {P : Program} {K : PySem.W.Frag} {mg : Str → Option Value} (E : Env P K mg) : ∃ fd, FunD K "__init__" "Maker.__init__" (defArgs s_Maker_init) (defBody s_Maker_init) (defScope s_Maker_init) (d_Maker_init.dvs K) [] (d_Maker_init.adr K) fd := E.c.def_ 35 (d := d_Maker_init) rfl
theorem Env.dd_Maker_eq {P : Program} {K : PySem.W.Frag} {mg : Str → Option Value} (E : Env P K mg) : ∃ fd, FunD K "__eq__" "Maker.__eq__" (defArgs s_Maker_eq) (defBody s_Maker_eq) (defScope s_Maker_eq) (d_Maker_eq.dvs K) [] (d_Maker_eq.adr K) fd := E.c.def_ 36 (d := d_Maker_eq) rfl
theorem Env.dd_Web_init {P : Program} {K : PySem.W.Frag} {mg : Str → Option Value} (E : Env P K mg) : ∃ fd, FunD K "__init__" "Web.__init__" (defArgs s_Web_init) (defBody s_Web_init) (defScope s_Web_init) (d_Web_init.dvs K) [] (d_Web_init.adr K) fd := E.c.def_ 37 (d := d_Web_init) rfl
theorem Env.dd_Web_eq {P : Program} {K : PySem.W.Frag} {mg : Str → Option Value} (E : Env P K mg) : ∃ fd, FunD K "__eq__" "Web.__eq__" (defArgs s_Web_eq) (defBody s_Web_eq) (defScope s_Web_eq) (d_Web_eq.dvs K) [] (d_Web_eq.adr K) fd := E.c.def_ 38 (d := d_Web_eq) rfl
def tb_FIGURES : List (Str × Int) := [("0", 0), ("1", 1), ("2", 2)]
def tabL : List He.Tab := [(fun K => He.ga K "FIGURES", ["0", "1", "2"])]
structure EnvW (P : Program) (w : World) (K : PySem.W.Frag) (mg : Str → Option Value) : Prop where
  env : Env P K mg
  t_FIGURES : TabOk K w (He.ga K "FIGURES") tb_FIGURES

end M
namespace M
open PySem PySem.Spec PyProof.Rows L2 Evl MS
def nmL0 : List Str := ["_wall", "RosterneedError", "Unreadable", "WrongThing", "WrongWord", "WrongNumber", "WrongName", "BadLine", "TooMany", "Lacking", "BadMaker", "BadName", "BadRow", "Twice", "is_integer", "is_listed", "deep", "is_word", "is_deed", "is_deeds", "is_ways", "Maker", "is_row_name", "is_unknown_name", "is_row"]
def nmL1 : List Str := ["check_givens", "check_rows", "check_names", "Web", "deeds_text", "row_line", "write_web", "read_deeds", "read_maker", "read_row", "read_given", "read_web", "_law_source", "_law_pick", "_law_truth", "_law_deeds", "_law_maker", "_law_made", "_law_web", "_law_built", "_law_opened", "_law_line", "_law_web_lines", "_law_same_web", "_law_other"]
def nmL2 : List Str := ["GIVE", "MOST_INLETS", "MOST_WAYS", "MOST_DEEDS", "MOST_DEEDS_EACH", "MOST_GIVENS", "MOST_ROWS", "MOST_LINES", "FIGURES"]
def nmL : List Str := nmL0 ++ nmL1 ++ nmL2
abbrev R : PySem.W.OpenRow := PySem.W.OpenLaw.row PySem.Challenge.rw_rosterneed_k29_whole_webs_read
abbrev hk : PySem.W.Hook := hookMT 6 fa fn exB tabL
def ob (s : PySem.W.SharedT) : AlMT := obsMTG 6 fa fn exB tabL (HandSHeadRun.getT s)
theorem ob_eq (s : PySem.W.SharedT) : ob s = hk.obs s.abs := obsMTG_eq (HandSHeadRun.getT_eq s)
end M
/-! the head run in chunks: states at ends of statements, each chunk by one look of the kernel (own text) -/
noncomputable section
namespace HC
open PySem PySem.W PySem.Calls PyProof.Rows HandSHeadRun
def gsF (st : SharedT → Thread → Option (SharedT × Thread)) (n0 : Nat) (ann : Option Value) : Nat → SharedT → Thread → Option (Flow × SharedT × Code × Pos)
  | 0, _, _ => none
  | m + 1, s, t => match endAt 1 t with
    | some f => some (f, s, t.code, t.pos)
    | none => match stepOk n0 ann t with
      | false => none
      | true => match st s t with
        | some (s', t') => frS s' fun s' => gsF st n0 ann m s' t'
        | none => none
def gpF (st : SharedT → Thread → Option (SharedT × Thread)) (n0 : Nat) (ann : Option Value) : Nat → SharedT → Thread → Option (SharedT × Thread)
  | 0, s, t => some (s, t)
  | m + 1, s, t => match through t with
    | true => none
    | false => match stepOk n0 ann t with
      | false => none
      | true => match st s t with
        | some (s', t') => frS s' fun s' => gpF st n0 ann m s' t'
        | none => none
section
variable {tb : String → Option Builtin} {p : Program} {w : World} {n0 : Nat} {ann : Option Value}
theorem gsF_eq : ∀ (m : Nat) (s : SharedT) (t : Thread), gsF (stepT (denote tb) p w) n0 ann m s t = segRunT tb p w n0 ann 1 m s t
  | 0, _, _ => rfl
  | m + 1, s, t => by
    unfold gsF segRunT
    cases endAt 1 t with
    | some f => rfl
    | none =>
      cases stepOk n0 ann t with
      | false => rfl
      | true =>
        cases stepT (denote tb) p w s t with
        | none => rfl
        | some r =>
          obtain ⟨s', t'⟩ := r
          show frS s' (fun s' => gsF (stepT (denote tb) p w) n0 ann m s' t') = _
          rw [frS_eq, gsF_eq m s' t']
theorem gpF_ok : ∀ {m : Nat} {s s' : SharedT} {t t' : Thread}, gpF (stepT (denote tb) p w) n0 ann m s t = some (s', t') → topGo tb p w n0 ann m s.abs t = some (s'.abs, t')
  | 0, _, _, _, _, h => by cases h; rfl
  | m + 1, s, s', t, t', h => by
    unfold gpF at h
    unfold topGo
    cases ht : through t with
    | true => rw [ht] at h; cases h
    | false =>
      rw [ht] at h
      cases hk : stepOk n0 ann t with
      | false => rw [hk] at h; cases h
      | true =>
        rw [hk] at h
        cases hs : stepT (denote tb) p w s t with
        | none => rw [hs] at h; cases h
        | some r =>
          obtain ⟨s2, t2⟩ := r
          rw [hs] at h
          have h3 : (frS s2 fun s' => gpF (stepT (denote tb) p w) n0 ann m s' t2) = some (s', t') := h
          rw [frS_eq] at h3
          rw [stepT_spec hs]
          exact gpF_ok h3
end
def execsQ : List Stmt → Env → Sem Flow := PySem.W.Fast.tw12563942051412417395
theorem execsQ_eq : @PySem.execs = execsQ := PySem.W.Fast.te12563942051412417395
def startQ : List Stmt → Env → Sem Unit := PySem.W.Fast.tw1066825118222455980
theorem startQ_eq : @PySem.blockStart = startQ := PySem.W.Fast.te1066825118222455980
abbrev piecesQ (l : List Stmt) (env : Env) (c : Code) (p : Pos) (B : List Frame) : Thread := ⟨(execsQ l env).wrap doneF deadEnd id id, c, p, B⟩
abbrev blockQ (l : List Stmt) (env : Env) (c : Code) (p : Pos) (B : List Frame) : Thread := ⟨(startQ l env).wrap (fun _ => doneF .next) deadEnd id id, c, p, B⟩
section
variable {p : Program} {w : World} {n0 : Nat} {ann : Option Value} {env : Env} {q : Pos}
theorem chunk_of {n N : Nat} {s s' : SharedT} {r : Shared} {l rest : List Stmt} {c : Code} {pos p' : Pos} (h : gsF (stepQ (denQ tabQ) p w) n0 ann n s (piecesQ l env c pos [topFrame q]) = some (.next, s', c, p'))
    (k : topRun treeTable p w n0 ann N s'.abs (restOf rest env c p' [topFrame q]) = some r) : topRun treeTable p w n0 ann (n + N) s.abs (restOf (l ++ rest) env c pos [topFrame q]) = some r := by
  have h2 : gsF (stepT (denote treeTable) p w) n0 ann n s (piecesOf l env c pos [topFrame q]) = some (.next, s', c, p') := by
    rw [stepQ_eq, denQ_eq, tabQ_eq]
    show gsF _ _ _ _ _ ⟨(execs l env).wrap doneF deadEnd id id, c, pos, [topFrame q]⟩ = _
    rw [execsQ_eq]
    exact h
  rw [gsF_eq] at h2
  exact piece_app (segRun_of h2) k
theorem start_of {n N : Nat} {s s' : SharedT} {r : Shared} {b : List Stmt} {c : Code} {pos p' : Pos} (h : gsF (stepQ (denQ tabQ) p w) n0 ann n s (blockQ b env c pos [topFrame q]) = some (.next, s', c, p'))
    (k : topRun treeTable p w n0 ann N s'.abs (restOf b env c p' [topFrame q]) = some r) : topRun treeTable p w n0 ann (n + N) s.abs ⟨denote treeTable (.body b env), c, pos, [topFrame q]⟩ = some r := by
  have h2 : gsF (stepT (denote treeTable) p w) n0 ann n s (blockOf b env c pos [topFrame q]) = some (.next, s', c, p') := by
    rw [stepQ_eq, denQ_eq, tabQ_eq]
    show gsF _ _ _ _ _ ⟨(blockStart b env).wrap (fun _ => doneF .next) deadEnd id id, c, pos, [topFrame q]⟩ = _
    rw [startQ_eq]
    exact h
  rw [gsF_eq] at h2
  exact piece_block (segRun_of h2) k
theorem pre_of {n N : Nat} {s s' : SharedT} {r : Shared} {c : Code} {pos : Pos} (h : gpF (stepQ (denQ tabQ) p w) n0 ann n s (topStub p) = some (s', ⟨denQ tabQ c, c, pos, [topFrame q]⟩))
    (k : topRun treeTable p w n0 ann N s'.abs ⟨denote treeTable c, c, pos, [topFrame q]⟩ = some r) : topRun treeTable p w n0 ann (n + N) s.abs (topStub p) = some r := by
  have h2 : gpF (stepT (denote treeTable) p w) n0 ann n s (topStub p) = some (s', ⟨denote treeTable c, c, pos, [topFrame q]⟩) := by
    rw [stepQ_eq, denQ_eq, tabQ_eq]
    exact h
  exact go_top (gpF_ok h2) k
theorem fin_of {n : Nat} {s s' : SharedT} {c : Code} {pos : Pos} (h : goF (stepQ (denQ tabQ) p w) n0 ann n s ⟨doneF .next, c, pos, [topFrame q]⟩ = some s') :
    topRun treeTable p w n0 ann n s.abs (restOf [] env c pos [topFrame q]) = some s'.abs := by
  have h2 : goF (stepT (denote treeTable) p w) n0 ann n s ⟨doneF .next, c, pos, [topFrame q]⟩ = some s' := by
    rw [stepQ_eq, denQ_eq, tabQ_eq]
    exact h
  exact piece_nil (goF_ok h2)
end
theorem left_run {p q : Program} {loose : List Str} {Xt : Shared → Bool} {α : Type} {Yf : Shared → α} {Ya : World → α} {N M : Nat} {n0 : Nat} {ann : Option Value} {S0 Sk : World → OsState → SharedT}
    (e : opening p = plainProg p.main.scope.names) (hN : Nat.ble 600 N = true) (f : ∀ s, fenceModules? p s = some s) (le : Nat.ble M N = true)
    (hS0 : ∀ w os, (S0 w os).abs = ⟨boot_heap w.params, #[], boot_drawn, boot_toks, os⟩) (hn : ∀ w : World, (boot_heap w.params).objs.size = n0) (ha : ∀ w, bootAnn w = ann)
    (run : ∀ (w : World) (os : OsState), topRun treeTable p w n0 ann M (S0 w os).abs (topStub p) = some (Sk w os).abs)
    (look : ∀ (w : World) (os : OsState), (looksF p (boot_heap w.params) (Sk w os).abs, openSeen q loose (importedModules p.main.body) Xt true (Sk w os).abs, Yf (Sk w os).abs) = (true, openGood q loose, Ya w)) :
    LeftO p q loose Xt Yf Ya N true := fun w => by
  obtain ⟨⟨h, gs, d, k, os⟩, a, a'⟩ := Option.map_eq_some_iff.mp (boot_open e hN f w)
  obtain ⟨rfl, rfl, rfl, rfl⟩ : h = boot_heap w.params ∧ gs = Array.mk [] ∧ d = boot_drawn ∧ k = boot_toks := by simpa using a'
  have hr := run w os
  obtain ⟨l1, l2, l3⟩ : _ ∧ _ ∧ _ := by simpa only [Prod.mk.injEq] using look w os
  generalize (Sk w os).abs = s at *
  rw [hS0] at hr
  have r := topRun_mono (N - M) _ _ _ _ hr
  rw [show M + (N - M) = N by have := Nat.le_of_ble_eq_true le; omega] at r
  rw [← hn w, ← ha w] at r
  have l1' : (staticsOk (importedModules p.main.body) (boot_heap w.params) s.heap && namesBound p s.heap && gensDone s && laidKept (boot_heap w.params) s.heap) = true := l1
  have t : topFrom treeTable p w N ⟨boot_heap w.params, Array.mk [], boot_drawn, boot_toks, os⟩ = some s := by
    unfold topFrom
    dsimp only
    rw [boot_ns]
    show (topRun treeTable p w (boot_heap w.params).objs.size (bootAnn w) N ⟨boot_heap w.params, #[], boot_drawn, boot_toks, os⟩ (topStub p)).bind _ = _
    rw [r]
    show (match staticsOk (importedModules p.main.body) (boot_heap w.params) s.heap && namesBound p s.heap && gensDone s && laidKept (boot_heap w.params) s.heap with | true => some s | false => none) = _
    rw [l1']
  unfold openEnds
  rw [a]
  show (topFrom treeTable p w N _).map _ = _
  rw [t]
  exact congrArg some (Prod.ext l2 l3)
theorem head_run {r : OpenRow} {q : Program} {H : Hook} {ob : SharedT → H.α} {M : Nat} {loose : List PySem.Str} {d : DefRec} {kwd : List (PySem.Str × PySem.Expr)} {n0 : Nat} {ann : Option Value} {S0 Sk : World → OsState → SharedT} (ho : ∀ s : SharedT, ob s = H.obs s.abs)
    (e : opening r.prog = plainProg r.prog.main.scope.names) (f : ∀ s, fenceModules? r.prog s = some s)
    (hS0 : ∀ w os, (S0 w os).abs = ⟨boot_heap w.params, #[], boot_drawn, boot_toks, os⟩) (hn : ∀ w : World, (boot_heap w.params).objs.size = n0) (ha : ∀ w, bootAnn w = ann)
    (run : ∀ (w : World) (os : OsState), topRun treeTable r.prog w n0 ann M (S0 w os).abs (topStub r.prog) = some (Sk w os).abs)
    (look : ∀ (w : World) (os : OsState), (looksF r.prog (boot_heap w.params) (Sk w os).abs, seenQ q loose (importedModules r.prog.main.body) (fun s => xlAt q [] s && recOk r.toRowW.records s) (Sk w os).abs, ob (Sk w os)) = (true, openGood q loose, H.val w))
    (hdef : defOf q r.name = some (d, kwd)) (hp : r.prog.theDef r.name = some (d.params, d.body, d.scope)) (hk : kwWritten? d.params.kwonlyargs d.params.kw_defaults = some kwd)
    (hwr : (!r.writes || r.records.isEmpty) = true) (k1 : r.wellSaid = true) (ok : (chainsOk q && opensWell r.prog && (frees r.toRowW && r.within.isEmpty)) = true) (hb : r.prog.bare) (hw : r.toRowW.promised)
    (call : WalkO q loose (XL q []) H.says r.toRowW d kwd fun f vs => PySem.call f vs) : r.Holds := by
  have left : LeftO r.prog q loose (fun s => xlAt q [] s && recOk r.toRowW.records s) H.obs H.val (M + 600) true :=
    left_run (M := M) e (Nat.ble_eq_true_of_le (by omega)) f (Nat.ble_eq_true_of_le (by omega)) hS0 hn ha run fun w os => by
      have z := look w os
      rw [ho, ← seenQ_eq] at z
      exact z
  exact holds_open (r := r) (q := q) (loose := loose) (XP := XL q []) (YP := H.says) (d := d) (kwd := kwd) left H.of H.keeps (fun s z => xl_of s (Bool.and_eq_true_iff.mp z).1) XL.keeps hdef hp hk (fun s z => recFacts_of (Bool.and_eq_true_iff.mp z).2) hwr k1 ok hb hw call
end HC
end

namespace M
section
open PySem PySem.W PySem.Calls PyProof.Rows HandSHeadRun L2 Evl MS
noncomputable section
set_option maxHeartbeats 0
namespace HD
def prg : Program := PySem.Challenge.pw_rosterneed_k29_whole_webs_read
def tpN (i : Nat) : Stmt := prg.main.body.getD i (.Pass ⟨0, 0, 0, 0⟩)
def tp0 : Stmt := tpN 0
def tp4_0 : Stmt := inClass (tpN 4) 0
def tp5_0 : Stmt := inClass (tpN 5) 0
def tp6_0 : Stmt := inClass (tpN 6) 0
def tp7_0 : Stmt := inClass (tpN 7) 0
def tp8_0 : Stmt := inClass (tpN 8) 0
def tp9_0 : Stmt := inClass (tpN 9) 0
def tp16 : Stmt := tpN 16
def tp17 : Stmt := tpN 17
def tp18 : Stmt := tpN 18
def tp19 : Stmt := tpN 19
def tp26 : Stmt := tpN 26
def tp27 : Stmt := tpN 27
def tp28 : Stmt := tpN 28
def tp29_0 : Stmt := inClass (tpN 29) 0
def tp29_1 : Stmt := inClass (tpN 29) 1
def tp29_2 : Stmt := inClass (tpN 29) 2
def tp33 : Stmt := tpN 33
def tp34 : Stmt := tpN 34
def tp35 : Stmt := tpN 35
def tp36 : Stmt := tpN 36
def tp37 : Stmt := tpN 37
def tp38 : Stmt := tpN 38
def tp39_0 : Stmt := inClass (tpN 39) 0
def tp39_1 : Stmt := inClass (tpN 39) 1
def tp39_2 : Stmt := inClass (tpN 39) 2
def tp39_3 : Stmt := inClass (tpN 39) 3
def tp39_4 : Stmt := inClass (tpN 39) 4
def tp39_5 : Stmt := inClass (tpN 39) 5
def tp39_6 : Stmt := inClass (tpN 39) 6
def tp39_7 : Stmt := inClass (tpN 39) 7
def tp43 : Stmt := tpN 43
def tp44 : Stmt := tpN 44
def tp45 : Stmt := tpN 45
def tp46 : Stmt := tpN 46
def tp47 : Stmt := tpN 47
def tp48 : Stmt := tpN 48
def tp49 : Stmt := tpN 49
def tp50 : Stmt := tpN 50
def tp52 : Stmt := tpN 52
def tp53 : Stmt := tpN 53
def tp54 : Stmt := tpN 54
def tp55 : Stmt := tpN 55
def tp56 : Stmt := tpN 56
def tp57 : Stmt := tpN 57
def tp58 : Stmt := tpN 58
def tp59 : Stmt := tpN 59
def tp60 : Stmt := tpN 60
def tp61 : Stmt := tpN 61
def tp62 : Stmt := tpN 62
def tp63 : Stmt := tpN 63
def tp64 : Stmt := tpN 64
def tp65 : Stmt := tpN 65
def oa_11 (P : Params) : Obj := ⟨(.type "tuple"), none, (.seq #[] 0), #[]⟩
def oa_12 (P : Params) : Obj := ⟨.none, none, (.fields #[]), #[]⟩
def oa_13 (P : Params) : Obj := ⟨(.type "code"), none, (.fields #[(.str ("<module>" : Str) 182), (.str ("<module>" : Str) 183), (.str ("/claim/cut.py" : Str) 184), (.int 1 0), (.int 0 0), (.int 0 0), (.int 0 0), (.int 0 0), (.ref 11), (.bool false), (.int 181 0), (.ref 12), .none, .none, .none, .none, (.int 185 0), (.int 1 0), (.str ("/claim/cut.py" : Str) 186)]), #[]⟩
def oa_14 (P : Params) : Obj := ⟨(.type "frame"), none, .plain, #[(some (.ref 13)), (some (.ref 3)), (some (.ref 3)), none, (some (.str ("__main__" : Str) 164)), none, (some (.ref 0))]⟩
def ta (P : Params) : BT := (.node (boot_o_0 P) (.node (boot_o_1 P) (.node (boot_o_3 P) (.node (boot_o_7 P) .nil .nil) (.node (oa_11 P) .nil .nil)) (.node (boot_o_5 P) (.node (boot_o_9 P) .nil .nil) (.node (oa_13 P) .nil .nil))) (.node (boot_o_2 P) (.node (boot_o_4 P) (.node (boot_o_8 P) .nil .nil) (.node (oa_12 P) .nil .nil)) (.node (boot_o_6 P) (.node (boot_o_10 P) .nil .nil) (.node (oa_14 P) .nil .nil))))
def Sa (w : World) (os : OsState) : SharedT := ⟨ta w.params, 15, {}, #[], {}, 187, os⟩
def pa : Pos := ⟨0, 0, 0, 0⟩
def tb (P : Params) : BT := (.node (boot_o_0 P) (.node (boot_o_1 P) (.node (boot_o_3 P) (.node (boot_o_7 P) .nil .nil) (.node (oa_11 P) .nil .nil)) (.node (boot_o_5 P) (.node (boot_o_9 P) .nil .nil) (.node (oa_13 P) .nil .nil))) (.node (boot_o_2 P) (.node (boot_o_4 P) (.node (boot_o_8 P) .nil .nil) (.node (oa_12 P) .nil .nil)) (.node (boot_o_6 P) (.node (boot_o_10 P) .nil .nil) (.node (oa_14 P) .nil .nil))))
def Sb (w : World) (os : OsState) : SharedT := ⟨tb w.params, 15, {}, #[], {}, 187, os⟩
def pb : Pos := ⟨0, 0, 0, 0⟩
def o0_3 (P : Params) : Obj := ⟨(.type "dict"), none, (.dict #[⟨PyData.keyHash P ("__name__" : Str), (.str ("__name__" : Str) 165), (.str ("rosterneed.errors" : Str) 194)⟩, ⟨PyData.keyHash P ("__doc__" : Str), (.str ("__doc__" : Str) 166), .none⟩, ⟨PyData.keyHash P ("__package__" : Str), (.str ("__package__" : Str) 167), .none⟩, ⟨PyData.keyHash P ("__loader__" : Str), (.str ("__loader__" : Str) 168), (.builtin "__main__.__loader__#opaque")⟩, ⟨PyData.keyHash P ("__spec__" : Str), (.str ("__spec__" : Str) 169), .none⟩, ⟨PyData.keyHash P ("__annotations__" : Str), (.str ("__annotations__" : Str) 170), (.ref 6)⟩, ⟨PyData.keyHash P ("__builtins__" : Str), (.str ("__builtins__" : Str) 171), (.ref 4)⟩, ⟨PyData.keyHash P ("__file__" : Str), (.str ("__file__" : Str) 173), (.str ("/claim/cut.py" : Str) 172)⟩, ⟨PyData.keyHash P ("__cached__" : Str), (.str ("__cached__" : Str) 174), .none⟩, ⟨PyData.keyHash P ("_wall" : Str), (.str ("_wall" : Str) 193), (.ref 21)⟩, ⟨PyData.keyHash P ("RosterneedError" : Str), (.str ("RosterneedError" : Str) 213), (.ref 31)⟩, ⟨PyData.keyHash P ("Unreadable" : Str), (.str ("Unreadable" : Str) 229), (.ref 44)⟩, ⟨PyData.keyHash P ("WrongThing" : Str), (.str ("WrongThing" : Str) 256), (.ref 65)⟩, ⟨PyData.keyHash P ("WrongWord" : Str), (.str ("WrongWord" : Str) 283), (.ref 86)⟩, ⟨PyData.keyHash P ("WrongNumber" : Str), (.str ("WrongNumber" : Str) 310), (.ref 107)⟩, ⟨PyData.keyHash P ("WrongName" : Str), (.str ("WrongName" : Str) 337), (.ref 128)⟩, ⟨PyData.keyHash P ("BadLine" : Str), (.str ("BadLine" : Str) 364), (.ref 149)⟩, ⟨PyData.keyHash P ("TooMany" : Str), (.str ("TooMany" : Str) 391), (.ref 170)⟩, ⟨PyData.keyHash P ("Lacking" : Str), (.str ("Lacking" : Str) 407), (.ref 182)⟩, ⟨PyData.keyHash P ("BadMaker" : Str), (.str ("BadMaker" : Str) 423), (.ref 194)⟩] 20), #[]⟩
def o0_12 (P : Params) : Obj := ⟨.none, none, (.fields #[(.int 1 0), (.int 0 0), (.ref 20), (.int 5 0), (.int 0 0), (.ref 27), (.int 7 0), (.int 0 0), (.ref 40), (.int 9 0), (.int 0 0), (.ref 53), (.int 14 0), (.int 0 0), (.ref 74), (.int 19 0), (.int 0 0), (.ref 95), (.int 24 0), (.int 0 0), (.ref 116), (.int 29 0), (.int 0 0), (.ref 137), (.int 34 0), (.int 0 0), (.ref 158), (.int 39 0), (.int 0 0), (.ref 178), (.int 41 0), (.int 0 0), (.ref 190)]), #[]⟩
def o0_15 (P : Params) : Obj := ⟨(.type "tuple"), none, (.seq #[] 0), #[]⟩
def o0_16 (P : Params) : Obj := ⟨.none, none, (.fields #[]), #[]⟩
def o0_17 (P : Params) : Obj := ⟨(.type "tuple"), none, (.seq #[(.str ("k" : Str) 190)] 0), #[]⟩
def o0_18 (P : Params) : Obj := ⟨(.type "tuple"), none, (.seq #[] 0), #[]⟩
def o0_19 (P : Params) : Obj := ⟨.none, none, (.func { name := ("_wall" : Str), qualname := ("_wall" : Str), params := defArgs tp0, body := .stmts (defBody tp0), scope := defScope tp0, globals := 0, closure := [], defaults := .none, kwdefaults := .none, doc := .none, pyModule := .none, annotations := none, code := .none, closureTuple := .none, builtins := 0 }), #[]⟩
def o0_20 (P : Params) : Obj := ⟨(.type "code"), none, (.fields #[(.str ("_wall" : Str) 187), (.str ("_wall" : Str) 188), (.str ("/claim/cut.py" : Str) 189), (.int 1 0), (.int 1 0), (.int 0 0), (.int 0 0), (.int 3 0), (.ref 15), (.bool true), (.int 181 0), (.ref 16), .none, (.ref 17), (.ref 18), (.ref 19), (.int 191 0), (.int 1 0), (.str ("/claim/cut.py" : Str) 192)]), #[]⟩
def o0_21 (P : Params) : Obj := ⟨(.type "function"), none, (.func { name := ("_wall" : Str), qualname := ("_wall" : Str), params := defArgs tp0, body := .stmts (defBody tp0), scope := defScope tp0, globals := 3, closure := [], defaults := .none, kwdefaults := .none, doc := .none, pyModule := (.str ("__main__" : Str) 164), annotations := none, code := (.ref 20), closureTuple := .none, builtins := 0 }), #[]⟩
def o0_22 (P : Params) : Obj := ⟨(.type "tuple"), none, (.seq #[(.type "ValueError")] 0), #[]⟩
def o0_23 (P : Params) : Obj := ⟨(.type "builtin_function_or_method"), none, (.fields #[(.builtin "type.__prepare__"), (.type "type")]), #[]⟩
def o0_24 (P : Params) : Obj := ⟨(.type "dict"), none, (.dict #[⟨PyData.keyHash P ("__module__" : Str), (.str ("__module__" : Str) 203), (.str ("rosterneed.errors" : Str) 194)⟩, ⟨PyData.keyHash P ("__qualname__" : Str), (.str ("__qualname__" : Str) 205), (.str ("RosterneedError" : Str) 204)⟩, ⟨PyData.keyHash P ("__firstlineno__" : Str), (.str ("__firstlineno__" : Str) 207), (.int 5 206)⟩, ⟨PyData.keyHash P ("__static_attributes__" : Str), (.str ("__static_attributes__" : Str) 208), (.ref 29)⟩] 4), #[]⟩
def o0_25 (P : Params) : Obj := ⟨(.type "tuple"), none, (.seq #[] 0), #[]⟩
def o0_26 (P : Params) : Obj := ⟨.none, none, (.fields #[]), #[]⟩
def o0_27 (P : Params) : Obj := ⟨(.type "code"), none, (.fields #[(.str ("RosterneedError" : Str) 198), (.str ("RosterneedError" : Str) 199), (.str ("/claim/cut.py" : Str) 200), (.int 5 0), (.int 0 0), (.int 0 0), (.int 0 0), (.int 0 0), (.ref 25), (.bool false), (.int 181 0), (.ref 26), .none, .none, .none, .none, (.int 201 0), (.int 5 0), (.str ("/claim/cut.py" : Str) 202)]), #[]⟩
def o0_28 (P : Params) : Obj := ⟨(.type "frame"), none, .plain, #[(some (.ref 27)), (some (.ref 3)), (some (.ref 24)), none, (some (.str ("rosterneed.errors" : Str) 194)), none, (some (.ref 0))]⟩
def o0_29 (P : Params) : Obj := ⟨(.type "tuple"), none, (.seq #[] 0), #[]⟩
def o0_30 (P : Params) : Obj := ⟨(.type "dict"), none, (.dict #[⟨PyData.keyHash P ("__module__" : Str), (.str ("__module__" : Str) 203), (.str ("rosterneed.errors" : Str) 194)⟩, ⟨PyData.keyHash P ("__firstlineno__" : Str), (.str ("__firstlineno__" : Str) 207), (.int 5 206)⟩, ⟨PyData.keyHash P ("__static_attributes__" : Str), (.str ("__static_attributes__" : Str) 208), (.ref 29)⟩, ⟨PyData.keyHash P ("__weakref__" : Str), (.str ("__weakref__" : Str) 210), (.ref 32)⟩, ⟨PyData.keyHash P ("__doc__" : Str), (.str ("__doc__" : Str) 211), .none⟩] 3), #[]⟩
def o0_31 (P : Params) : Obj := ⟨(.type "type"), none, (.cls { name := ("RosterneedError" : Str), bases := [(.type "ValueError")], mro := [(.ref 31), (.type "ValueError"), (.type "Exception"), (.type "BaseException"), (.type "object")], ns := 30, qualname := ("RosterneedError" : Str), hasDict := true, slotNames := [], subclasses := [(.ref 44), (.ref 65), (.ref 86), (.ref 107), (.ref 128), (.ref 170)], abstract := false, collection := none, hasDel := false }), #[(some (.ref 22)), none, (some (.str ("RosterneedError" : Str) 196)), (some (.str ("RosterneedError" : Str) 204)), (some (.builtin "ValueError.__new__")), (some (.bool true))]⟩
def o0_32 (P : Params) : Obj := ⟨(.type "getset_descriptor"), none, (.fields #[(.str ("__weakref__" : Str) 209), (.ref 31), (.builtin "ExceptionGroup.__weakref__"), .none]), #[]⟩
def o0_33 (P : Params) : Obj := ⟨(.type "super"), none, (.fields #[(.ref 31), (.ref 31), (.ref 31)]), #[]⟩
def o0_34 (P : Params) : Obj := ⟨(.type "builtin_function_or_method"), none, (.fields #[(.builtin "object.__init_subclass__"), (.ref 31)]), #[]⟩
def o0_35 (P : Params) : Obj := ⟨(.type "tuple"), none, (.seq #[(.ref 31)] 0), #[]⟩
def o0_36 (P : Params) : Obj := ⟨(.type "builtin_function_or_method"), none, (.fields #[(.builtin "type.__prepare__"), (.type "type")]), #[]⟩
def o0_37 (P : Params) : Obj := ⟨(.type "dict"), none, (.dict #[⟨PyData.keyHash P ("__module__" : Str), (.str ("__module__" : Str) 221), (.str ("rosterneed.errors" : Str) 194)⟩, ⟨PyData.keyHash P ("__qualname__" : Str), (.str ("__qualname__" : Str) 223), (.str ("Unreadable" : Str) 222)⟩, ⟨PyData.keyHash P ("__firstlineno__" : Str), (.str ("__firstlineno__" : Str) 225), (.int 7 224)⟩, ⟨PyData.keyHash P ("__static_attributes__" : Str), (.str ("__static_attributes__" : Str) 226), (.ref 42)⟩] 4), #[]⟩
def o0_38 (P : Params) : Obj := ⟨(.type "tuple"), none, (.seq #[] 0), #[]⟩
def o0_39 (P : Params) : Obj := ⟨.none, none, (.fields #[]), #[]⟩
def o0_40 (P : Params) : Obj := ⟨(.type "code"), none, (.fields #[(.str ("Unreadable" : Str) 216), (.str ("Unreadable" : Str) 217), (.str ("/claim/cut.py" : Str) 218), (.int 7 0), (.int 0 0), (.int 0 0), (.int 0 0), (.int 0 0), (.ref 38), (.bool false), (.int 181 0), (.ref 39), .none, .none, .none, .none, (.int 219 0), (.int 7 0), (.str ("/claim/cut.py" : Str) 220)]), #[]⟩
def o0_41 (P : Params) : Obj := ⟨(.type "frame"), none, .plain, #[(some (.ref 40)), (some (.ref 3)), (some (.ref 37)), none, (some (.str ("rosterneed.errors" : Str) 194)), none, (some (.ref 0))]⟩
def o0_42 (P : Params) : Obj := ⟨(.type "tuple"), none, (.seq #[] 0), #[]⟩
def o0_43 (P : Params) : Obj := ⟨(.type "dict"), none, (.dict #[⟨PyData.keyHash P ("__module__" : Str), (.str ("__module__" : Str) 221), (.str ("rosterneed.errors" : Str) 194)⟩, ⟨PyData.keyHash P ("__firstlineno__" : Str), (.str ("__firstlineno__" : Str) 225), (.int 7 224)⟩, ⟨PyData.keyHash P ("__static_attributes__" : Str), (.str ("__static_attributes__" : Str) 226), (.ref 42)⟩, ⟨PyData.keyHash P ("__doc__" : Str), (.str ("__doc__" : Str) 227), .none⟩] 2), #[]⟩
def o0_44 (P : Params) : Obj := ⟨(.type "type"), none, (.cls { name := ("Unreadable" : Str), bases := [(.ref 31)], mro := [(.ref 44), (.ref 31), (.type "ValueError"), (.type "Exception"), (.type "BaseException"), (.type "object")], ns := 43, qualname := ("Unreadable" : Str), hasDict := true, slotNames := [], subclasses := [(.ref 149)], abstract := false, collection := none, hasDel := false }), #[(some (.ref 35)), none, (some (.str ("Unreadable" : Str) 214)), (some (.str ("Unreadable" : Str) 222)), (some (.builtin "ValueError.__new__")), (some (.bool true))]⟩
def o0_45 (P : Params) : Obj := ⟨(.type "super"), none, (.fields #[(.ref 44), (.ref 44), (.ref 44)]), #[]⟩
def o0_46 (P : Params) : Obj := ⟨(.type "builtin_function_or_method"), none, (.fields #[(.builtin "object.__init_subclass__"), (.ref 44)]), #[]⟩
def o0_47 (P : Params) : Obj := ⟨(.type "tuple"), none, (.seq #[(.ref 31)] 0), #[]⟩
def o0_48 (P : Params) : Obj := ⟨(.type "builtin_function_or_method"), none, (.fields #[(.builtin "type.__prepare__"), (.type "type")]), #[]⟩
def o0_49 (P : Params) : Obj := ⟨(.type "dict"), none, (.dict #[⟨PyData.keyHash P ("__module__" : Str), (.str ("__module__" : Str) 237), (.str ("rosterneed.errors" : Str) 194)⟩, ⟨PyData.keyHash P ("__qualname__" : Str), (.str ("__qualname__" : Str) 239), (.str ("WrongThing" : Str) 238)⟩, ⟨PyData.keyHash P ("__firstlineno__" : Str), (.str ("__firstlineno__" : Str) 241), (.int 9 240)⟩, ⟨PyData.keyHash P ("__init__" : Str), (.str ("__init__" : Str) 250), (.ref 62)⟩, ⟨PyData.keyHash P ("__static_attributes__" : Str), (.str ("__static_attributes__" : Str) 252), (.ref 63)⟩, ⟨PyData.keyHash P ("__classcell__" : Str), (.str ("__classcell__" : Str) 253), (.ref 50)⟩] 6), #[]⟩
def o0_50 (P : Params) : Obj := ⟨(.type "cell"), none, (.cell (some (.ref 65))), #[]⟩
def o0_51 (P : Params) : Obj := ⟨(.type "tuple"), none, (.seq #[] 0), #[]⟩
def o0_52 (P : Params) : Obj := ⟨.none, none, (.fields #[(.int 11 0), (.int 4 0), (.ref 61)]), #[]⟩
def o0_53 (P : Params) : Obj := ⟨(.type "code"), none, (.fields #[(.str ("WrongThing" : Str) 232), (.str ("WrongThing" : Str) 233), (.str ("/claim/cut.py" : Str) 234), (.int 9 0), (.int 0 0), (.int 0 0), (.int 0 0), (.int 0 0), (.ref 51), (.bool false), (.int 181 0), (.ref 52), .none, .none, .none, .none, (.int 235 0), (.int 9 0), (.str ("/claim/cut.py" : Str) 236)]), #[]⟩
def o0_54 (P : Params) : Obj := ⟨(.type "frame"), none, .plain, #[(some (.ref 53)), (some (.ref 3)), (some (.ref 49)), none, (some (.str ("rosterneed.errors" : Str) 194)), none, (some (.ref 0))]⟩
def o0_55 (P : Params) : Obj := ⟨(.type "tuple"), none, (.seq #[(.ref 50)] 0), #[]⟩
def o0_56 (P : Params) : Obj := ⟨(.type "tuple"), none, (.seq #[(.str ("__class__" : Str) 245)] 0), #[]⟩
def o0_57 (P : Params) : Obj := ⟨.none, none, (.fields #[]), #[]⟩
def o0_58 (P : Params) : Obj := ⟨(.type "tuple"), none, (.seq #[(.str ("self" : Str) 246), (.str ("thing" : Str) 247)] 0), #[]⟩
def o0_59 (P : Params) : Obj := ⟨(.type "tuple"), none, (.seq #[] 0), #[]⟩
def o0_60 (P : Params) : Obj := ⟨.none, none, (.func { name := ("__init__" : Str), qualname := ("WrongThing.__init__" : Str), params := defArgs tp4_0, body := .stmts (defBody tp4_0), scope := defScope tp4_0, globals := 0, closure := [], defaults := .none, kwdefaults := .none, doc := .none, pyModule := .none, annotations := none, code := .none, closureTuple := .none, builtins := 0 }), #[]⟩
def o0_61 (P : Params) : Obj := ⟨(.type "code"), none, (.fields #[(.str ("__init__" : Str) 242), (.str ("WrongThing.__init__" : Str) 243), (.str ("/claim/cut.py" : Str) 244), (.int 11 0), (.int 2 0), (.int 0 0), (.int 0 0), (.int 3 0), (.ref 56), (.bool true), (.int 181 0), (.ref 57), .none, (.ref 58), (.ref 59), (.ref 60), (.int 248 0), (.int 11 0), (.str ("/claim/cut.py" : Str) 249)]), #[]⟩
def o0_62 (P : Params) : Obj := ⟨(.type "function"), none, (.func { name := ("__init__" : Str), qualname := ("WrongThing.__init__" : Str), params := defArgs tp4_0, body := .stmts (defBody tp4_0), scope := defScope tp4_0, globals := 3, closure := [(("__class__" : Str), 50)], defaults := .none, kwdefaults := .none, doc := .none, pyModule := (.str ("rosterneed.errors" : Str) 194), annotations := none, code := (.ref 61), closureTuple := (.ref 55), builtins := 0 }), #[]⟩
def o0_63 (P : Params) : Obj := ⟨(.type "tuple"), none, (.seq #[(.str ("thing" : Str) 251)] 0), #[]⟩
def o0_64 (P : Params) : Obj := ⟨(.type "dict"), none, (.dict #[⟨PyData.keyHash P ("__module__" : Str), (.str ("__module__" : Str) 237), (.str ("rosterneed.errors" : Str) 194)⟩, ⟨PyData.keyHash P ("__firstlineno__" : Str), (.str ("__firstlineno__" : Str) 241), (.int 9 240)⟩, ⟨PyData.keyHash P ("__init__" : Str), (.str ("__init__" : Str) 250), (.ref 62)⟩, ⟨PyData.keyHash P ("__static_attributes__" : Str), (.str ("__static_attributes__" : Str) 252), (.ref 63)⟩, ⟨PyData.keyHash P ("__doc__" : Str), (.str ("__doc__" : Str) 254), .none⟩] 3), #[]⟩
def o0_65 (P : Params) : Obj := ⟨(.type "type"), none, (.cls { name := ("WrongThing" : Str), bases := [(.ref 31)], mro := [(.ref 65), (.ref 31), (.type "ValueError"), (.type "Exception"), (.type "BaseException"), (.type "object")], ns := 64, qualname := ("WrongThing" : Str), hasDict := true, slotNames := [], subclasses := [(.ref 182)], abstract := false, collection := none, hasDel := false }), #[(some (.ref 47)), none, (some (.str ("WrongThing" : Str) 230)), (some (.str ("WrongThing" : Str) 238)), (some (.builtin "ValueError.__new__")), (some (.bool true))]⟩
def o0_66 (P : Params) : Obj := ⟨(.type "super"), none, (.fields #[(.ref 65), (.ref 65), (.ref 65)]), #[]⟩
def o0_67 (P : Params) : Obj := ⟨(.type "builtin_function_or_method"), none, (.fields #[(.builtin "object.__init_subclass__"), (.ref 65)]), #[]⟩
def o0_68 (P : Params) : Obj := ⟨(.type "tuple"), none, (.seq #[(.ref 31)] 0), #[]⟩
def o0_69 (P : Params) : Obj := ⟨(.type "builtin_function_or_method"), none, (.fields #[(.builtin "type.__prepare__"), (.type "type")]), #[]⟩
def o0_70 (P : Params) : Obj := ⟨(.type "dict"), none, (.dict #[⟨PyData.keyHash P ("__module__" : Str), (.str ("__module__" : Str) 264), (.str ("rosterneed.errors" : Str) 194)⟩, ⟨PyData.keyHash P ("__qualname__" : Str), (.str ("__qualname__" : Str) 266), (.str ("WrongWord" : Str) 265)⟩, ⟨PyData.keyHash P ("__firstlineno__" : Str), (.str ("__firstlineno__" : Str) 268), (.int 14 267)⟩, ⟨PyData.keyHash P ("__init__" : Str), (.str ("__init__" : Str) 277), (.ref 83)⟩, ⟨PyData.keyHash P ("__static_attributes__" : Str), (.str ("__static_attributes__" : Str) 279), (.ref 84)⟩, ⟨PyData.keyHash P ("__classcell__" : Str), (.str ("__classcell__" : Str) 280), (.ref 71)⟩] 6), #[]⟩
def o0_71 (P : Params) : Obj := ⟨(.type "cell"), none, (.cell (some (.ref 86))), #[]⟩
def o0_72 (P : Params) : Obj := ⟨(.type "tuple"), none, (.seq #[] 0), #[]⟩
def o0_73 (P : Params) : Obj := ⟨.none, none, (.fields #[(.int 16 0), (.int 4 0), (.ref 82)]), #[]⟩
def o0_74 (P : Params) : Obj := ⟨(.type "code"), none, (.fields #[(.str ("WrongWord" : Str) 259), (.str ("WrongWord" : Str) 260), (.str ("/claim/cut.py" : Str) 261), (.int 14 0), (.int 0 0), (.int 0 0), (.int 0 0), (.int 0 0), (.ref 72), (.bool false), (.int 181 0), (.ref 73), .none, .none, .none, .none, (.int 262 0), (.int 14 0), (.str ("/claim/cut.py" : Str) 263)]), #[]⟩
def o0_75 (P : Params) : Obj := ⟨(.type "frame"), none, .plain, #[(some (.ref 74)), (some (.ref 3)), (some (.ref 70)), none, (some (.str ("rosterneed.errors" : Str) 194)), none, (some (.ref 0))]⟩
def o0_76 (P : Params) : Obj := ⟨(.type "tuple"), none, (.seq #[(.ref 71)] 0), #[]⟩
def o0_77 (P : Params) : Obj := ⟨(.type "tuple"), none, (.seq #[(.str ("__class__" : Str) 272)] 0), #[]⟩
def o0_78 (P : Params) : Obj := ⟨.none, none, (.fields #[]), #[]⟩
def o0_79 (P : Params) : Obj := ⟨(.type "tuple"), none, (.seq #[(.str ("self" : Str) 273), (.str ("word" : Str) 274)] 0), #[]⟩
def o0_80 (P : Params) : Obj := ⟨(.type "tuple"), none, (.seq #[] 0), #[]⟩
def o0_81 (P : Params) : Obj := ⟨.none, none, (.func { name := ("__init__" : Str), qualname := ("WrongWord.__init__" : Str), params := defArgs tp5_0, body := .stmts (defBody tp5_0), scope := defScope tp5_0, globals := 0, closure := [], defaults := .none, kwdefaults := .none, doc := .none, pyModule := .none, annotations := none, code := .none, closureTuple := .none, builtins := 0 }), #[]⟩
def o0_82 (P : Params) : Obj := ⟨(.type "code"), none, (.fields #[(.str ("__init__" : Str) 269), (.str ("WrongWord.__init__" : Str) 270), (.str ("/claim/cut.py" : Str) 271), (.int 16 0), (.int 2 0), (.int 0 0), (.int 0 0), (.int 3 0), (.ref 77), (.bool true), (.int 181 0), (.ref 78), .none, (.ref 79), (.ref 80), (.ref 81), (.int 275 0), (.int 16 0), (.str ("/claim/cut.py" : Str) 276)]), #[]⟩
def o0_83 (P : Params) : Obj := ⟨(.type "function"), none, (.func { name := ("__init__" : Str), qualname := ("WrongWord.__init__" : Str), params := defArgs tp5_0, body := .stmts (defBody tp5_0), scope := defScope tp5_0, globals := 3, closure := [(("__class__" : Str), 71)], defaults := .none, kwdefaults := .none, doc := .none, pyModule := (.str ("rosterneed.errors" : Str) 194), annotations := none, code := (.ref 82), closureTuple := (.ref 76), builtins := 0 }), #[]⟩
def o0_84 (P : Params) : Obj := ⟨(.type "tuple"), none, (.seq #[(.str ("word" : Str) 278)] 0), #[]⟩
def o0_85 (P : Params) : Obj := ⟨(.type "dict"), none, (.dict #[⟨PyData.keyHash P ("__module__" : Str), (.str ("__module__" : Str) 264), (.str ("rosterneed.errors" : Str) 194)⟩, ⟨PyData.keyHash P ("__firstlineno__" : Str), (.str ("__firstlineno__" : Str) 268), (.int 14 267)⟩, ⟨PyData.keyHash P ("__init__" : Str), (.str ("__init__" : Str) 277), (.ref 83)⟩, ⟨PyData.keyHash P ("__static_attributes__" : Str), (.str ("__static_attributes__" : Str) 279), (.ref 84)⟩, ⟨PyData.keyHash P ("__doc__" : Str), (.str ("__doc__" : Str) 281), .none⟩] 3), #[]⟩
def o0_86 (P : Params) : Obj := ⟨(.type "type"), none, (.cls { name := ("WrongWord" : Str), bases := [(.ref 31)], mro := [(.ref 86), (.ref 31), (.type "ValueError"), (.type "Exception"), (.type "BaseException"), (.type "object")], ns := 85, qualname := ("WrongWord" : Str), hasDict := true, slotNames := [], subclasses := [(.ref 194)], abstract := false, collection := none, hasDel := false }), #[(some (.ref 68)), none, (some (.str ("WrongWord" : Str) 257)), (some (.str ("WrongWord" : Str) 265)), (some (.builtin "ValueError.__new__")), (some (.bool true))]⟩
def o0_87 (P : Params) : Obj := ⟨(.type "super"), none, (.fields #[(.ref 86), (.ref 86), (.ref 86)]), #[]⟩
def o0_88 (P : Params) : Obj := ⟨(.type "builtin_function_or_method"), none, (.fields #[(.builtin "object.__init_subclass__"), (.ref 86)]), #[]⟩
def o0_89 (P : Params) : Obj := ⟨(.type "tuple"), none, (.seq #[(.ref 31)] 0), #[]⟩
def o0_90 (P : Params) : Obj := ⟨(.type "builtin_function_or_method"), none, (.fields #[(.builtin "type.__prepare__"), (.type "type")]), #[]⟩
def o0_91 (P : Params) : Obj := ⟨(.type "dict"), none, (.dict #[⟨PyData.keyHash P ("__module__" : Str), (.str ("__module__" : Str) 291), (.str ("rosterneed.errors" : Str) 194)⟩, ⟨PyData.keyHash P ("__qualname__" : Str), (.str ("__qualname__" : Str) 293), (.str ("WrongNumber" : Str) 292)⟩, ⟨PyData.keyHash P ("__firstlineno__" : Str), (.str ("__firstlineno__" : Str) 295), (.int 19 294)⟩, ⟨PyData.keyHash P ("__init__" : Str), (.str ("__init__" : Str) 304), (.ref 104)⟩, ⟨PyData.keyHash P ("__static_attributes__" : Str), (.str ("__static_attributes__" : Str) 306), (.ref 105)⟩, ⟨PyData.keyHash P ("__classcell__" : Str), (.str ("__classcell__" : Str) 307), (.ref 92)⟩] 6), #[]⟩
def o0_92 (P : Params) : Obj := ⟨(.type "cell"), none, (.cell (some (.ref 107))), #[]⟩
def o0_93 (P : Params) : Obj := ⟨(.type "tuple"), none, (.seq #[] 0), #[]⟩
def o0_94 (P : Params) : Obj := ⟨.none, none, (.fields #[(.int 21 0), (.int 4 0), (.ref 103)]), #[]⟩
def o0_95 (P : Params) : Obj := ⟨(.type "code"), none, (.fields #[(.str ("WrongNumber" : Str) 286), (.str ("WrongNumber" : Str) 287), (.str ("/claim/cut.py" : Str) 288), (.int 19 0), (.int 0 0), (.int 0 0), (.int 0 0), (.int 0 0), (.ref 93), (.bool false), (.int 181 0), (.ref 94), .none, .none, .none, .none, (.int 289 0), (.int 19 0), (.str ("/claim/cut.py" : Str) 290)]), #[]⟩
def o0_96 (P : Params) : Obj := ⟨(.type "frame"), none, .plain, #[(some (.ref 95)), (some (.ref 3)), (some (.ref 91)), none, (some (.str ("rosterneed.errors" : Str) 194)), none, (some (.ref 0))]⟩
def o0_97 (P : Params) : Obj := ⟨(.type "tuple"), none, (.seq #[(.ref 92)] 0), #[]⟩
def o0_98 (P : Params) : Obj := ⟨(.type "tuple"), none, (.seq #[(.str ("__class__" : Str) 299)] 0), #[]⟩
def o0_99 (P : Params) : Obj := ⟨.none, none, (.fields #[]), #[]⟩
def o0_100 (P : Params) : Obj := ⟨(.type "tuple"), none, (.seq #[(.str ("self" : Str) 300), (.str ("number" : Str) 301)] 0), #[]⟩
def o0_101 (P : Params) : Obj := ⟨(.type "tuple"), none, (.seq #[] 0), #[]⟩
def o0_102 (P : Params) : Obj := ⟨.none, none, (.func { name := ("__init__" : Str), qualname := ("WrongNumber.__init__" : Str), params := defArgs tp6_0, body := .stmts (defBody tp6_0), scope := defScope tp6_0, globals := 0, closure := [], defaults := .none, kwdefaults := .none, doc := .none, pyModule := .none, annotations := none, code := .none, closureTuple := .none, builtins := 0 }), #[]⟩
def o0_103 (P : Params) : Obj := ⟨(.type "code"), none, (.fields #[(.str ("__init__" : Str) 296), (.str ("WrongNumber.__init__" : Str) 297), (.str ("/claim/cut.py" : Str) 298), (.int 21 0), (.int 2 0), (.int 0 0), (.int 0 0), (.int 3 0), (.ref 98), (.bool true), (.int 181 0), (.ref 99), .none, (.ref 100), (.ref 101), (.ref 102), (.int 302 0), (.int 21 0), (.str ("/claim/cut.py" : Str) 303)]), #[]⟩
def o0_104 (P : Params) : Obj := ⟨(.type "function"), none, (.func { name := ("__init__" : Str), qualname := ("WrongNumber.__init__" : Str), params := defArgs tp6_0, body := .stmts (defBody tp6_0), scope := defScope tp6_0, globals := 3, closure := [(("__class__" : Str), 92)], defaults := .none, kwdefaults := .none, doc := .none, pyModule := (.str ("rosterneed.errors" : Str) 194), annotations := none, code := (.ref 103), closureTuple := (.ref 97), builtins := 0 }), #[]⟩
def o0_105 (P : Params) : Obj := ⟨(.type "tuple"), none, (.seq #[(.str ("number" : Str) 305)] 0), #[]⟩
def o0_106 (P : Params) : Obj := ⟨(.type "dict"), none, (.dict #[⟨PyData.keyHash P ("__module__" : Str), (.str ("__module__" : Str) 291), (.str ("rosterneed.errors" : Str) 194)⟩, ⟨PyData.keyHash P ("__firstlineno__" : Str), (.str ("__firstlineno__" : Str) 295), (.int 19 294)⟩, ⟨PyData.keyHash P ("__init__" : Str), (.str ("__init__" : Str) 304), (.ref 104)⟩, ⟨PyData.keyHash P ("__static_attributes__" : Str), (.str ("__static_attributes__" : Str) 306), (.ref 105)⟩, ⟨PyData.keyHash P ("__doc__" : Str), (.str ("__doc__" : Str) 308), .none⟩] 3), #[]⟩
def o0_107 (P : Params) : Obj := ⟨(.type "type"), none, (.cls { name := ("WrongNumber" : Str), bases := [(.ref 31)], mro := [(.ref 107), (.ref 31), (.type "ValueError"), (.type "Exception"), (.type "BaseException"), (.type "object")], ns := 106, qualname := ("WrongNumber" : Str), hasDict := true, slotNames := [], subclasses := [], abstract := false, collection := none, hasDel := false }), #[(some (.ref 89)), none, (some (.str ("WrongNumber" : Str) 284)), (some (.str ("WrongNumber" : Str) 292)), (some (.builtin "ValueError.__new__")), (some (.bool true))]⟩
def o0_108 (P : Params) : Obj := ⟨(.type "super"), none, (.fields #[(.ref 107), (.ref 107), (.ref 107)]), #[]⟩
def o0_109 (P : Params) : Obj := ⟨(.type "builtin_function_or_method"), none, (.fields #[(.builtin "object.__init_subclass__"), (.ref 107)]), #[]⟩
def o0_110 (P : Params) : Obj := ⟨(.type "tuple"), none, (.seq #[(.ref 31)] 0), #[]⟩
def o0_111 (P : Params) : Obj := ⟨(.type "builtin_function_or_method"), none, (.fields #[(.builtin "type.__prepare__"), (.type "type")]), #[]⟩
def o0_112 (P : Params) : Obj := ⟨(.type "dict"), none, (.dict #[⟨PyData.keyHash P ("__module__" : Str), (.str ("__module__" : Str) 318), (.str ("rosterneed.errors" : Str) 194)⟩, ⟨PyData.keyHash P ("__qualname__" : Str), (.str ("__qualname__" : Str) 320), (.str ("WrongName" : Str) 319)⟩, ⟨PyData.keyHash P ("__firstlineno__" : Str), (.str ("__firstlineno__" : Str) 322), (.int 24 321)⟩, ⟨PyData.keyHash P ("__init__" : Str), (.str ("__init__" : Str) 331), (.ref 125)⟩, ⟨PyData.keyHash P ("__static_attributes__" : Str), (.str ("__static_attributes__" : Str) 333), (.ref 126)⟩, ⟨PyData.keyHash P ("__classcell__" : Str), (.str ("__classcell__" : Str) 334), (.ref 113)⟩] 6), #[]⟩
def o0_113 (P : Params) : Obj := ⟨(.type "cell"), none, (.cell (some (.ref 128))), #[]⟩
def o0_114 (P : Params) : Obj := ⟨(.type "tuple"), none, (.seq #[] 0), #[]⟩
def o0_115 (P : Params) : Obj := ⟨.none, none, (.fields #[(.int 26 0), (.int 4 0), (.ref 124)]), #[]⟩
def o0_116 (P : Params) : Obj := ⟨(.type "code"), none, (.fields #[(.str ("WrongName" : Str) 313), (.str ("WrongName" : Str) 314), (.str ("/claim/cut.py" : Str) 315), (.int 24 0), (.int 0 0), (.int 0 0), (.int 0 0), (.int 0 0), (.ref 114), (.bool false), (.int 181 0), (.ref 115), .none, .none, .none, .none, (.int 316 0), (.int 24 0), (.str ("/claim/cut.py" : Str) 317)]), #[]⟩
def o0_117 (P : Params) : Obj := ⟨(.type "frame"), none, .plain, #[(some (.ref 116)), (some (.ref 3)), (some (.ref 112)), none, (some (.str ("rosterneed.errors" : Str) 194)), none, (some (.ref 0))]⟩
def o0_118 (P : Params) : Obj := ⟨(.type "tuple"), none, (.seq #[(.ref 113)] 0), #[]⟩
def o0_119 (P : Params) : Obj := ⟨(.type "tuple"), none, (.seq #[(.str ("__class__" : Str) 326)] 0), #[]⟩
def o0_120 (P : Params) : Obj := ⟨.none, none, (.fields #[]), #[]⟩
def o0_121 (P : Params) : Obj := ⟨(.type "tuple"), none, (.seq #[(.str ("self" : Str) 327), (.str ("name" : Str) 328)] 0), #[]⟩
def o0_122 (P : Params) : Obj := ⟨(.type "tuple"), none, (.seq #[] 0), #[]⟩
def o0_123 (P : Params) : Obj := ⟨.none, none, (.func { name := ("__init__" : Str), qualname := ("WrongName.__init__" : Str), params := defArgs tp7_0, body := .stmts (defBody tp7_0), scope := defScope tp7_0, globals := 0, closure := [], defaults := .none, kwdefaults := .none, doc := .none, pyModule := .none, annotations := none, code := .none, closureTuple := .none, builtins := 0 }), #[]⟩
def o0_124 (P : Params) : Obj := ⟨(.type "code"), none, (.fields #[(.str ("__init__" : Str) 323), (.str ("WrongName.__init__" : Str) 324), (.str ("/claim/cut.py" : Str) 325), (.int 26 0), (.int 2 0), (.int 0 0), (.int 0 0), (.int 3 0), (.ref 119), (.bool true), (.int 181 0), (.ref 120), .none, (.ref 121), (.ref 122), (.ref 123), (.int 329 0), (.int 26 0), (.str ("/claim/cut.py" : Str) 330)]), #[]⟩
def o0_125 (P : Params) : Obj := ⟨(.type "function"), none, (.func { name := ("__init__" : Str), qualname := ("WrongName.__init__" : Str), params := defArgs tp7_0, body := .stmts (defBody tp7_0), scope := defScope tp7_0, globals := 3, closure := [(("__class__" : Str), 113)], defaults := .none, kwdefaults := .none, doc := .none, pyModule := (.str ("rosterneed.errors" : Str) 194), annotations := none, code := (.ref 124), closureTuple := (.ref 118), builtins := 0 }), #[]⟩
def o0_126 (P : Params) : Obj := ⟨(.type "tuple"), none, (.seq #[(.str ("name" : Str) 332)] 0), #[]⟩
def o0_127 (P : Params) : Obj := ⟨(.type "dict"), none, (.dict #[⟨PyData.keyHash P ("__module__" : Str), (.str ("__module__" : Str) 318), (.str ("rosterneed.errors" : Str) 194)⟩, ⟨PyData.keyHash P ("__firstlineno__" : Str), (.str ("__firstlineno__" : Str) 322), (.int 24 321)⟩, ⟨PyData.keyHash P ("__init__" : Str), (.str ("__init__" : Str) 331), (.ref 125)⟩, ⟨PyData.keyHash P ("__static_attributes__" : Str), (.str ("__static_attributes__" : Str) 333), (.ref 126)⟩, ⟨PyData.keyHash P ("__doc__" : Str), (.str ("__doc__" : Str) 335), .none⟩] 3), #[]⟩
def o0_128 (P : Params) : Obj := ⟨(.type "type"), none, (.cls { name := ("WrongName" : Str), bases := [(.ref 31)], mro := [(.ref 128), (.ref 31), (.type "ValueError"), (.type "Exception"), (.type "BaseException"), (.type "object")], ns := 127, qualname := ("WrongName" : Str), hasDict := true, slotNames := [], subclasses := [], abstract := false, collection := none, hasDel := false }), #[(some (.ref 110)), none, (some (.str ("WrongName" : Str) 311)), (some (.str ("WrongName" : Str) 319)), (some (.builtin "ValueError.__new__")), (some (.bool true))]⟩
def o0_129 (P : Params) : Obj := ⟨(.type "super"), none, (.fields #[(.ref 128), (.ref 128), (.ref 128)]), #[]⟩
def o0_130 (P : Params) : Obj := ⟨(.type "builtin_function_or_method"), none, (.fields #[(.builtin "object.__init_subclass__"), (.ref 128)]), #[]⟩
def o0_131 (P : Params) : Obj := ⟨(.type "tuple"), none, (.seq #[(.ref 44)] 0), #[]⟩
def o0_132 (P : Params) : Obj := ⟨(.type "builtin_function_or_method"), none, (.fields #[(.builtin "type.__prepare__"), (.type "type")]), #[]⟩
def o0_133 (P : Params) : Obj := ⟨(.type "dict"), none, (.dict #[⟨PyData.keyHash P ("__module__" : Str), (.str ("__module__" : Str) 345), (.str ("rosterneed.errors" : Str) 194)⟩, ⟨PyData.keyHash P ("__qualname__" : Str), (.str ("__qualname__" : Str) 347), (.str ("BadLine" : Str) 346)⟩, ⟨PyData.keyHash P ("__firstlineno__" : Str), (.str ("__firstlineno__" : Str) 349), (.int 29 348)⟩, ⟨PyData.keyHash P ("__init__" : Str), (.str ("__init__" : Str) 358), (.ref 146)⟩, ⟨PyData.keyHash P ("__static_attributes__" : Str), (.str ("__static_attributes__" : Str) 360), (.ref 147)⟩, ⟨PyData.keyHash P ("__classcell__" : Str), (.str ("__classcell__" : Str) 361), (.ref 134)⟩] 6), #[]⟩
def o0_134 (P : Params) : Obj := ⟨(.type "cell"), none, (.cell (some (.ref 149))), #[]⟩
def o0_135 (P : Params) : Obj := ⟨(.type "tuple"), none, (.seq #[] 0), #[]⟩
def o0_136 (P : Params) : Obj := ⟨.none, none, (.fields #[(.int 31 0), (.int 4 0), (.ref 145)]), #[]⟩
def o0_137 (P : Params) : Obj := ⟨(.type "code"), none, (.fields #[(.str ("BadLine" : Str) 340), (.str ("BadLine" : Str) 341), (.str ("/claim/cut.py" : Str) 342), (.int 29 0), (.int 0 0), (.int 0 0), (.int 0 0), (.int 0 0), (.ref 135), (.bool false), (.int 181 0), (.ref 136), .none, .none, .none, .none, (.int 343 0), (.int 29 0), (.str ("/claim/cut.py" : Str) 344)]), #[]⟩
def o0_138 (P : Params) : Obj := ⟨(.type "frame"), none, .plain, #[(some (.ref 137)), (some (.ref 3)), (some (.ref 133)), none, (some (.str ("rosterneed.errors" : Str) 194)), none, (some (.ref 0))]⟩
def o0_139 (P : Params) : Obj := ⟨(.type "tuple"), none, (.seq #[(.ref 134)] 0), #[]⟩
def o0_140 (P : Params) : Obj := ⟨(.type "tuple"), none, (.seq #[(.str ("__class__" : Str) 353)] 0), #[]⟩
def o0_141 (P : Params) : Obj := ⟨.none, none, (.fields #[]), #[]⟩
def o0_142 (P : Params) : Obj := ⟨(.type "tuple"), none, (.seq #[(.str ("self" : Str) 354), (.str ("line" : Str) 355)] 0), #[]⟩
def o0_143 (P : Params) : Obj := ⟨(.type "tuple"), none, (.seq #[] 0), #[]⟩
def o0_144 (P : Params) : Obj := ⟨.none, none, (.func { name := ("__init__" : Str), qualname := ("BadLine.__init__" : Str), params := defArgs tp8_0, body := .stmts (defBody tp8_0), scope := defScope tp8_0, globals := 0, closure := [], defaults := .none, kwdefaults := .none, doc := .none, pyModule := .none, annotations := none, code := .none, closureTuple := .none, builtins := 0 }), #[]⟩
def o0_145 (P : Params) : Obj := ⟨(.type "code"), none, (.fields #[(.str ("__init__" : Str) 350), (.str ("BadLine.__init__" : Str) 351), (.str ("/claim/cut.py" : Str) 352), (.int 31 0), (.int 2 0), (.int 0 0), (.int 0 0), (.int 3 0), (.ref 140), (.bool true), (.int 181 0), (.ref 141), .none, (.ref 142), (.ref 143), (.ref 144), (.int 356 0), (.int 31 0), (.str ("/claim/cut.py" : Str) 357)]), #[]⟩
def o0_146 (P : Params) : Obj := ⟨(.type "function"), none, (.func { name := ("__init__" : Str), qualname := ("BadLine.__init__" : Str), params := defArgs tp8_0, body := .stmts (defBody tp8_0), scope := defScope tp8_0, globals := 3, closure := [(("__class__" : Str), 134)], defaults := .none, kwdefaults := .none, doc := .none, pyModule := (.str ("rosterneed.errors" : Str) 194), annotations := none, code := (.ref 145), closureTuple := (.ref 139), builtins := 0 }), #[]⟩
def o0_147 (P : Params) : Obj := ⟨(.type "tuple"), none, (.seq #[(.str ("line" : Str) 359)] 0), #[]⟩
def o0_148 (P : Params) : Obj := ⟨(.type "dict"), none, (.dict #[⟨PyData.keyHash P ("__module__" : Str), (.str ("__module__" : Str) 345), (.str ("rosterneed.errors" : Str) 194)⟩, ⟨PyData.keyHash P ("__firstlineno__" : Str), (.str ("__firstlineno__" : Str) 349), (.int 29 348)⟩, ⟨PyData.keyHash P ("__init__" : Str), (.str ("__init__" : Str) 358), (.ref 146)⟩, ⟨PyData.keyHash P ("__static_attributes__" : Str), (.str ("__static_attributes__" : Str) 360), (.ref 147)⟩, ⟨PyData.keyHash P ("__doc__" : Str), (.str ("__doc__" : Str) 362), .none⟩] 3), #[]⟩
def o0_149 (P : Params) : Obj := ⟨(.type "type"), none, (.cls { name := ("BadLine" : Str), bases := [(.ref 44)], mro := [(.ref 149), (.ref 44), (.ref 31), (.type "ValueError"), (.type "Exception"), (.type "BaseException"), (.type "object")], ns := 148, qualname := ("BadLine" : Str), hasDict := true, slotNames := [], subclasses := [], abstract := false, collection := none, hasDel := false }), #[(some (.ref 131)), none, (some (.str ("BadLine" : Str) 338)), (some (.str ("BadLine" : Str) 346)), (some (.builtin "ValueError.__new__")), (some (.bool true))]⟩
def o0_150 (P : Params) : Obj := ⟨(.type "super"), none, (.fields #[(.ref 149), (.ref 149), (.ref 149)]), #[]⟩
def o0_151 (P : Params) : Obj := ⟨(.type "builtin_function_or_method"), none, (.fields #[(.builtin "object.__init_subclass__"), (.ref 149)]), #[]⟩
def o0_152 (P : Params) : Obj := ⟨(.type "tuple"), none, (.seq #[(.ref 31)] 0), #[]⟩
def o0_153 (P : Params) : Obj := ⟨(.type "builtin_function_or_method"), none, (.fields #[(.builtin "type.__prepare__"), (.type "type")]), #[]⟩
def o0_154 (P : Params) : Obj := ⟨(.type "dict"), none, (.dict #[⟨PyData.keyHash P ("__module__" : Str), (.str ("__module__" : Str) 372), (.str ("rosterneed.errors" : Str) 194)⟩, ⟨PyData.keyHash P ("__qualname__" : Str), (.str ("__qualname__" : Str) 374), (.str ("TooMany" : Str) 373)⟩, ⟨PyData.keyHash P ("__firstlineno__" : Str), (.str ("__firstlineno__" : Str) 376), (.int 34 375)⟩, ⟨PyData.keyHash P ("__init__" : Str), (.str ("__init__" : Str) 385), (.ref 167)⟩, ⟨PyData.keyHash P ("__static_attributes__" : Str), (.str ("__static_attributes__" : Str) 387), (.ref 168)⟩, ⟨PyData.keyHash P ("__classcell__" : Str), (.str ("__classcell__" : Str) 388), (.ref 155)⟩] 6), #[]⟩
def o0_155 (P : Params) : Obj := ⟨(.type "cell"), none, (.cell (some (.ref 170))), #[]⟩
def o0_156 (P : Params) : Obj := ⟨(.type "tuple"), none, (.seq #[] 0), #[]⟩
def o0_157 (P : Params) : Obj := ⟨.none, none, (.fields #[(.int 36 0), (.int 4 0), (.ref 166)]), #[]⟩
def o0_158 (P : Params) : Obj := ⟨(.type "code"), none, (.fields #[(.str ("TooMany" : Str) 367), (.str ("TooMany" : Str) 368), (.str ("/claim/cut.py" : Str) 369), (.int 34 0), (.int 0 0), (.int 0 0), (.int 0 0), (.int 0 0), (.ref 156), (.bool false), (.int 181 0), (.ref 157), .none, .none, .none, .none, (.int 370 0), (.int 34 0), (.str ("/claim/cut.py" : Str) 371)]), #[]⟩
def o0_159 (P : Params) : Obj := ⟨(.type "frame"), none, .plain, #[(some (.ref 158)), (some (.ref 3)), (some (.ref 154)), none, (some (.str ("rosterneed.errors" : Str) 194)), none, (some (.ref 0))]⟩
def o0_160 (P : Params) : Obj := ⟨(.type "tuple"), none, (.seq #[(.ref 155)] 0), #[]⟩
def o0_161 (P : Params) : Obj := ⟨(.type "tuple"), none, (.seq #[(.str ("__class__" : Str) 380)] 0), #[]⟩
def o0_162 (P : Params) : Obj := ⟨.none, none, (.fields #[]), #[]⟩
def o0_163 (P : Params) : Obj := ⟨(.type "tuple"), none, (.seq #[(.str ("self" : Str) 381), (.str ("word" : Str) 382)] 0), #[]⟩
def o0_164 (P : Params) : Obj := ⟨(.type "tuple"), none, (.seq #[] 0), #[]⟩
def o0_165 (P : Params) : Obj := ⟨.none, none, (.func { name := ("__init__" : Str), qualname := ("TooMany.__init__" : Str), params := defArgs tp9_0, body := .stmts (defBody tp9_0), scope := defScope tp9_0, globals := 0, closure := [], defaults := .none, kwdefaults := .none, doc := .none, pyModule := .none, annotations := none, code := .none, closureTuple := .none, builtins := 0 }), #[]⟩
def o0_166 (P : Params) : Obj := ⟨(.type "code"), none, (.fields #[(.str ("__init__" : Str) 377), (.str ("TooMany.__init__" : Str) 378), (.str ("/claim/cut.py" : Str) 379), (.int 36 0), (.int 2 0), (.int 0 0), (.int 0 0), (.int 3 0), (.ref 161), (.bool true), (.int 181 0), (.ref 162), .none, (.ref 163), (.ref 164), (.ref 165), (.int 383 0), (.int 36 0), (.str ("/claim/cut.py" : Str) 384)]), #[]⟩
def o0_167 (P : Params) : Obj := ⟨(.type "function"), none, (.func { name := ("__init__" : Str), qualname := ("TooMany.__init__" : Str), params := defArgs tp9_0, body := .stmts (defBody tp9_0), scope := defScope tp9_0, globals := 3, closure := [(("__class__" : Str), 155)], defaults := .none, kwdefaults := .none, doc := .none, pyModule := (.str ("rosterneed.errors" : Str) 194), annotations := none, code := (.ref 166), closureTuple := (.ref 160), builtins := 0 }), #[]⟩
def o0_168 (P : Params) : Obj := ⟨(.type "tuple"), none, (.seq #[(.str ("word" : Str) 386)] 0), #[]⟩
def o0_169 (P : Params) : Obj := ⟨(.type "dict"), none, (.dict #[⟨PyData.keyHash P ("__module__" : Str), (.str ("__module__" : Str) 372), (.str ("rosterneed.errors" : Str) 194)⟩, ⟨PyData.keyHash P ("__firstlineno__" : Str), (.str ("__firstlineno__" : Str) 376), (.int 34 375)⟩, ⟨PyData.keyHash P ("__init__" : Str), (.str ("__init__" : Str) 385), (.ref 167)⟩, ⟨PyData.keyHash P ("__static_attributes__" : Str), (.str ("__static_attributes__" : Str) 387), (.ref 168)⟩, ⟨PyData.keyHash P ("__doc__" : Str), (.str ("__doc__" : Str) 389), .none⟩] 3), #[]⟩
def o0_170 (P : Params) : Obj := ⟨(.type "type"), none, (.cls { name := ("TooMany" : Str), bases := [(.ref 31)], mro := [(.ref 170), (.ref 31), (.type "ValueError"), (.type "Exception"), (.type "BaseException"), (.type "object")], ns := 169, qualname := ("TooMany" : Str), hasDict := true, slotNames := [], subclasses := [], abstract := false, collection := none, hasDel := false }), #[(some (.ref 152)), none, (some (.str ("TooMany" : Str) 365)), (some (.str ("TooMany" : Str) 373)), (some (.builtin "ValueError.__new__")), (some (.bool true))]⟩
def o0_171 (P : Params) : Obj := ⟨(.type "super"), none, (.fields #[(.ref 170), (.ref 170), (.ref 170)]), #[]⟩
def o0_172 (P : Params) : Obj := ⟨(.type "builtin_function_or_method"), none, (.fields #[(.builtin "object.__init_subclass__"), (.ref 170)]), #[]⟩
def o0_173 (P : Params) : Obj := ⟨(.type "tuple"), none, (.seq #[(.ref 65)] 0), #[]⟩
def o0_174 (P : Params) : Obj := ⟨(.type "builtin_function_or_method"), none, (.fields #[(.builtin "type.__prepare__"), (.type "type")]), #[]⟩
def o0_175 (P : Params) : Obj := ⟨(.type "dict"), none, (.dict #[⟨PyData.keyHash P ("__module__" : Str), (.str ("__module__" : Str) 399), (.str ("rosterneed.errors" : Str) 194)⟩, ⟨PyData.keyHash P ("__qualname__" : Str), (.str ("__qualname__" : Str) 401), (.str ("Lacking" : Str) 400)⟩, ⟨PyData.keyHash P ("__firstlineno__" : Str), (.str ("__firstlineno__" : Str) 403), (.int 39 402)⟩, ⟨PyData.keyHash P ("__static_attributes__" : Str), (.str ("__static_attributes__" : Str) 404), (.ref 180)⟩] 4), #[]⟩
def o0_176 (P : Params) : Obj := ⟨(.type "tuple"), none, (.seq #[] 0), #[]⟩
def o0_177 (P : Params) : Obj := ⟨.none, none, (.fields #[]), #[]⟩
def o0_178 (P : Params) : Obj := ⟨(.type "code"), none, (.fields #[(.str ("Lacking" : Str) 394), (.str ("Lacking" : Str) 395), (.str ("/claim/cut.py" : Str) 396), (.int 39 0), (.int 0 0), (.int 0 0), (.int 0 0), (.int 0 0), (.ref 176), (.bool false), (.int 181 0), (.ref 177), .none, .none, .none, .none, (.int 397 0), (.int 39 0), (.str ("/claim/cut.py" : Str) 398)]), #[]⟩
def o0_179 (P : Params) : Obj := ⟨(.type "frame"), none, .plain, #[(some (.ref 178)), (some (.ref 3)), (some (.ref 175)), none, (some (.str ("rosterneed.errors" : Str) 194)), none, (some (.ref 0))]⟩
def o0_180 (P : Params) : Obj := ⟨(.type "tuple"), none, (.seq #[] 0), #[]⟩
def o0_181 (P : Params) : Obj := ⟨(.type "dict"), none, (.dict #[⟨PyData.keyHash P ("__module__" : Str), (.str ("__module__" : Str) 399), (.str ("rosterneed.errors" : Str) 194)⟩, ⟨PyData.keyHash P ("__firstlineno__" : Str), (.str ("__firstlineno__" : Str) 403), (.int 39 402)⟩, ⟨PyData.keyHash P ("__static_attributes__" : Str), (.str ("__static_attributes__" : Str) 404), (.ref 180)⟩, ⟨PyData.keyHash P ("__doc__" : Str), (.str ("__doc__" : Str) 405), .none⟩] 2), #[]⟩
def o0_182 (P : Params) : Obj := ⟨(.type "type"), none, (.cls { name := ("Lacking" : Str), bases := [(.ref 65)], mro := [(.ref 182), (.ref 65), (.ref 31), (.type "ValueError"), (.type "Exception"), (.type "BaseException"), (.type "object")], ns := 181, qualname := ("Lacking" : Str), hasDict := true, slotNames := [], subclasses := [], abstract := false, collection := none, hasDel := false }), #[(some (.ref 173)), none, (some (.str ("Lacking" : Str) 392)), (some (.str ("Lacking" : Str) 400)), (some (.builtin "ValueError.__new__")), (some (.bool true))]⟩
def o0_183 (P : Params) : Obj := ⟨(.type "super"), none, (.fields #[(.ref 182), (.ref 182), (.ref 182)]), #[]⟩
def o0_184 (P : Params) : Obj := ⟨(.type "builtin_function_or_method"), none, (.fields #[(.builtin "object.__init_subclass__"), (.ref 182)]), #[]⟩
def o0_185 (P : Params) : Obj := ⟨(.type "tuple"), none, (.seq #[(.ref 86)] 0), #[]⟩
def o0_186 (P : Params) : Obj := ⟨(.type "builtin_function_or_method"), none, (.fields #[(.builtin "type.__prepare__"), (.type "type")]), #[]⟩
def o0_187 (P : Params) : Obj := ⟨(.type "dict"), none, (.dict #[⟨PyData.keyHash P ("__module__" : Str), (.str ("__module__" : Str) 415), (.str ("rosterneed.errors" : Str) 194)⟩, ⟨PyData.keyHash P ("__qualname__" : Str), (.str ("__qualname__" : Str) 417), (.str ("BadMaker" : Str) 416)⟩, ⟨PyData.keyHash P ("__firstlineno__" : Str), (.str ("__firstlineno__" : Str) 419), (.int 41 418)⟩, ⟨PyData.keyHash P ("__static_attributes__" : Str), (.str ("__static_attributes__" : Str) 420), (.ref 192)⟩] 4), #[]⟩
def o0_188 (P : Params) : Obj := ⟨(.type "tuple"), none, (.seq #[] 0), #[]⟩
def o0_189 (P : Params) : Obj := ⟨.none, none, (.fields #[]), #[]⟩
def o0_190 (P : Params) : Obj := ⟨(.type "code"), none, (.fields #[(.str ("BadMaker" : Str) 410), (.str ("BadMaker" : Str) 411), (.str ("/claim/cut.py" : Str) 412), (.int 41 0), (.int 0 0), (.int 0 0), (.int 0 0), (.int 0 0), (.ref 188), (.bool false), (.int 181 0), (.ref 189), .none, .none, .none, .none, (.int 413 0), (.int 41 0), (.str ("/claim/cut.py" : Str) 414)]), #[]⟩
def o0_191 (P : Params) : Obj := ⟨(.type "frame"), none, .plain, #[(some (.ref 190)), (some (.ref 3)), (some (.ref 187)), none, (some (.str ("rosterneed.errors" : Str) 194)), none, (some (.ref 0))]⟩
def o0_192 (P : Params) : Obj := ⟨(.type "tuple"), none, (.seq #[] 0), #[]⟩
def o0_193 (P : Params) : Obj := ⟨(.type "dict"), none, (.dict #[⟨PyData.keyHash P ("__module__" : Str), (.str ("__module__" : Str) 415), (.str ("rosterneed.errors" : Str) 194)⟩, ⟨PyData.keyHash P ("__firstlineno__" : Str), (.str ("__firstlineno__" : Str) 419), (.int 41 418)⟩, ⟨PyData.keyHash P ("__static_attributes__" : Str), (.str ("__static_attributes__" : Str) 420), (.ref 192)⟩, ⟨PyData.keyHash P ("__doc__" : Str), (.str ("__doc__" : Str) 421), .none⟩] 2), #[]⟩
def o0_194 (P : Params) : Obj := ⟨(.type "type"), none, (.cls { name := ("BadMaker" : Str), bases := [(.ref 86)], mro := [(.ref 194), (.ref 86), (.ref 31), (.type "ValueError"), (.type "Exception"), (.type "BaseException"), (.type "object")], ns := 193, qualname := ("BadMaker" : Str), hasDict := true, slotNames := [], subclasses := [], abstract := false, collection := none, hasDel := false }), #[(some (.ref 185)), none, (some (.str ("BadMaker" : Str) 408)), (some (.str ("BadMaker" : Str) 416)), (some (.builtin "ValueError.__new__")), (some (.bool true))]⟩
def o0_195 (P : Params) : Obj := ⟨(.type "super"), none, (.fields #[(.ref 194), (.ref 194), (.ref 194)]), #[]⟩
def o0_196 (P : Params) : Obj := ⟨(.type "builtin_function_or_method"), none, (.fields #[(.builtin "object.__init_subclass__"), (.ref 194)]), #[]⟩
def t0 (P : Params) : BT := (.node (boot_o_0 P) (.node (boot_o_1 P) (.node (o0_3 P) (.node (boot_o_7 P) (.node (o0_15 P) (.node (o0_31 P) (.node (o0_63 P) (.node (o0_127 P) .nil .nil) (.node (o0_191 P) .nil .nil)) (.node (o0_95 P) (.node (o0_159 P) .nil .nil) .nil)) (.node (o0_47 P) (.node (o0_79 P) (.node (o0_143 P) .nil .nil) .nil) (.node (o0_111 P) (.node (o0_175 P) .nil .nil) .nil))) (.node (o0_23 P) (.node (o0_39 P) (.node (o0_71 P) (.node (o0_135 P) .nil .nil) .nil) (.node (o0_103 P) (.node (o0_167 P) .nil .nil) .nil)) (.node (o0_55 P) (.node (o0_87 P) (.node (o0_151 P) .nil .nil) .nil) (.node (o0_119 P) (.node (o0_183 P) .nil .nil) .nil)))) (.node (oa_11 P) (.node (o0_19 P) (.node (o0_35 P) (.node (o0_67 P) (.node (o0_131 P) .nil .nil) (.node (o0_195 P) .nil .nil)) (.node (o0_99 P) (.node (o0_163 P) .nil .nil) .nil)) (.node (o0_51 P) (.node (o0_83 P) (.node (o0_147 P) .nil .nil) .nil) (.node (o0_115 P) (.node (o0_179 P) .nil .nil) .nil))) (.node (o0_27 P) (.node (o0_43 P) (.node (o0_75 P) (.node (o0_139 P) .nil .nil) .nil) (.node (o0_107 P) (.node (o0_171 P) .nil .nil) .nil)) (.node (o0_59 P) (.node (o0_91 P) (.node (o0_155 P) .nil .nil) .nil) (.node (o0_123 P) (.node (o0_187 P) .nil .nil) .nil))))) (.node (boot_o_5 P) (.node (boot_o_9 P) (.node (o0_17 P) (.node (o0_33 P) (.node (o0_65 P) (.node (o0_129 P) .nil .nil) (.node (o0_193 P) .nil .nil)) (.node (o0_97 P) (.node (o0_161 P) .nil .nil) .nil)) (.node (o0_49 P) (.node (o0_81 P) (.node (o0_145 P) .nil .nil) .nil) (.node (o0_113 P) (.node (o0_177 P) .nil .nil) .nil))) (.node (o0_25 P) (.node (o0_41 P) (.node (o0_73 P) (.node (o0_137 P) .nil .nil) .nil) (.node (o0_105 P) (.node (o0_169 P) .nil .nil) .nil)) (.node (o0_57 P) (.node (o0_89 P) (.node (o0_153 P) .nil .nil) .nil) (.node (o0_121 P) (.node (o0_185 P) .nil .nil) .nil)))) (.node (oa_13 P) (.node (o0_21 P) (.node (o0_37 P) (.node (o0_69 P) (.node (o0_133 P) .nil .nil) .nil) (.node (o0_101 P) (.node (o0_165 P) .nil .nil) .nil)) (.node (o0_53 P) (.node (o0_85 P) (.node (o0_149 P) .nil .nil) .nil) (.node (o0_117 P) (.node (o0_181 P) .nil .nil) .nil))) (.node (o0_29 P) (.node (o0_45 P) (.node (o0_77 P) (.node (o0_141 P) .nil .nil) .nil) (.node (o0_109 P) (.node (o0_173 P) .nil .nil) .nil)) (.node (o0_61 P) (.node (o0_93 P) (.node (o0_157 P) .nil .nil) .nil) (.node (o0_125 P) (.node (o0_189 P) .nil .nil) .nil)))))) (.node (boot_o_2 P) (.node (boot_o_4 P) (.node (boot_o_8 P) (.node (o0_16 P) (.node (o0_32 P) (.node (o0_64 P) (.node (o0_128 P) .nil .nil) (.node (o0_192 P) .nil .nil)) (.node (o0_96 P) (.node (o0_160 P) .nil .nil) .nil)) (.node (o0_48 P) (.node (o0_80 P) (.node (o0_144 P) .nil .nil) .nil) (.node (o0_112 P) (.node (o0_176 P) .nil .nil) .nil))) (.node (o0_24 P) (.node (o0_40 P) (.node (o0_72 P) (.node (o0_136 P) .nil .nil) .nil) (.node (o0_104 P) (.node (o0_168 P) .nil .nil) .nil)) (.node (o0_56 P) (.node (o0_88 P) (.node (o0_152 P) .nil .nil) .nil) (.node (o0_120 P) (.node (o0_184 P) .nil .nil) .nil)))) (.node (o0_12 P) (.node (o0_20 P) (.node (o0_36 P) (.node (o0_68 P) (.node (o0_132 P) .nil .nil) (.node (o0_196 P) .nil .nil)) (.node (o0_100 P) (.node (o0_164 P) .nil .nil) .nil)) (.node (o0_52 P) (.node (o0_84 P) (.node (o0_148 P) .nil .nil) .nil) (.node (o0_116 P) (.node (o0_180 P) .nil .nil) .nil))) (.node (o0_28 P) (.node (o0_44 P) (.node (o0_76 P) (.node (o0_140 P) .nil .nil) .nil) (.node (o0_108 P) (.node (o0_172 P) .nil .nil) .nil)) (.node (o0_60 P) (.node (o0_92 P) (.node (o0_156 P) .nil .nil) .nil) (.node (o0_124 P) (.node (o0_188 P) .nil .nil) .nil))))) (.node (boot_o_6 P) (.node (boot_o_10 P) (.node (o0_18 P) (.node (o0_34 P) (.node (o0_66 P) (.node (o0_130 P) .nil .nil) (.node (o0_194 P) .nil .nil)) (.node (o0_98 P) (.node (o0_162 P) .nil .nil) .nil)) (.node (o0_50 P) (.node (o0_82 P) (.node (o0_146 P) .nil .nil) .nil) (.node (o0_114 P) (.node (o0_178 P) .nil .nil) .nil))) (.node (o0_26 P) (.node (o0_42 P) (.node (o0_74 P) (.node (o0_138 P) .nil .nil) .nil) (.node (o0_106 P) (.node (o0_170 P) .nil .nil) .nil)) (.node (o0_58 P) (.node (o0_90 P) (.node (o0_154 P) .nil .nil) .nil) (.node (o0_122 P) (.node (o0_186 P) .nil .nil) .nil)))) (.node (oa_14 P) (.node (o0_22 P) (.node (o0_38 P) (.node (o0_70 P) (.node (o0_134 P) .nil .nil) .nil) (.node (o0_102 P) (.node (o0_166 P) .nil .nil) .nil)) (.node (o0_54 P) (.node (o0_86 P) (.node (o0_150 P) .nil .nil) .nil) (.node (o0_118 P) (.node (o0_182 P) .nil .nil) .nil))) (.node (o0_30 P) (.node (o0_46 P) (.node (o0_78 P) (.node (o0_142 P) .nil .nil) .nil) (.node (o0_110 P) (.node (o0_174 P) .nil .nil) .nil)) (.node (o0_62 P) (.node (o0_94 P) (.node (o0_158 P) .nil .nil) .nil) (.node (o0_126 P) (.node (o0_190 P) .nil .nil) .nil)))))))
def S0 (w : World) (os : OsState) : SharedT := ⟨t0 w.params, 197, {}, #[], {}, 424, os⟩
def p0 : Pos := ⟨41, 0, 42, 8⟩
def o1_3 (P : Params) : Obj := ⟨(.type "dict"), none, (.dict #[⟨PyData.keyHash P ("__name__" : Str), (.str ("__name__" : Str) 165), (.str ("rosterneed.webtext" : Str) 722)⟩, ⟨PyData.keyHash P ("__doc__" : Str), (.str ("__doc__" : Str) 166), .none⟩, ⟨PyData.keyHash P ("__package__" : Str), (.str ("__package__" : Str) 167), .none⟩, ⟨PyData.keyHash P ("__loader__" : Str), (.str ("__loader__" : Str) 168), (.builtin "__main__.__loader__#opaque")⟩, ⟨PyData.keyHash P ("__spec__" : Str), (.str ("__spec__" : Str) 169), .none⟩, ⟨PyData.keyHash P ("__annotations__" : Str), (.str ("__annotations__" : Str) 170), (.ref 6)⟩, ⟨PyData.keyHash P ("__builtins__" : Str), (.str ("__builtins__" : Str) 171), (.ref 4)⟩, ⟨PyData.keyHash P ("__file__" : Str), (.str ("__file__" : Str) 173), (.str ("/claim/cut.py" : Str) 172)⟩, ⟨PyData.keyHash P ("__cached__" : Str), (.str ("__cached__" : Str) 174), .none⟩, ⟨PyData.keyHash P ("_wall" : Str), (.str ("_wall" : Str) 193), (.ref 21)⟩, ⟨PyData.keyHash P ("RosterneedError" : Str), (.str ("RosterneedError" : Str) 213), (.ref 31)⟩, ⟨PyData.keyHash P ("Unreadable" : Str), (.str ("Unreadable" : Str) 229), (.ref 44)⟩, ⟨PyData.keyHash P ("WrongThing" : Str), (.str ("WrongThing" : Str) 256), (.ref 65)⟩, ⟨PyData.keyHash P ("WrongWord" : Str), (.str ("WrongWord" : Str) 283), (.ref 86)⟩, ⟨PyData.keyHash P ("WrongNumber" : Str), (.str ("WrongNumber" : Str) 310), (.ref 107)⟩, ⟨PyData.keyHash P ("WrongName" : Str), (.str ("WrongName" : Str) 337), (.ref 128)⟩, ⟨PyData.keyHash P ("BadLine" : Str), (.str ("BadLine" : Str) 364), (.ref 149)⟩, ⟨PyData.keyHash P ("TooMany" : Str), (.str ("TooMany" : Str) 391), (.ref 170)⟩, ⟨PyData.keyHash P ("Lacking" : Str), (.str ("Lacking" : Str) 407), (.ref 182)⟩, ⟨PyData.keyHash P ("BadMaker" : Str), (.str ("BadMaker" : Str) 423), (.ref 194)⟩, ⟨PyData.keyHash P ("BadName" : Str), (.str ("BadName" : Str) 439), (.ref 206)⟩, ⟨PyData.keyHash P ("BadRow" : Str), (.str ("BadRow" : Str) 455), (.ref 218)⟩, ⟨PyData.keyHash P ("Twice" : Str), (.str ("Twice" : Str) 471), (.ref 230)⟩, ⟨PyData.keyHash P ("is_integer" : Str), (.str ("is_integer" : Str) 480), (.ref 239)⟩, ⟨PyData.keyHash P ("is_listed" : Str), (.str ("is_listed" : Str) 487), (.ref 246)⟩, ⟨PyData.keyHash P ("deep" : Str), (.str ("deep" : Str) 493), (.ref 251)⟩, ⟨PyData.keyHash P ("is_word" : Str), (.str ("is_word" : Str) 505), (.ref 259)⟩, ⟨PyData.keyHash P ("GIVE" : Str), (.str ("GIVE" : Str) 509), (.str ("give" : Str) 508)⟩, ⟨PyData.keyHash P ("MOST_INLETS" : Str), (.str ("MOST_INLETS" : Str) 511), (.int 3 510)⟩, ⟨PyData.keyHash P ("MOST_WAYS" : Str), (.str ("MOST_WAYS" : Str) 513), (.int 4 512)⟩, ⟨PyData.keyHash P ("MOST_DEEDS" : Str), (.str ("MOST_DEEDS" : Str) 515), (.int 600 514)⟩, ⟨PyData.keyHash P ("MOST_DEEDS_EACH" : Str), (.str ("MOST_DEEDS_EACH" : Str) 517), (.int 24 516)⟩, ⟨PyData.keyHash P ("is_deed" : Str), (.str ("is_deed" : Str) 525), (.ref 266)⟩, ⟨PyData.keyHash P ("is_deeds" : Str), (.str ("is_deeds" : Str) 531), (.ref 271)⟩, ⟨PyData.keyHash P ("is_ways" : Str), (.str ("is_ways" : Str) 537), (.ref 276)⟩, ⟨PyData.keyHash P ("Maker" : Str), (.str ("Maker" : Str) 584), (.ref 305)⟩, ⟨PyData.keyHash P ("MOST_GIVENS" : Str), (.str ("MOST_GIVENS" : Str) 588), (.int 3 587)⟩, ⟨PyData.keyHash P ("MOST_ROWS" : Str), (.str ("MOST_ROWS" : Str) 590), (.int 6 589)⟩, ⟨PyData.keyHash P ("is_row_name" : Str), (.str ("is_row_name" : Str) 597), (.ref 316)⟩, ⟨PyData.keyHash P ("is_unknown_name" : Str), (.str ("is_unknown_name" : Str) 604), (.ref 323)⟩, ⟨PyData.keyHash P ("is_row" : Str), (.str ("is_row" : Str) 610), (.ref 328)⟩, ⟨PyData.keyHash P ("check_givens" : Str), (.str ("check_givens" : Str) 619), (.ref 335)⟩, ⟨PyData.keyHash P ("check_rows" : Str), (.str ("check_rows" : Str) 630), (.ref 342)⟩, ⟨PyData.keyHash P ("check_names" : Str), (.str ("check_names" : Str) 636), (.ref 347)⟩, ⟨PyData.keyHash P ("Web" : Str), (.str ("Web" : Str) 721), (.ref 412)⟩, ⟨PyData.keyHash P ("MOST_LINES" : Str), (.str ("MOST_LINES" : Str) 725), (.int 9 724)⟩] 46), #[]⟩
def o1_12 (P : Params) : Obj := ⟨.none, none, (.fields #[(.int 1 0), (.int 0 0), (.ref 20), (.int 5 0), (.int 0 0), (.ref 27), (.int 7 0), (.int 0 0), (.ref 40), (.int 9 0), (.int 0 0), (.ref 53), (.int 14 0), (.int 0 0), (.ref 74), (.int 19 0), (.int 0 0), (.ref 95), (.int 24 0), (.int 0 0), (.ref 116), (.int 29 0), (.int 0 0), (.ref 137), (.int 34 0), (.int 0 0), (.ref 158), (.int 39 0), (.int 0 0), (.ref 178), (.int 41 0), (.int 0 0), (.ref 190), (.int 43 0), (.int 0 0), (.ref 202), (.int 45 0), (.int 0 0), (.ref 214), (.int 47 0), (.int 0 0), (.ref 226), (.int 50 0), (.int 0 0), (.ref 238), (.int 52 0), (.int 0 0), (.ref 245), (.int 54 0), (.int 0 0), (.ref 250), (.int 58 0), (.int 0 0), (.ref 258), (.int 73 0), (.int 0 0), (.ref 265), (.int 77 0), (.int 0 0), (.ref 270), (.int 79 0), (.int 0 0), (.ref 275), (.int 83 0), (.int 0 0), (.ref 282), (.int 107 0), (.int 0 0), (.ref 315), (.int 109 0), (.int 0 0), (.ref 322), (.int 111 0), (.int 0 0), (.ref 327), (.int 121 0), (.int 0 0), (.ref 334), (.int 128 0), (.int 0 0), (.ref 341), (.int 140 0), (.int 0 0), (.ref 346), (.int 150 0), (.int 0 0), (.ref 353)]), #[]⟩
def o1_107 (P : Params) : Obj := ⟨(.type "type"), none, (.cls { name := ("WrongNumber" : Str), bases := [(.ref 31)], mro := [(.ref 107), (.ref 31), (.type "ValueError"), (.type "Exception"), (.type "BaseException"), (.type "object")], ns := 106, qualname := ("WrongNumber" : Str), hasDict := true, slotNames := [], subclasses := [(.ref 206), (.ref 218)], abstract := false, collection := none, hasDel := false }), #[(some (.ref 89)), none, (some (.str ("WrongNumber" : Str) 284)), (some (.str ("WrongNumber" : Str) 292)), (some (.builtin "ValueError.__new__")), (some (.bool true))]⟩
def o1_128 (P : Params) : Obj := ⟨(.type "type"), none, (.cls { name := ("WrongName" : Str), bases := [(.ref 31)], mro := [(.ref 128), (.ref 31), (.type "ValueError"), (.type "Exception"), (.type "BaseException"), (.type "object")], ns := 127, qualname := ("WrongName" : Str), hasDict := true, slotNames := [], subclasses := [(.ref 230)], abstract := false, collection := none, hasDel := false }), #[(some (.ref 110)), none, (some (.str ("WrongName" : Str) 311)), (some (.str ("WrongName" : Str) 319)), (some (.builtin "ValueError.__new__")), (some (.bool true))]⟩
def o1_197 (P : Params) : Obj := ⟨(.type "tuple"), none, (.seq #[(.ref 107)] 0), #[]⟩
def o1_198 (P : Params) : Obj := ⟨(.type "builtin_function_or_method"), none, (.fields #[(.builtin "type.__prepare__"), (.type "type")]), #[]⟩
def o1_199 (P : Params) : Obj := ⟨(.type "dict"), none, (.dict #[⟨PyData.keyHash P ("__module__" : Str), (.str ("__module__" : Str) 431), (.str ("rosterneed.errors" : Str) 194)⟩, ⟨PyData.keyHash P ("__qualname__" : Str), (.str ("__qualname__" : Str) 433), (.str ("BadName" : Str) 432)⟩, ⟨PyData.keyHash P ("__firstlineno__" : Str), (.str ("__firstlineno__" : Str) 435), (.int 43 434)⟩, ⟨PyData.keyHash P ("__static_attributes__" : Str), (.str ("__static_attributes__" : Str) 436), (.ref 204)⟩] 4), #[]⟩
def o1_200 (P : Params) : Obj := ⟨(.type "tuple"), none, (.seq #[] 0), #[]⟩
def o1_201 (P : Params) : Obj := ⟨.none, none, (.fields #[]), #[]⟩
def o1_202 (P : Params) : Obj := ⟨(.type "code"), none, (.fields #[(.str ("BadName" : Str) 426), (.str ("BadName" : Str) 427), (.str ("/claim/cut.py" : Str) 428), (.int 43 0), (.int 0 0), (.int 0 0), (.int 0 0), (.int 0 0), (.ref 200), (.bool false), (.int 181 0), (.ref 201), .none, .none, .none, .none, (.int 429 0), (.int 43 0), (.str ("/claim/cut.py" : Str) 430)]), #[]⟩
def o1_203 (P : Params) : Obj := ⟨(.type "frame"), none, .plain, #[(some (.ref 202)), (some (.ref 3)), (some (.ref 199)), none, (some (.str ("rosterneed.errors" : Str) 194)), none, (some (.ref 0))]⟩
def o1_204 (P : Params) : Obj := ⟨(.type "tuple"), none, (.seq #[] 0), #[]⟩
def o1_205 (P : Params) : Obj := ⟨(.type "dict"), none, (.dict #[⟨PyData.keyHash P ("__module__" : Str), (.str ("__module__" : Str) 431), (.str ("rosterneed.errors" : Str) 194)⟩, ⟨PyData.keyHash P ("__firstlineno__" : Str), (.str ("__firstlineno__" : Str) 435), (.int 43 434)⟩, ⟨PyData.keyHash P ("__static_attributes__" : Str), (.str ("__static_attributes__" : Str) 436), (.ref 204)⟩, ⟨PyData.keyHash P ("__doc__" : Str), (.str ("__doc__" : Str) 437), .none⟩] 2), #[]⟩
def o1_206 (P : Params) : Obj := ⟨(.type "type"), none, (.cls { name := ("BadName" : Str), bases := [(.ref 107)], mro := [(.ref 206), (.ref 107), (.ref 31), (.type "ValueError"), (.type "Exception"), (.type "BaseException"), (.type "object")], ns := 205, qualname := ("BadName" : Str), hasDict := true, slotNames := [], subclasses := [], abstract := false, collection := none, hasDel := false }), #[(some (.ref 197)), none, (some (.str ("BadName" : Str) 424)), (some (.str ("BadName" : Str) 432)), (some (.builtin "ValueError.__new__")), (some (.bool true))]⟩
def o1_207 (P : Params) : Obj := ⟨(.type "super"), none, (.fields #[(.ref 206), (.ref 206), (.ref 206)]), #[]⟩
def o1_208 (P : Params) : Obj := ⟨(.type "builtin_function_or_method"), none, (.fields #[(.builtin "object.__init_subclass__"), (.ref 206)]), #[]⟩
def o1_209 (P : Params) : Obj := ⟨(.type "tuple"), none, (.seq #[(.ref 107)] 0), #[]⟩
def o1_210 (P : Params) : Obj := ⟨(.type "builtin_function_or_method"), none, (.fields #[(.builtin "type.__prepare__"), (.type "type")]), #[]⟩
def o1_211 (P : Params) : Obj := ⟨(.type "dict"), none, (.dict #[⟨PyData.keyHash P ("__module__" : Str), (.str ("__module__" : Str) 447), (.str ("rosterneed.errors" : Str) 194)⟩, ⟨PyData.keyHash P ("__qualname__" : Str), (.str ("__qualname__" : Str) 449), (.str ("BadRow" : Str) 448)⟩, ⟨PyData.keyHash P ("__firstlineno__" : Str), (.str ("__firstlineno__" : Str) 451), (.int 45 450)⟩, ⟨PyData.keyHash P ("__static_attributes__" : Str), (.str ("__static_attributes__" : Str) 452), (.ref 216)⟩] 4), #[]⟩
def o1_212 (P : Params) : Obj := ⟨(.type "tuple"), none, (.seq #[] 0), #[]⟩
def o1_213 (P : Params) : Obj := ⟨.none, none, (.fields #[]), #[]⟩
def o1_214 (P : Params) : Obj := ⟨(.type "code"), none, (.fields #[(.str ("BadRow" : Str) 442), (.str ("BadRow" : Str) 443), (.str ("/claim/cut.py" : Str) 444), (.int 45 0), (.int 0 0), (.int 0 0), (.int 0 0), (.int 0 0), (.ref 212), (.bool false), (.int 181 0), (.ref 213), .none, .none, .none, .none, (.int 445 0), (.int 45 0), (.str ("/claim/cut.py" : Str) 446)]), #[]⟩
def o1_215 (P : Params) : Obj := ⟨(.type "frame"), none, .plain, #[(some (.ref 214)), (some (.ref 3)), (some (.ref 211)), none, (some (.str ("rosterneed.errors" : Str) 194)), none, (some (.ref 0))]⟩
def o1_216 (P : Params) : Obj := ⟨(.type "tuple"), none, (.seq #[] 0), #[]⟩
def o1_217 (P : Params) : Obj := ⟨(.type "dict"), none, (.dict #[⟨PyData.keyHash P ("__module__" : Str), (.str ("__module__" : Str) 447), (.str ("rosterneed.errors" : Str) 194)⟩, ⟨PyData.keyHash P ("__firstlineno__" : Str), (.str ("__firstlineno__" : Str) 451), (.int 45 450)⟩, ⟨PyData.keyHash P ("__static_attributes__" : Str), (.str ("__static_attributes__" : Str) 452), (.ref 216)⟩, ⟨PyData.keyHash P ("__doc__" : Str), (.str ("__doc__" : Str) 453), .none⟩] 2), #[]⟩
def o1_218 (P : Params) : Obj := ⟨(.type "type"), none, (.cls { name := ("BadRow" : Str), bases := [(.ref 107)], mro := [(.ref 218), (.ref 107), (.ref 31), (.type "ValueError"), (.type "Exception"), (.type "BaseException"), (.type "object")], ns := 217, qualname := ("BadRow" : Str), hasDict := true, slotNames := [], subclasses := [], abstract := false, collection := none, hasDel := false }), #[(some (.ref 209)), none, (some (.str ("BadRow" : Str) 440)), (some (.str ("BadRow" : Str) 448)), (some (.builtin "ValueError.__new__")), (some (.bool true))]⟩
def o1_219 (P : Params) : Obj := ⟨(.type "super"), none, (.fields #[(.ref 218), (.ref 218), (.ref 218)]), #[]⟩
def o1_220 (P : Params) : Obj := ⟨(.type "builtin_function_or_method"), none, (.fields #[(.builtin "object.__init_subclass__"), (.ref 218)]), #[]⟩
def o1_221 (P : Params) : Obj := ⟨(.type "tuple"), none, (.seq #[(.ref 128)] 0), #[]⟩
def o1_222 (P : Params) : Obj := ⟨(.type "builtin_function_or_method"), none, (.fields #[(.builtin "type.__prepare__"), (.type "type")]), #[]⟩
def o1_223 (P : Params) : Obj := ⟨(.type "dict"), none, (.dict #[⟨PyData.keyHash P ("__module__" : Str), (.str ("__module__" : Str) 463), (.str ("rosterneed.errors" : Str) 194)⟩, ⟨PyData.keyHash P ("__qualname__" : Str), (.str ("__qualname__" : Str) 465), (.str ("Twice" : Str) 464)⟩, ⟨PyData.keyHash P ("__firstlineno__" : Str), (.str ("__firstlineno__" : Str) 467), (.int 47 466)⟩, ⟨PyData.keyHash P ("__static_attributes__" : Str), (.str ("__static_attributes__" : Str) 468), (.ref 228)⟩] 4), #[]⟩
def o1_224 (P : Params) : Obj := ⟨(.type "tuple"), none, (.seq #[] 0), #[]⟩
def o1_225 (P : Params) : Obj := ⟨.none, none, (.fields #[]), #[]⟩
def o1_226 (P : Params) : Obj := ⟨(.type "code"), none, (.fields #[(.str ("Twice" : Str) 458), (.str ("Twice" : Str) 459), (.str ("/claim/cut.py" : Str) 460), (.int 47 0), (.int 0 0), (.int 0 0), (.int 0 0), (.int 0 0), (.ref 224), (.bool false), (.int 181 0), (.ref 225), .none, .none, .none, .none, (.int 461 0), (.int 47 0), (.str ("/claim/cut.py" : Str) 462)]), #[]⟩
def o1_227 (P : Params) : Obj := ⟨(.type "frame"), none, .plain, #[(some (.ref 226)), (some (.ref 3)), (some (.ref 223)), none, (some (.str ("rosterneed.errors" : Str) 194)), none, (some (.ref 0))]⟩
def o1_228 (P : Params) : Obj := ⟨(.type "tuple"), none, (.seq #[] 0), #[]⟩
def o1_229 (P : Params) : Obj := ⟨(.type "dict"), none, (.dict #[⟨PyData.keyHash P ("__module__" : Str), (.str ("__module__" : Str) 463), (.str ("rosterneed.errors" : Str) 194)⟩, ⟨PyData.keyHash P ("__firstlineno__" : Str), (.str ("__firstlineno__" : Str) 467), (.int 47 466)⟩, ⟨PyData.keyHash P ("__static_attributes__" : Str), (.str ("__static_attributes__" : Str) 468), (.ref 228)⟩, ⟨PyData.keyHash P ("__doc__" : Str), (.str ("__doc__" : Str) 469), .none⟩] 2), #[]⟩
def o1_230 (P : Params) : Obj := ⟨(.type "type"), none, (.cls { name := ("Twice" : Str), bases := [(.ref 128)], mro := [(.ref 230), (.ref 128), (.ref 31), (.type "ValueError"), (.type "Exception"), (.type "BaseException"), (.type "object")], ns := 229, qualname := ("Twice" : Str), hasDict := true, slotNames := [], subclasses := [], abstract := false, collection := none, hasDel := false }), #[(some (.ref 221)), none, (some (.str ("Twice" : Str) 456)), (some (.str ("Twice" : Str) 464)), (some (.builtin "ValueError.__new__")), (some (.bool true))]⟩
def o1_231 (P : Params) : Obj := ⟨(.type "super"), none, (.fields #[(.ref 230), (.ref 230), (.ref 230)]), #[]⟩
def o1_232 (P : Params) : Obj := ⟨(.type "builtin_function_or_method"), none, (.fields #[(.builtin "object.__init_subclass__"), (.ref 230)]), #[]⟩
def o1_233 (P : Params) : Obj := ⟨(.type "tuple"), none, (.seq #[] 0), #[]⟩
def o1_234 (P : Params) : Obj := ⟨.none, none, (.fields #[]), #[]⟩
def o1_235 (P : Params) : Obj := ⟨(.type "tuple"), none, (.seq #[(.str ("thing" : Str) 477)] 0), #[]⟩
def o1_236 (P : Params) : Obj := ⟨(.type "tuple"), none, (.seq #[] 0), #[]⟩
def o1_237 (P : Params) : Obj := ⟨.none, none, (.func { name := ("is_integer" : Str), qualname := ("is_integer" : Str), params := defArgs tp16, body := .stmts (defBody tp16), scope := defScope tp16, globals := 0, closure := [], defaults := .none, kwdefaults := .none, doc := .none, pyModule := .none, annotations := none, code := .none, closureTuple := .none, builtins := 0 }), #[]⟩
def o1_238 (P : Params) : Obj := ⟨(.type "code"), none, (.fields #[(.str ("is_integer" : Str) 474), (.str ("is_integer" : Str) 475), (.str ("/claim/cut.py" : Str) 476), (.int 50 0), (.int 1 0), (.int 0 0), (.int 0 0), (.int 3 0), (.ref 233), (.bool true), (.int 181 0), (.ref 234), .none, (.ref 235), (.ref 236), (.ref 237), (.int 478 0), (.int 50 0), (.str ("/claim/cut.py" : Str) 479)]), #[]⟩
def o1_239 (P : Params) : Obj := ⟨(.type "function"), none, (.func { name := ("is_integer" : Str), qualname := ("is_integer" : Str), params := defArgs tp16, body := .stmts (defBody tp16), scope := defScope tp16, globals := 3, closure := [], defaults := .none, kwdefaults := .none, doc := .none, pyModule := (.str ("rosterneed.plain" : Str) 472), annotations := none, code := (.ref 238), closureTuple := .none, builtins := 0 }), #[]⟩
def o1_240 (P : Params) : Obj := ⟨(.type "tuple"), none, (.seq #[] 0), #[]⟩
def o1_241 (P : Params) : Obj := ⟨.none, none, (.fields #[]), #[]⟩
def o1_242 (P : Params) : Obj := ⟨(.type "tuple"), none, (.seq #[(.str ("thing" : Str) 484)] 0), #[]⟩
def o1_243 (P : Params) : Obj := ⟨(.type "tuple"), none, (.seq #[] 0), #[]⟩
def o1_244 (P : Params) : Obj := ⟨.none, none, (.func { name := ("is_listed" : Str), qualname := ("is_listed" : Str), params := defArgs tp17, body := .stmts (defBody tp17), scope := defScope tp17, globals := 0, closure := [], defaults := .none, kwdefaults := .none, doc := .none, pyModule := .none, annotations := none, code := .none, closureTuple := .none, builtins := 0 }), #[]⟩
def o1_245 (P : Params) : Obj := ⟨(.type "code"), none, (.fields #[(.str ("is_listed" : Str) 481), (.str ("is_listed" : Str) 482), (.str ("/claim/cut.py" : Str) 483), (.int 52 0), (.int 1 0), (.int 0 0), (.int 0 0), (.int 3 0), (.ref 240), (.bool true), (.int 181 0), (.ref 241), .none, (.ref 242), (.ref 243), (.ref 244), (.int 485 0), (.int 52 0), (.str ("/claim/cut.py" : Str) 486)]), #[]⟩
def o1_246 (P : Params) : Obj := ⟨(.type "function"), none, (.func { name := ("is_listed" : Str), qualname := ("is_listed" : Str), params := defArgs tp17, body := .stmts (defBody tp17), scope := defScope tp17, globals := 3, closure := [], defaults := .none, kwdefaults := .none, doc := .none, pyModule := (.str ("rosterneed.plain" : Str) 472), annotations := none, code := (.ref 245), closureTuple := .none, builtins := 0 }), #[]⟩
def o1_247 (P : Params) : Obj := ⟨(.type "tuple"), none, (.seq #[] 0), #[]⟩
def o1_248 (P : Params) : Obj := ⟨.none, none, (.fields #[]), #[]⟩
def o1_249 (P : Params) : Obj := ⟨.none, none, (.func { name := ("deep" : Str), qualname := ("deep" : Str), params := defArgs tp18, body := .stmts (defBody tp18), scope := defScope tp18, globals := 0, closure := [], defaults := .none, kwdefaults := .none, doc := .none, pyModule := .none, annotations := none, code := .none, closureTuple := .none, builtins := 0 }), #[]⟩
def o1_250 (P : Params) : Obj := ⟨(.type "code"), none, (.fields #[(.str ("deep" : Str) 488), (.str ("deep" : Str) 489), (.str ("/claim/cut.py" : Str) 490), (.int 54 0), (.int 1 0), (.int 0 0), (.int 0 0), (.int 3 0), (.ref 247), (.bool true), (.int 181 0), (.ref 248), .none, .none, .none, (.ref 249), (.int 491 0), (.int 54 0), (.str ("/claim/cut.py" : Str) 492)]), #[]⟩
def o1_251 (P : Params) : Obj := ⟨(.type "function"), none, (.func { name := ("deep" : Str), qualname := ("deep" : Str), params := defArgs tp18, body := .stmts (defBody tp18), scope := defScope tp18, globals := 3, closure := [], defaults := .none, kwdefaults := .none, doc := .none, pyModule := (.str ("rosterneed.plain" : Str) 472), annotations := none, code := (.ref 250), closureTuple := .none, builtins := 0 }), #[]⟩
def o1_252 (P : Params) : Obj := ⟨(.type "tuple"), none, (.seq #[(.bool false)] 0), #[]⟩
def o1_253 (P : Params) : Obj := ⟨(.type "tuple"), none, (.seq #[] 0), #[]⟩
def o1_254 (P : Params) : Obj := ⟨.none, none, (.fields #[]), #[]⟩
def o1_255 (P : Params) : Obj := ⟨(.type "tuple"), none, (.seq #[(.str ("thing" : Str) 497), (.str ("least" : Str) 498), (.str ("most" : Str) 499), (.str ("digits" : Str) 500), (.str ("place" : Str) 501), (.str ("sign" : Str) 502)] 0), #[]⟩
def o1_256 (P : Params) : Obj := ⟨(.type "tuple"), none, (.seq #[] 0), #[]⟩
def o1_257 (P : Params) : Obj := ⟨.none, none, (.func { name := ("is_word" : Str), qualname := ("is_word" : Str), params := defArgs tp19, body := .stmts (defBody tp19), scope := defScope tp19, globals := 0, closure := [], defaults := .none, kwdefaults := .none, doc := .none, pyModule := .none, annotations := none, code := .none, closureTuple := .none, builtins := 0 }), #[]⟩
def o1_258 (P : Params) : Obj := ⟨(.type "code"), none, (.fields #[(.str ("is_word" : Str) 494), (.str ("is_word" : Str) 495), (.str ("/claim/cut.py" : Str) 496), (.int 58 0), (.int 4 0), (.int 0 0), (.int 0 0), (.int 3 0), (.ref 253), (.bool true), (.int 181 0), (.ref 254), .none, (.ref 255), (.ref 256), (.ref 257), (.int 503 0), (.int 58 0), (.str ("/claim/cut.py" : Str) 504)]), #[]⟩
def o1_259 (P : Params) : Obj := ⟨(.type "function"), none, (.func { name := ("is_word" : Str), qualname := ("is_word" : Str), params := defArgs tp19, body := .stmts (defBody tp19), scope := defScope tp19, globals := 3, closure := [], defaults := (.ref 252), kwdefaults := .none, doc := .none, pyModule := (.str ("rosterneed.plain" : Str) 472), annotations := none, code := (.ref 258), closureTuple := .none, builtins := 0 }), #[]⟩
def o1_260 (P : Params) : Obj := ⟨(.type "tuple"), none, (.seq #[] 0), #[]⟩
def o1_261 (P : Params) : Obj := ⟨.none, none, (.fields #[]), #[]⟩
def o1_262 (P : Params) : Obj := ⟨(.type "tuple"), none, (.seq #[(.str ("inlets" : Str) 521), (.str ("thing" : Str) 522)] 0), #[]⟩
def o1_263 (P : Params) : Obj := ⟨(.type "tuple"), none, (.seq #[] 0), #[]⟩
def o1_264 (P : Params) : Obj := ⟨.none, none, (.func { name := ("is_deed" : Str), qualname := ("is_deed" : Str), params := defArgs tp26, body := .stmts (defBody tp26), scope := defScope tp26, globals := 0, closure := [], defaults := .none, kwdefaults := .none, doc := .none, pyModule := .none, annotations := none, code := .none, closureTuple := .none, builtins := 0 }), #[]⟩
def o1_265 (P : Params) : Obj := ⟨(.type "code"), none, (.fields #[(.str ("is_deed" : Str) 518), (.str ("is_deed" : Str) 519), (.str ("/claim/cut.py" : Str) 520), (.int 73 0), (.int 2 0), (.int 0 0), (.int 0 0), (.int 3 0), (.ref 260), (.bool true), (.int 181 0), (.ref 261), .none, (.ref 262), (.ref 263), (.ref 264), (.int 523 0), (.int 73 0), (.str ("/claim/cut.py" : Str) 524)]), #[]⟩
def o1_266 (P : Params) : Obj := ⟨(.type "function"), none, (.func { name := ("is_deed" : Str), qualname := ("is_deed" : Str), params := defArgs tp26, body := .stmts (defBody tp26), scope := defScope tp26, globals := 3, closure := [], defaults := .none, kwdefaults := .none, doc := .none, pyModule := (.str ("rosterneed.makers" : Str) 506), annotations := none, code := (.ref 265), closureTuple := .none, builtins := 0 }), #[]⟩
def o1_267 (P : Params) : Obj := ⟨(.type "tuple"), none, (.seq #[] 0), #[]⟩
def o1_268 (P : Params) : Obj := ⟨.none, none, (.fields #[]), #[]⟩
def o1_269 (P : Params) : Obj := ⟨.none, none, (.func { name := ("is_deeds" : Str), qualname := ("is_deeds" : Str), params := defArgs tp27, body := .stmts (defBody tp27), scope := defScope tp27, globals := 0, closure := [], defaults := .none, kwdefaults := .none, doc := .none, pyModule := .none, annotations := none, code := .none, closureTuple := .none, builtins := 0 }), #[]⟩
def o1_270 (P : Params) : Obj := ⟨(.type "code"), none, (.fields #[(.str ("is_deeds" : Str) 526), (.str ("is_deeds" : Str) 527), (.str ("/claim/cut.py" : Str) 528), (.int 77 0), (.int 2 0), (.int 0 0), (.int 0 0), (.int 3 0), (.ref 267), (.bool true), (.int 181 0), (.ref 268), .none, .none, .none, (.ref 269), (.int 529 0), (.int 77 0), (.str ("/claim/cut.py" : Str) 530)]), #[]⟩
def o1_271 (P : Params) : Obj := ⟨(.type "function"), none, (.func { name := ("is_deeds" : Str), qualname := ("is_deeds" : Str), params := defArgs tp27, body := .stmts (defBody tp27), scope := defScope tp27, globals := 3, closure := [], defaults := .none, kwdefaults := .none, doc := .none, pyModule := (.str ("rosterneed.makers" : Str) 506), annotations := none, code := (.ref 270), closureTuple := .none, builtins := 0 }), #[]⟩
def o1_272 (P : Params) : Obj := ⟨(.type "tuple"), none, (.seq #[] 0), #[]⟩
def o1_273 (P : Params) : Obj := ⟨.none, none, (.fields #[]), #[]⟩
def o1_274 (P : Params) : Obj := ⟨.none, none, (.func { name := ("is_ways" : Str), qualname := ("is_ways" : Str), params := defArgs tp28, body := .stmts (defBody tp28), scope := defScope tp28, globals := 0, closure := [], defaults := .none, kwdefaults := .none, doc := .none, pyModule := .none, annotations := none, code := .none, closureTuple := .none, builtins := 0 }), #[]⟩
def o1_275 (P : Params) : Obj := ⟨(.type "code"), none, (.fields #[(.str ("is_ways" : Str) 532), (.str ("is_ways" : Str) 533), (.str ("/claim/cut.py" : Str) 534), (.int 79 0), (.int 2 0), (.int 0 0), (.int 0 0), (.int 3 0), (.ref 272), (.bool true), (.int 181 0), (.ref 273), .none, .none, .none, (.ref 274), (.int 535 0), (.int 79 0), (.str ("/claim/cut.py" : Str) 536)]), #[]⟩
def o1_276 (P : Params) : Obj := ⟨(.type "function"), none, (.func { name := ("is_ways" : Str), qualname := ("is_ways" : Str), params := defArgs tp28, body := .stmts (defBody tp28), scope := defScope tp28, globals := 3, closure := [], defaults := .none, kwdefaults := .none, doc := .none, pyModule := (.str ("rosterneed.makers" : Str) 506), annotations := none, code := (.ref 275), closureTuple := .none, builtins := 0 }), #[]⟩
def o1_277 (P : Params) : Obj := ⟨(.type "tuple"), none, (.seq #[] 0), #[]⟩
def o1_278 (P : Params) : Obj := ⟨(.type "builtin_function_or_method"), none, (.fields #[(.builtin "type.__prepare__"), (.type "type")]), #[]⟩
def o1_279 (P : Params) : Obj := ⟨(.type "dict"), none, (.dict #[⟨PyData.keyHash P ("__module__" : Str), (.str ("__module__" : Str) 545), (.str ("rosterneed.makers" : Str) 506)⟩, ⟨PyData.keyHash P ("__qualname__" : Str), (.str ("__qualname__" : Str) 547), (.str ("Maker" : Str) 546)⟩, ⟨PyData.keyHash P ("__firstlineno__" : Str), (.str ("__firstlineno__" : Str) 549), (.int 83 548)⟩, ⟨PyData.keyHash P ("__init__" : Str), (.str ("__init__" : Str) 555), (.ref 288)⟩, ⟨PyData.keyHash P ("__eq__" : Str), (.str ("__eq__" : Str) 563), (.ref 295)⟩, ⟨PyData.keyHash P ("need" : Str), (.str ("need" : Str) 572), (.ref 302)⟩, ⟨PyData.keyHash P ("__static_attributes__" : Str), (.str ("__static_attributes__" : Str) 576), (.ref 303)⟩] 7), #[]⟩
def o1_280 (P : Params) : Obj := ⟨(.type "tuple"), none, (.seq #[] 0), #[]⟩
def o1_281 (P : Params) : Obj := ⟨.none, none, (.fields #[(.int 85 0), (.int 4 0), (.ref 287), (.int 99 0), (.int 4 0), (.ref 294), (.int 102 0), (.int 4 0), (.ref 301)]), #[]⟩
def o1_282 (P : Params) : Obj := ⟨(.type "code"), none, (.fields #[(.str ("Maker" : Str) 540), (.str ("Maker" : Str) 541), (.str ("/claim/cut.py" : Str) 542), (.int 83 0), (.int 0 0), (.int 0 0), (.int 0 0), (.int 0 0), (.ref 280), (.bool false), (.int 181 0), (.ref 281), .none, .none, .none, .none, (.int 543 0), (.int 83 0), (.str ("/claim/cut.py" : Str) 544)]), #[]⟩
def o1_283 (P : Params) : Obj := ⟨(.type "frame"), none, .plain, #[(some (.ref 282)), (some (.ref 3)), (some (.ref 279)), none, (some (.str ("rosterneed.makers" : Str) 506)), none, (some (.ref 0))]⟩
def o1_284 (P : Params) : Obj := ⟨(.type "tuple"), none, (.seq #[] 0), #[]⟩
def o1_285 (P : Params) : Obj := ⟨.none, none, (.fields #[]), #[]⟩
def o1_286 (P : Params) : Obj := ⟨.none, none, (.func { name := ("__init__" : Str), qualname := ("Maker.__init__" : Str), params := defArgs tp29_0, body := .stmts (defBody tp29_0), scope := defScope tp29_0, globals := 0, closure := [], defaults := .none, kwdefaults := .none, doc := .none, pyModule := .none, annotations := none, code := .none, closureTuple := .none, builtins := 0 }), #[]⟩
def o1_287 (P : Params) : Obj := ⟨(.type "code"), none, (.fields #[(.str ("__init__" : Str) 550), (.str ("Maker.__init__" : Str) 551), (.str ("/claim/cut.py" : Str) 552), (.int 85 0), (.int 4 0), (.int 0 0), (.int 0 0), (.int 3 0), (.ref 284), (.bool true), (.int 181 0), (.ref 285), .none, .none, .none, (.ref 286), (.int 553 0), (.int 85 0), (.str ("/claim/cut.py" : Str) 554)]), #[]⟩
def o1_288 (P : Params) : Obj := ⟨(.type "function"), none, (.func { name := ("__init__" : Str), qualname := ("Maker.__init__" : Str), params := defArgs tp29_0, body := .stmts (defBody tp29_0), scope := defScope tp29_0, globals := 3, closure := [], defaults := .none, kwdefaults := .none, doc := .none, pyModule := (.str ("rosterneed.makers" : Str) 506), annotations := none, code := (.ref 287), closureTuple := .none, builtins := 0 }), #[]⟩
def o1_289 (P : Params) : Obj := ⟨(.type "tuple"), none, (.seq #[] 0), #[]⟩
def o1_290 (P : Params) : Obj := ⟨.none, none, (.fields #[]), #[]⟩
def o1_291 (P : Params) : Obj := ⟨(.type "tuple"), none, (.seq #[(.str ("self" : Str) 559), (.str ("other" : Str) 560)] 0), #[]⟩
def o1_292 (P : Params) : Obj := ⟨(.type "tuple"), none, (.seq #[] 0), #[]⟩
def o1_293 (P : Params) : Obj := ⟨.none, none, (.func { name := ("__eq__" : Str), qualname := ("Maker.__eq__" : Str), params := defArgs tp29_1, body := .stmts (defBody tp29_1), scope := defScope tp29_1, globals := 0, closure := [], defaults := .none, kwdefaults := .none, doc := .none, pyModule := .none, annotations := none, code := .none, closureTuple := .none, builtins := 0 }), #[]⟩
def o1_294 (P : Params) : Obj := ⟨(.type "code"), none, (.fields #[(.str ("__eq__" : Str) 556), (.str ("Maker.__eq__" : Str) 557), (.str ("/claim/cut.py" : Str) 558), (.int 99 0), (.int 2 0), (.int 0 0), (.int 0 0), (.int 3 0), (.ref 289), (.bool true), (.int 181 0), (.ref 290), .none, (.ref 291), (.ref 292), (.ref 293), (.int 561 0), (.int 99 0), (.str ("/claim/cut.py" : Str) 562)]), #[]⟩
def o1_295 (P : Params) : Obj := ⟨(.type "function"), none, (.func { name := ("__eq__" : Str), qualname := ("Maker.__eq__" : Str), params := defArgs tp29_1, body := .stmts (defBody tp29_1), scope := defScope tp29_1, globals := 3, closure := [], defaults := .none, kwdefaults := .none, doc := .none, pyModule := (.str ("rosterneed.makers" : Str) 506), annotations := none, code := (.ref 294), closureTuple := .none, builtins := 0 }), #[]⟩
def o1_296 (P : Params) : Obj := ⟨(.type "tuple"), none, (.seq #[] 0), #[]⟩
def o1_297 (P : Params) : Obj := ⟨.none, none, (.fields #[]), #[]⟩
def o1_298 (P : Params) : Obj := ⟨(.type "tuple"), none, (.seq #[(.str ("self" : Str) 567), (.str ("inlet" : Str) 568), (.str ("course" : Str) 569)] 0), #[]⟩
def o1_299 (P : Params) : Obj := ⟨(.type "tuple"), none, (.seq #[] 0), #[]⟩
def o1_300 (P : Params) : Obj := ⟨.none, none, (.func { name := ("need" : Str), qualname := ("Maker.need" : Str), params := defArgs tp29_2, body := .stmts (defBody tp29_2), scope := defScope tp29_2, globals := 0, closure := [], defaults := .none, kwdefaults := .none, doc := .none, pyModule := .none, annotations := none, code := .none, closureTuple := .none, builtins := 0 }), #[]⟩
def o1_301 (P : Params) : Obj := ⟨(.type "code"), none, (.fields #[(.str ("need" : Str) 564), (.str ("Maker.need" : Str) 565), (.str ("/claim/cut.py" : Str) 566), (.int 102 0), (.int 3 0), (.int 0 0), (.int 0 0), (.int 3 0), (.ref 296), (.bool true), (.int 181 0), (.ref 297), .none, (.ref 298), (.ref 299), (.ref 300), (.int 570 0), (.int 102 0), (.str ("/claim/cut.py" : Str) 571)]), #[]⟩
def o1_302 (P : Params) : Obj := ⟨(.type "function"), none, (.func { name := ("need" : Str), qualname := ("Maker.need" : Str), params := defArgs tp29_2, body := .stmts (defBody tp29_2), scope := defScope tp29_2, globals := 3, closure := [], defaults := .none, kwdefaults := .none, doc := .none, pyModule := (.str ("rosterneed.makers" : Str) 506), annotations := none, code := (.ref 301), closureTuple := .none, builtins := 0 }), #[]⟩
def o1_303 (P : Params) : Obj := ⟨(.type "tuple"), none, (.seq #[(.str ("begin" : Str) 573), (.str ("inlets" : Str) 574), (.str ("ways" : Str) 575)] 0), #[]⟩
def o1_304 (P : Params) : Obj := ⟨(.type "dict"), none, (.dict #[⟨PyData.keyHash P ("__module__" : Str), (.str ("__module__" : Str) 545), (.str ("rosterneed.makers" : Str) 506)⟩, ⟨PyData.keyHash P ("__firstlineno__" : Str), (.str ("__firstlineno__" : Str) 549), (.int 83 548)⟩, ⟨PyData.keyHash P ("__init__" : Str), (.str ("__init__" : Str) 555), (.ref 288)⟩, ⟨PyData.keyHash P ("__eq__" : Str), (.str ("__eq__" : Str) 563), (.ref 295)⟩, ⟨PyData.keyHash P ("need" : Str), (.str ("need" : Str) 572), (.ref 302)⟩, ⟨PyData.keyHash P ("__static_attributes__" : Str), (.str ("__static_attributes__" : Str) 576), (.ref 303)⟩, ⟨PyData.keyHash P ("__dict__" : Str), (.str ("__dict__" : Str) 578), (.ref 306)⟩, ⟨PyData.keyHash P ("__weakref__" : Str), (.str ("__weakref__" : Str) 580), (.ref 307)⟩, ⟨PyData.keyHash P ("__doc__" : Str), (.str ("__doc__" : Str) 581), .none⟩, ⟨PyData.keyHash P ("__hash__" : Str), (.str ("__hash__" : Str) 582), .none⟩] 5), #[]⟩
def o1_305 (P : Params) : Obj := ⟨(.type "type"), none, (.cls { name := ("Maker" : Str), bases := [(.type "object")], mro := [(.ref 305), (.type "object")], ns := 304, qualname := ("Maker" : Str), hasDict := true, slotNames := [], subclasses := [], abstract := false, collection := none, hasDel := false }), #[none, none, (some (.str ("Maker" : Str) 538)), (some (.str ("Maker" : Str) 546)), (some (.builtin "object.__new__")), (some (.bool true))]⟩
def o1_306 (P : Params) : Obj := ⟨(.type "getset_descriptor"), none, (.fields #[(.str ("__dict__" : Str) 577), (.ref 305), (.builtin "function.__dict__"), (.builtin "function.__dict__#set")]), #[]⟩
def o1_307 (P : Params) : Obj := ⟨(.type "getset_descriptor"), none, (.fields #[(.str ("__weakref__" : Str) 579), (.ref 305), (.builtin "ExceptionGroup.__weakref__"), .none]), #[]⟩
def o1_308 (P : Params) : Obj := ⟨(.type "super"), none, (.fields #[(.ref 305), (.ref 305), (.ref 305)]), #[]⟩
def o1_309 (P : Params) : Obj := ⟨(.type "builtin_function_or_method"), none, (.fields #[(.builtin "object.__init_subclass__"), (.ref 305)]), #[]⟩
def o1_310 (P : Params) : Obj := ⟨(.type "tuple"), none, (.seq #[] 0), #[]⟩
def o1_311 (P : Params) : Obj := ⟨.none, none, (.fields #[]), #[]⟩
def o1_312 (P : Params) : Obj := ⟨(.type "tuple"), none, (.seq #[(.str ("thing" : Str) 594)] 0), #[]⟩
def o1_313 (P : Params) : Obj := ⟨(.type "tuple"), none, (.seq #[] 0), #[]⟩
def o1_314 (P : Params) : Obj := ⟨.none, none, (.func { name := ("is_row_name" : Str), qualname := ("is_row_name" : Str), params := defArgs tp33, body := .stmts (defBody tp33), scope := defScope tp33, globals := 0, closure := [], defaults := .none, kwdefaults := .none, doc := .none, pyModule := .none, annotations := none, code := .none, closureTuple := .none, builtins := 0 }), #[]⟩
def o1_315 (P : Params) : Obj := ⟨(.type "code"), none, (.fields #[(.str ("is_row_name" : Str) 591), (.str ("is_row_name" : Str) 592), (.str ("/claim/cut.py" : Str) 593), (.int 107 0), (.int 1 0), (.int 0 0), (.int 0 0), (.int 3 0), (.ref 310), (.bool true), (.int 181 0), (.ref 311), .none, (.ref 312), (.ref 313), (.ref 314), (.int 595 0), (.int 107 0), (.str ("/claim/cut.py" : Str) 596)]), #[]⟩
def o1_316 (P : Params) : Obj := ⟨(.type "function"), none, (.func { name := ("is_row_name" : Str), qualname := ("is_row_name" : Str), params := defArgs tp33, body := .stmts (defBody tp33), scope := defScope tp33, globals := 3, closure := [], defaults := .none, kwdefaults := .none, doc := .none, pyModule := (.str ("rosterneed.webs" : Str) 585), annotations := none, code := (.ref 315), closureTuple := .none, builtins := 0 }), #[]⟩
def o1_317 (P : Params) : Obj := ⟨(.type "tuple"), none, (.seq #[] 0), #[]⟩
def o1_318 (P : Params) : Obj := ⟨.none, none, (.fields #[]), #[]⟩
def o1_319 (P : Params) : Obj := ⟨(.type "tuple"), none, (.seq #[(.str ("thing" : Str) 601)] 0), #[]⟩
def o1_320 (P : Params) : Obj := ⟨(.type "tuple"), none, (.seq #[] 0), #[]⟩
def o1_321 (P : Params) : Obj := ⟨.none, none, (.func { name := ("is_unknown_name" : Str), qualname := ("is_unknown_name" : Str), params := defArgs tp34, body := .stmts (defBody tp34), scope := defScope tp34, globals := 0, closure := [], defaults := .none, kwdefaults := .none, doc := .none, pyModule := .none, annotations := none, code := .none, closureTuple := .none, builtins := 0 }), #[]⟩
def o1_322 (P : Params) : Obj := ⟨(.type "code"), none, (.fields #[(.str ("is_unknown_name" : Str) 598), (.str ("is_unknown_name" : Str) 599), (.str ("/claim/cut.py" : Str) 600), (.int 109 0), (.int 1 0), (.int 0 0), (.int 0 0), (.int 3 0), (.ref 317), (.bool true), (.int 181 0), (.ref 318), .none, (.ref 319), (.ref 320), (.ref 321), (.int 602 0), (.int 109 0), (.str ("/claim/cut.py" : Str) 603)]), #[]⟩
def o1_323 (P : Params) : Obj := ⟨(.type "function"), none, (.func { name := ("is_unknown_name" : Str), qualname := ("is_unknown_name" : Str), params := defArgs tp34, body := .stmts (defBody tp34), scope := defScope tp34, globals := 3, closure := [], defaults := .none, kwdefaults := .none, doc := .none, pyModule := (.str ("rosterneed.webs" : Str) 585), annotations := none, code := (.ref 322), closureTuple := .none, builtins := 0 }), #[]⟩
def o1_324 (P : Params) : Obj := ⟨(.type "tuple"), none, (.seq #[] 0), #[]⟩
def o1_325 (P : Params) : Obj := ⟨.none, none, (.fields #[]), #[]⟩
def o1_326 (P : Params) : Obj := ⟨.none, none, (.func { name := ("is_row" : Str), qualname := ("is_row" : Str), params := defArgs tp35, body := .stmts (defBody tp35), scope := defScope tp35, globals := 0, closure := [], defaults := .none, kwdefaults := .none, doc := .none, pyModule := .none, annotations := none, code := .none, closureTuple := .none, builtins := 0 }), #[]⟩
def o1_327 (P : Params) : Obj := ⟨(.type "code"), none, (.fields #[(.str ("is_row" : Str) 605), (.str ("is_row" : Str) 606), (.str ("/claim/cut.py" : Str) 607), (.int 111 0), (.int 2 0), (.int 0 0), (.int 0 0), (.int 3 0), (.ref 324), (.bool true), (.int 181 0), (.ref 325), .none, .none, .none, (.ref 326), (.int 608 0), (.int 111 0), (.str ("/claim/cut.py" : Str) 609)]), #[]⟩
def o1_328 (P : Params) : Obj := ⟨(.type "function"), none, (.func { name := ("is_row" : Str), qualname := ("is_row" : Str), params := defArgs tp35, body := .stmts (defBody tp35), scope := defScope tp35, globals := 3, closure := [], defaults := .none, kwdefaults := .none, doc := .none, pyModule := (.str ("rosterneed.webs" : Str) 585), annotations := none, code := (.ref 327), closureTuple := .none, builtins := 0 }), #[]⟩
def o1_329 (P : Params) : Obj := ⟨(.type "tuple"), none, (.seq #[] 0), #[]⟩
def o1_330 (P : Params) : Obj := ⟨.none, none, (.fields #[]), #[]⟩
def o1_331 (P : Params) : Obj := ⟨(.type "tuple"), none, (.seq #[(.str ("givens" : Str) 614), (.str ("number" : Str) 615), (.str ("given" : Str) 616)] 0), #[]⟩
def o1_332 (P : Params) : Obj := ⟨(.type "tuple"), none, (.seq #[] 0), #[]⟩
def o1_333 (P : Params) : Obj := ⟨.none, none, (.func { name := ("check_givens" : Str), qualname := ("check_givens" : Str), params := defArgs tp36, body := .stmts (defBody tp36), scope := defScope tp36, globals := 0, closure := [], defaults := .none, kwdefaults := .none, doc := .none, pyModule := .none, annotations := none, code := .none, closureTuple := .none, builtins := 0 }), #[]⟩
def o1_334 (P : Params) : Obj := ⟨(.type "code"), none, (.fields #[(.str ("check_givens" : Str) 611), (.str ("check_givens" : Str) 612), (.str ("/claim/cut.py" : Str) 613), (.int 121 0), (.int 1 0), (.int 0 0), (.int 0 0), (.int 3 0), (.ref 329), (.bool true), (.int 181 0), (.ref 330), .none, (.ref 331), (.ref 332), (.ref 333), (.int 617 0), (.int 121 0), (.str ("/claim/cut.py" : Str) 618)]), #[]⟩
def o1_335 (P : Params) : Obj := ⟨(.type "function"), none, (.func { name := ("check_givens" : Str), qualname := ("check_givens" : Str), params := defArgs tp36, body := .stmts (defBody tp36), scope := defScope tp36, globals := 3, closure := [], defaults := .none, kwdefaults := .none, doc := .none, pyModule := (.str ("rosterneed.webs" : Str) 585), annotations := none, code := (.ref 334), closureTuple := .none, builtins := 0 }), #[]⟩
def o1_336 (P : Params) : Obj := ⟨(.type "tuple"), none, (.seq #[] 0), #[]⟩
def o1_337 (P : Params) : Obj := ⟨.none, none, (.fields #[]), #[]⟩
def o1_338 (P : Params) : Obj := ⟨(.type "tuple"), none, (.seq #[(.str ("rows" : Str) 623), (.str ("inlets" : Str) 624), (.str ("told" : Str) 625), (.str ("number" : Str) 626), (.str ("row" : Str) 627)] 0), #[]⟩
def o1_339 (P : Params) : Obj := ⟨(.type "tuple"), none, (.seq #[] 0), #[]⟩
def o1_340 (P : Params) : Obj := ⟨.none, none, (.func { name := ("check_rows" : Str), qualname := ("check_rows" : Str), params := defArgs tp37, body := .stmts (defBody tp37), scope := defScope tp37, globals := 0, closure := [], defaults := .none, kwdefaults := .none, doc := .none, pyModule := .none, annotations := none, code := .none, closureTuple := .none, builtins := 0 }), #[]⟩
def o1_341 (P : Params) : Obj := ⟨(.type "code"), none, (.fields #[(.str ("check_rows" : Str) 620), (.str ("check_rows" : Str) 621), (.str ("/claim/cut.py" : Str) 622), (.int 128 0), (.int 1 0), (.int 0 0), (.int 0 0), (.int 3 0), (.ref 336), (.bool true), (.int 181 0), (.ref 337), .none, (.ref 338), (.ref 339), (.ref 340), (.int 628 0), (.int 128 0), (.str ("/claim/cut.py" : Str) 629)]), #[]⟩
def o1_342 (P : Params) : Obj := ⟨(.type "function"), none, (.func { name := ("check_rows" : Str), qualname := ("check_rows" : Str), params := defArgs tp37, body := .stmts (defBody tp37), scope := defScope tp37, globals := 3, closure := [], defaults := .none, kwdefaults := .none, doc := .none, pyModule := (.str ("rosterneed.webs" : Str) 585), annotations := none, code := (.ref 341), closureTuple := .none, builtins := 0 }), #[]⟩
def o1_343 (P : Params) : Obj := ⟨(.type "tuple"), none, (.seq #[] 0), #[]⟩
def o1_344 (P : Params) : Obj := ⟨.none, none, (.fields #[]), #[]⟩
def o1_345 (P : Params) : Obj := ⟨.none, none, (.func { name := ("check_names" : Str), qualname := ("check_names" : Str), params := defArgs tp38, body := .stmts (defBody tp38), scope := defScope tp38, globals := 0, closure := [], defaults := .none, kwdefaults := .none, doc := .none, pyModule := .none, annotations := none, code := .none, closureTuple := .none, builtins := 0 }), #[]⟩
def o1_346 (P : Params) : Obj := ⟨(.type "code"), none, (.fields #[(.str ("check_names" : Str) 631), (.str ("check_names" : Str) 632), (.str ("/claim/cut.py" : Str) 633), (.int 140 0), (.int 2 0), (.int 0 0), (.int 0 0), (.int 3 0), (.ref 343), (.bool true), (.int 181 0), (.ref 344), .none, .none, .none, (.ref 345), (.int 634 0), (.int 140 0), (.str ("/claim/cut.py" : Str) 635)]), #[]⟩
def o1_347 (P : Params) : Obj := ⟨(.type "function"), none, (.func { name := ("check_names" : Str), qualname := ("check_names" : Str), params := defArgs tp38, body := .stmts (defBody tp38), scope := defScope tp38, globals := 3, closure := [], defaults := .none, kwdefaults := .none, doc := .none, pyModule := (.str ("rosterneed.webs" : Str) 585), annotations := none, code := (.ref 346), closureTuple := .none, builtins := 0 }), #[]⟩
def o1_348 (P : Params) : Obj := ⟨(.type "tuple"), none, (.seq #[] 0), #[]⟩
def o1_349 (P : Params) : Obj := ⟨(.type "builtin_function_or_method"), none, (.fields #[(.builtin "type.__prepare__"), (.type "type")]), #[]⟩
def o1_350 (P : Params) : Obj := ⟨(.type "dict"), none, (.dict #[⟨PyData.keyHash P ("__module__" : Str), (.str ("__module__" : Str) 644), (.str ("rosterneed.webs" : Str) 585)⟩, ⟨PyData.keyHash P ("__qualname__" : Str), (.str ("__qualname__" : Str) 646), (.str ("Web" : Str) 645)⟩, ⟨PyData.keyHash P ("__firstlineno__" : Str), (.str ("__firstlineno__" : Str) 648), (.int 150 647)⟩, ⟨PyData.keyHash P ("__init__" : Str), (.str ("__init__" : Str) 654), (.ref 359)⟩, ⟨PyData.keyHash P ("__getitem__" : Str), (.str ("__getitem__" : Str) 663), (.ref 366)⟩, ⟨PyData.keyHash P ("__contains__" : Str), (.str ("__contains__" : Str) 671), (.ref 373)⟩, ⟨PyData.keyHash P ("__iter__" : Str), (.str ("__iter__" : Str) 678), (.ref 380)⟩, ⟨PyData.keyHash P ("__len__" : Str), (.str ("__len__" : Str) 685), (.ref 387)⟩, ⟨PyData.keyHash P ("__eq__" : Str), (.str ("__eq__" : Str) 693), (.ref 394)⟩, ⟨PyData.keyHash P ("opens" : Str), (.str ("opens" : Str) 701), (.ref 402)⟩, ⟨PyData.keyHash P ("filled" : Str), (.str ("filled" : Str) 709), (.ref 409)⟩, ⟨PyData.keyHash P ("__static_attributes__" : Str), (.str ("__static_attributes__" : Str) 713), (.ref 410)⟩] 12), #[]⟩
def o1_351 (P : Params) : Obj := ⟨(.type "tuple"), none, (.seq #[] 0), #[]⟩
def o1_352 (P : Params) : Obj := ⟨.none, none, (.fields #[(.int 152 0), (.int 4 0), (.ref 358), (.int 160 0), (.int 4 0), (.ref 365), (.int 166 0), (.int 4 0), (.ref 372), (.int 169 0), (.int 4 0), (.ref 379), (.int 172 0), (.int 4 0), (.ref 386), (.int 175 0), (.int 4 0), (.ref 393), (.int 179 0), (.int 4 0), (.ref 400), (.int 182 0), (.int 4 0), (.ref 408)]), #[]⟩
def o1_353 (P : Params) : Obj := ⟨(.type "code"), none, (.fields #[(.str ("Web" : Str) 639), (.str ("Web" : Str) 640), (.str ("/claim/cut.py" : Str) 641), (.int 150 0), (.int 0 0), (.int 0 0), (.int 0 0), (.int 0 0), (.ref 351), (.bool false), (.int 181 0), (.ref 352), .none, .none, .none, .none, (.int 642 0), (.int 150 0), (.str ("/claim/cut.py" : Str) 643)]), #[]⟩
def o1_354 (P : Params) : Obj := ⟨(.type "frame"), none, .plain, #[(some (.ref 353)), (some (.ref 3)), (some (.ref 350)), none, (some (.str ("rosterneed.webs" : Str) 585)), none, (some (.ref 0))]⟩
def o1_355 (P : Params) : Obj := ⟨(.type "tuple"), none, (.seq #[] 0), #[]⟩
def o1_356 (P : Params) : Obj := ⟨.none, none, (.fields #[]), #[]⟩
def o1_357 (P : Params) : Obj := ⟨.none, none, (.func { name := ("__init__" : Str), qualname := ("Web.__init__" : Str), params := defArgs tp39_0, body := .stmts (defBody tp39_0), scope := defScope tp39_0, globals := 0, closure := [], defaults := .none, kwdefaults := .none, doc := .none, pyModule := .none, annotations := none, code := .none, closureTuple := .none, builtins := 0 }), #[]⟩
def o1_358 (P : Params) : Obj := ⟨(.type "code"), none, (.fields #[(.str ("__init__" : Str) 649), (.str ("Web.__init__" : Str) 650), (.str ("/claim/cut.py" : Str) 651), (.int 152 0), (.int 3 0), (.int 0 0), (.int 0 0), (.int 3 0), (.ref 355), (.bool true), (.int 181 0), (.ref 356), .none, .none, .none, (.ref 357), (.int 652 0), (.int 152 0), (.str ("/claim/cut.py" : Str) 653)]), #[]⟩
def o1_359 (P : Params) : Obj := ⟨(.type "function"), none, (.func { name := ("__init__" : Str), qualname := ("Web.__init__" : Str), params := defArgs tp39_0, body := .stmts (defBody tp39_0), scope := defScope tp39_0, globals := 3, closure := [], defaults := .none, kwdefaults := .none, doc := .none, pyModule := (.str ("rosterneed.webs" : Str) 585), annotations := none, code := (.ref 358), closureTuple := .none, builtins := 0 }), #[]⟩
def o1_360 (P : Params) : Obj := ⟨(.type "tuple"), none, (.seq #[] 0), #[]⟩
def o1_361 (P : Params) : Obj := ⟨.none, none, (.fields #[]), #[]⟩
def o1_362 (P : Params) : Obj := ⟨(.type "tuple"), none, (.seq #[(.str ("self" : Str) 658), (.str ("name" : Str) 659), (.str ("row" : Str) 660)] 0), #[]⟩
def o1_363 (P : Params) : Obj := ⟨(.type "tuple"), none, (.seq #[] 0), #[]⟩
def o1_364 (P : Params) : Obj := ⟨.none, none, (.func { name := ("__getitem__" : Str), qualname := ("Web.__getitem__" : Str), params := defArgs tp39_1, body := .stmts (defBody tp39_1), scope := defScope tp39_1, globals := 0, closure := [], defaults := .none, kwdefaults := .none, doc := .none, pyModule := .none, annotations := none, code := .none, closureTuple := .none, builtins := 0 }), #[]⟩
def o1_365 (P : Params) : Obj := ⟨(.type "code"), none, (.fields #[(.str ("__getitem__" : Str) 655), (.str ("Web.__getitem__" : Str) 656), (.str ("/claim/cut.py" : Str) 657), (.int 160 0), (.int 2 0), (.int 0 0), (.int 0 0), (.int 3 0), (.ref 360), (.bool true), (.int 181 0), (.ref 361), .none, (.ref 362), (.ref 363), (.ref 364), (.int 661 0), (.int 160 0), (.str ("/claim/cut.py" : Str) 662)]), #[]⟩
def o1_366 (P : Params) : Obj := ⟨(.type "function"), none, (.func { name := ("__getitem__" : Str), qualname := ("Web.__getitem__" : Str), params := defArgs tp39_1, body := .stmts (defBody tp39_1), scope := defScope tp39_1, globals := 3, closure := [], defaults := .none, kwdefaults := .none, doc := .none, pyModule := (.str ("rosterneed.webs" : Str) 585), annotations := none, code := (.ref 365), closureTuple := .none, builtins := 0 }), #[]⟩
def o1_367 (P : Params) : Obj := ⟨(.type "tuple"), none, (.seq #[] 0), #[]⟩
def o1_368 (P : Params) : Obj := ⟨.none, none, (.fields #[]), #[]⟩
def o1_369 (P : Params) : Obj := ⟨(.type "tuple"), none, (.seq #[(.str ("self" : Str) 667), (.str ("name" : Str) 668)] 0), #[]⟩
def o1_370 (P : Params) : Obj := ⟨(.type "tuple"), none, (.seq #[] 0), #[]⟩
def o1_371 (P : Params) : Obj := ⟨.none, none, (.func { name := ("__contains__" : Str), qualname := ("Web.__contains__" : Str), params := defArgs tp39_2, body := .stmts (defBody tp39_2), scope := defScope tp39_2, globals := 0, closure := [], defaults := .none, kwdefaults := .none, doc := .none, pyModule := .none, annotations := none, code := .none, closureTuple := .none, builtins := 0 }), #[]⟩
def o1_372 (P : Params) : Obj := ⟨(.type "code"), none, (.fields #[(.str ("__contains__" : Str) 664), (.str ("Web.__contains__" : Str) 665), (.str ("/claim/cut.py" : Str) 666), (.int 166 0), (.int 2 0), (.int 0 0), (.int 0 0), (.int 3 0), (.ref 367), (.bool true), (.int 181 0), (.ref 368), .none, (.ref 369), (.ref 370), (.ref 371), (.int 669 0), (.int 166 0), (.str ("/claim/cut.py" : Str) 670)]), #[]⟩
def o1_373 (P : Params) : Obj := ⟨(.type "function"), none, (.func { name := ("__contains__" : Str), qualname := ("Web.__contains__" : Str), params := defArgs tp39_2, body := .stmts (defBody tp39_2), scope := defScope tp39_2, globals := 3, closure := [], defaults := .none, kwdefaults := .none, doc := .none, pyModule := (.str ("rosterneed.webs" : Str) 585), annotations := none, code := (.ref 372), closureTuple := .none, builtins := 0 }), #[]⟩
def o1_374 (P : Params) : Obj := ⟨(.type "tuple"), none, (.seq #[] 0), #[]⟩
def o1_375 (P : Params) : Obj := ⟨.none, none, (.fields #[]), #[]⟩
def o1_376 (P : Params) : Obj := ⟨(.type "tuple"), none, (.seq #[(.str ("self" : Str) 675)] 0), #[]⟩
def o1_377 (P : Params) : Obj := ⟨(.type "tuple"), none, (.seq #[] 0), #[]⟩
def o1_378 (P : Params) : Obj := ⟨.none, none, (.func { name := ("__iter__" : Str), qualname := ("Web.__iter__" : Str), params := defArgs tp39_3, body := .stmts (defBody tp39_3), scope := defScope tp39_3, globals := 0, closure := [], defaults := .none, kwdefaults := .none, doc := .none, pyModule := .none, annotations := none, code := .none, closureTuple := .none, builtins := 0 }), #[]⟩
def o1_379 (P : Params) : Obj := ⟨(.type "code"), none, (.fields #[(.str ("__iter__" : Str) 672), (.str ("Web.__iter__" : Str) 673), (.str ("/claim/cut.py" : Str) 674), (.int 169 0), (.int 1 0), (.int 0 0), (.int 0 0), (.int 3 0), (.ref 374), (.bool true), (.int 181 0), (.ref 375), .none, (.ref 376), (.ref 377), (.ref 378), (.int 676 0), (.int 169 0), (.str ("/claim/cut.py" : Str) 677)]), #[]⟩
def o1_380 (P : Params) : Obj := ⟨(.type "function"), none, (.func { name := ("__iter__" : Str), qualname := ("Web.__iter__" : Str), params := defArgs tp39_3, body := .stmts (defBody tp39_3), scope := defScope tp39_3, globals := 3, closure := [], defaults := .none, kwdefaults := .none, doc := .none, pyModule := (.str ("rosterneed.webs" : Str) 585), annotations := none, code := (.ref 379), closureTuple := .none, builtins := 0 }), #[]⟩
def o1_381 (P : Params) : Obj := ⟨(.type "tuple"), none, (.seq #[] 0), #[]⟩
def o1_382 (P : Params) : Obj := ⟨.none, none, (.fields #[]), #[]⟩
def o1_383 (P : Params) : Obj := ⟨(.type "tuple"), none, (.seq #[(.str ("self" : Str) 682)] 0), #[]⟩
def o1_384 (P : Params) : Obj := ⟨(.type "tuple"), none, (.seq #[] 0), #[]⟩
def o1_385 (P : Params) : Obj := ⟨.none, none, (.func { name := ("__len__" : Str), qualname := ("Web.__len__" : Str), params := defArgs tp39_4, body := .stmts (defBody tp39_4), scope := defScope tp39_4, globals := 0, closure := [], defaults := .none, kwdefaults := .none, doc := .none, pyModule := .none, annotations := none, code := .none, closureTuple := .none, builtins := 0 }), #[]⟩
def o1_386 (P : Params) : Obj := ⟨(.type "code"), none, (.fields #[(.str ("__len__" : Str) 679), (.str ("Web.__len__" : Str) 680), (.str ("/claim/cut.py" : Str) 681), (.int 172 0), (.int 1 0), (.int 0 0), (.int 0 0), (.int 3 0), (.ref 381), (.bool true), (.int 181 0), (.ref 382), .none, (.ref 383), (.ref 384), (.ref 385), (.int 683 0), (.int 172 0), (.str ("/claim/cut.py" : Str) 684)]), #[]⟩
def o1_387 (P : Params) : Obj := ⟨(.type "function"), none, (.func { name := ("__len__" : Str), qualname := ("Web.__len__" : Str), params := defArgs tp39_4, body := .stmts (defBody tp39_4), scope := defScope tp39_4, globals := 3, closure := [], defaults := .none, kwdefaults := .none, doc := .none, pyModule := (.str ("rosterneed.webs" : Str) 585), annotations := none, code := (.ref 386), closureTuple := .none, builtins := 0 }), #[]⟩
def o1_388 (P : Params) : Obj := ⟨(.type "tuple"), none, (.seq #[] 0), #[]⟩
def o1_389 (P : Params) : Obj := ⟨.none, none, (.fields #[]), #[]⟩
def o1_390 (P : Params) : Obj := ⟨(.type "tuple"), none, (.seq #[(.str ("self" : Str) 689), (.str ("other" : Str) 690)] 0), #[]⟩
def o1_391 (P : Params) : Obj := ⟨(.type "tuple"), none, (.seq #[] 0), #[]⟩
def o1_392 (P : Params) : Obj := ⟨.none, none, (.func { name := ("__eq__" : Str), qualname := ("Web.__eq__" : Str), params := defArgs tp39_5, body := .stmts (defBody tp39_5), scope := defScope tp39_5, globals := 0, closure := [], defaults := .none, kwdefaults := .none, doc := .none, pyModule := .none, annotations := none, code := .none, closureTuple := .none, builtins := 0 }), #[]⟩
def o1_393 (P : Params) : Obj := ⟨(.type "code"), none, (.fields #[(.str ("__eq__" : Str) 686), (.str ("Web.__eq__" : Str) 687), (.str ("/claim/cut.py" : Str) 688), (.int 175 0), (.int 2 0), (.int 0 0), (.int 0 0), (.int 3 0), (.ref 388), (.bool true), (.int 181 0), (.ref 389), .none, (.ref 390), (.ref 391), (.ref 392), (.int 691 0), (.int 175 0), (.str ("/claim/cut.py" : Str) 692)]), #[]⟩
def o1_394 (P : Params) : Obj := ⟨(.type "function"), none, (.func { name := ("__eq__" : Str), qualname := ("Web.__eq__" : Str), params := defArgs tp39_5, body := .stmts (defBody tp39_5), scope := defScope tp39_5, globals := 3, closure := [], defaults := .none, kwdefaults := .none, doc := .none, pyModule := (.str ("rosterneed.webs" : Str) 585), annotations := none, code := (.ref 393), closureTuple := .none, builtins := 0 }), #[]⟩
def o1_395 (P : Params) : Obj := ⟨(.type "tuple"), none, (.seq #[] 0), #[]⟩
def o1_396 (P : Params) : Obj := ⟨.none, none, (.fields #[]), #[]⟩
def o1_397 (P : Params) : Obj := ⟨(.type "tuple"), none, (.seq #[(.str ("self" : Str) 697)] 0), #[]⟩
def o1_398 (P : Params) : Obj := ⟨(.type "tuple"), none, (.seq #[] 0), #[]⟩
def o1_399 (P : Params) : Obj := ⟨.none, none, (.func { name := ("opens" : Str), qualname := ("Web.opens" : Str), params := defArgs tp39_6, body := .stmts (defBody tp39_6), scope := defScope tp39_6, globals := 0, closure := [], defaults := .none, kwdefaults := .none, doc := .none, pyModule := .none, annotations := none, code := .none, closureTuple := .none, builtins := 0 }), #[]⟩
def o1_400 (P : Params) : Obj := ⟨(.type "code"), none, (.fields #[(.str ("opens" : Str) 694), (.str ("Web.opens" : Str) 695), (.str ("/claim/cut.py" : Str) 696), (.int 178 0), (.int 1 0), (.int 0 0), (.int 0 0), (.int 3 0), (.ref 395), (.bool true), (.int 181 0), (.ref 396), .none, (.ref 397), (.ref 398), (.ref 399), (.int 698 0), (.int 178 0), (.str ("/claim/cut.py" : Str) 699)]), #[]⟩
def o1_401 (P : Params) : Obj := ⟨(.type "function"), none, (.func { name := ("opens" : Str), qualname := ("Web.opens" : Str), params := defArgs tp39_6, body := .stmts (defBody tp39_6), scope := defScope tp39_6, globals := 3, closure := [], defaults := .none, kwdefaults := .none, doc := .none, pyModule := (.str ("rosterneed.webs" : Str) 585), annotations := none, code := (.ref 400), closureTuple := .none, builtins := 0 }), #[]⟩
def o1_402 (P : Params) : Obj := ⟨(.type "property"), none, (.fields #[(.ref 401), .none, .none, .none, (.str ("opens" : Str) 701), (.bool false)]), #[]⟩
def o1_403 (P : Params) : Obj := ⟨(.type "tuple"), none, (.seq #[] 0), #[]⟩
def o1_404 (P : Params) : Obj := ⟨.none, none, (.fields #[]), #[]⟩
def o1_405 (P : Params) : Obj := ⟨(.type "tuple"), none, (.seq #[(.str ("self" : Str) 705), (.str ("makers" : Str) 706)] 0), #[]⟩
def o1_406 (P : Params) : Obj := ⟨(.type "tuple"), none, (.seq #[] 0), #[]⟩
def o1_407 (P : Params) : Obj := ⟨.none, none, (.func { name := ("filled" : Str), qualname := ("Web.filled" : Str), params := defArgs tp39_7, body := .stmts (defBody tp39_7), scope := defScope tp39_7, globals := 0, closure := [], defaults := .none, kwdefaults := .none, doc := .none, pyModule := .none, annotations := none, code := .none, closureTuple := .none, builtins := 0 }), #[]⟩
def o1_408 (P : Params) : Obj := ⟨(.type "code"), none, (.fields #[(.str ("filled" : Str) 702), (.str ("Web.filled" : Str) 703), (.str ("/claim/cut.py" : Str) 704), (.int 182 0), (.int 2 0), (.int 0 0), (.int 0 0), (.int 3 0), (.ref 403), (.bool true), (.int 181 0), (.ref 404), .none, (.ref 405), (.ref 406), (.ref 407), (.int 707 0), (.int 182 0), (.str ("/claim/cut.py" : Str) 708)]), #[]⟩
def o1_409 (P : Params) : Obj := ⟨(.type "function"), none, (.func { name := ("filled" : Str), qualname := ("Web.filled" : Str), params := defArgs tp39_7, body := .stmts (defBody tp39_7), scope := defScope tp39_7, globals := 3, closure := [], defaults := .none, kwdefaults := .none, doc := .none, pyModule := (.str ("rosterneed.webs" : Str) 585), annotations := none, code := (.ref 408), closureTuple := .none, builtins := 0 }), #[]⟩
def o1_410 (P : Params) : Obj := ⟨(.type "tuple"), none, (.seq #[(.str ("givens" : Str) 710), (.str ("row_names" : Str) 711), (.str ("rows" : Str) 712)] 0), #[]⟩
def o1_411 (P : Params) : Obj := ⟨(.type "dict"), none, (.dict #[⟨PyData.keyHash P ("__module__" : Str), (.str ("__module__" : Str) 644), (.str ("rosterneed.webs" : Str) 585)⟩, ⟨PyData.keyHash P ("__firstlineno__" : Str), (.str ("__firstlineno__" : Str) 648), (.int 150 647)⟩, ⟨PyData.keyHash P ("__init__" : Str), (.str ("__init__" : Str) 654), (.ref 359)⟩, ⟨PyData.keyHash P ("__getitem__" : Str), (.str ("__getitem__" : Str) 663), (.ref 366)⟩, ⟨PyData.keyHash P ("__contains__" : Str), (.str ("__contains__" : Str) 671), (.ref 373)⟩, ⟨PyData.keyHash P ("__iter__" : Str), (.str ("__iter__" : Str) 678), (.ref 380)⟩, ⟨PyData.keyHash P ("__len__" : Str), (.str ("__len__" : Str) 685), (.ref 387)⟩, ⟨PyData.keyHash P ("__eq__" : Str), (.str ("__eq__" : Str) 693), (.ref 394)⟩, ⟨PyData.keyHash P ("opens" : Str), (.str ("opens" : Str) 701), (.ref 402)⟩, ⟨PyData.keyHash P ("filled" : Str), (.str ("filled" : Str) 709), (.ref 409)⟩, ⟨PyData.keyHash P ("__static_attributes__" : Str), (.str ("__static_attributes__" : Str) 713), (.ref 410)⟩, ⟨PyData.keyHash P ("__dict__" : Str), (.str ("__dict__" : Str) 715), (.ref 413)⟩, ⟨PyData.keyHash P ("__weakref__" : Str), (.str ("__weakref__" : Str) 717), (.ref 414)⟩, ⟨PyData.keyHash P ("__doc__" : Str), (.str ("__doc__" : Str) 718), .none⟩, ⟨PyData.keyHash P ("__hash__" : Str), (.str ("__hash__" : Str) 719), .none⟩] 5), #[]⟩
def o1_412 (P : Params) : Obj := ⟨(.type "type"), none, (.cls { name := ("Web" : Str), bases := [(.type "object")], mro := [(.ref 412), (.type "object")], ns := 411, qualname := ("Web" : Str), hasDict := true, slotNames := [], subclasses := [], abstract := false, collection := none, hasDel := false }), #[none, none, (some (.str ("Web" : Str) 637)), (some (.str ("Web" : Str) 645)), (some (.builtin "object.__new__")), (some (.bool true))]⟩
def o1_413 (P : Params) : Obj := ⟨(.type "getset_descriptor"), none, (.fields #[(.str ("__dict__" : Str) 714), (.ref 412), (.builtin "function.__dict__"), (.builtin "function.__dict__#set")]), #[]⟩
def o1_414 (P : Params) : Obj := ⟨(.type "getset_descriptor"), none, (.fields #[(.str ("__weakref__" : Str) 716), (.ref 412), (.builtin "ExceptionGroup.__weakref__"), .none]), #[]⟩
def o1_415 (P : Params) : Obj := ⟨(.type "super"), none, (.fields #[(.ref 412), (.ref 412), (.ref 412)]), #[]⟩
def o1_416 (P : Params) : Obj := ⟨(.type "builtin_function_or_method"), none, (.fields #[(.builtin "object.__init_subclass__"), (.ref 412)]), #[]⟩
def t1 (P : Params) : BT := (.node (boot_o_0 P) (.node (boot_o_1 P) (.node (o1_3 P) (.node (boot_o_7 P) (.node (o0_15 P) (.node (o0_31 P) (.node (o0_63 P) (.node (o0_127 P) (.node (o1_255 P) .nil .nil) (.node (o1_383 P) .nil .nil)) (.node (o0_191 P) (.node (o1_319 P) .nil .nil) .nil)) (.node (o0_95 P) (.node (o0_159 P) (.node (o1_287 P) .nil .nil) (.node (o1_415 P) .nil .nil)) (.node (o1_223 P) (.node (o1_351 P) .nil .nil) .nil))) (.node (o0_47 P) (.node (o0_79 P) (.node (o0_143 P) (.node (o1_271 P) .nil .nil) (.node (o1_399 P) .nil .nil)) (.node (o1_207 P) (.node (o1_335 P) .nil .nil) .nil)) (.node (o0_111 P) (.node (o0_175 P) (.node (o1_303 P) .nil .nil) .nil) (.node (o1_239 P) (.node (o1_367 P) .nil .nil) .nil)))) (.node (o0_23 P) (.node (o0_39 P) (.node (o0_71 P) (.node (o0_135 P) (.node (o1_263 P) .nil .nil) (.node (o1_391 P) .nil .nil)) (.node (o1_199 P) (.node (o1_327 P) .nil .nil) .nil)) (.node (o0_103 P) (.node (o0_167 P) (.node (o1_295 P) .nil .nil) .nil) (.node (o1_231 P) (.node (o1_359 P) .nil .nil) .nil))) (.node (o0_55 P) (.node (o0_87 P) (.node (o0_151 P) (.node (o1_279 P) .nil .nil) (.node (o1_407 P) .nil .nil)) (.node (o1_215 P) (.node (o1_343 P) .nil .nil) .nil)) (.node (o0_119 P) (.node (o0_183 P) (.node (o1_311 P) .nil .nil) .nil) (.node (o1_247 P) (.node (o1_375 P) .nil .nil) .nil))))) (.node (oa_11 P) (.node (o0_19 P) (.node (o0_35 P) (.node (o0_67 P) (.node (o0_131 P) (.node (o1_259 P) .nil .nil) (.node (o1_387 P) .nil .nil)) (.node (o0_195 P) (.node (o1_323 P) .nil .nil) .nil)) (.node (o0_99 P) (.node (o0_163 P) (.node (o1_291 P) .nil .nil) .nil) (.node (o1_227 P) (.node (o1_355 P) .nil .nil) .nil))) (.node (o0_51 P) (.node (o0_83 P) (.node (o0_147 P) (.node (o1_275 P) .nil .nil) (.node (o1_403 P) .nil .nil)) (.node (o1_211 P) (.node (o1_339 P) .nil .nil) .nil)) (.node (o0_115 P) (.node (o0_179 P) (.node (o1_307 P) .nil .nil) .nil) (.node (o1_243 P) (.node (o1_371 P) .nil .nil) .nil)))) (.node (o0_27 P) (.node (o0_43 P) (.node (o0_75 P) (.node (o0_139 P) (.node (o1_267 P) .nil .nil) (.node (o1_395 P) .nil .nil)) (.node (o1_203 P) (.node (o1_331 P) .nil .nil) .nil)) (.node (o1_107 P) (.node (o0_171 P) (.node (o1_299 P) .nil .nil) .nil) (.node (o1_235 P) (.node (o1_363 P) .nil .nil) .nil))) (.node (o0_59 P) (.node (o0_91 P) (.node (o0_155 P) (.node (o1_283 P) .nil .nil) (.node (o1_411 P) .nil .nil)) (.node (o1_219 P) (.node (o1_347 P) .nil .nil) .nil)) (.node (o0_123 P) (.node (o0_187 P) (.node (o1_315 P) .nil .nil) .nil) (.node (o1_251 P) (.node (o1_379 P) .nil .nil) .nil)))))) (.node (boot_o_5 P) (.node (boot_o_9 P) (.node (o0_17 P) (.node (o0_33 P) (.node (o0_65 P) (.node (o0_129 P) (.node (o1_257 P) .nil .nil) (.node (o1_385 P) .nil .nil)) (.node (o0_193 P) (.node (o1_321 P) .nil .nil) .nil)) (.node (o0_97 P) (.node (o0_161 P) (.node (o1_289 P) .nil .nil) .nil) (.node (o1_225 P) (.node (o1_353 P) .nil .nil) .nil))) (.node (o0_49 P) (.node (o0_81 P) (.node (o0_145 P) (.node (o1_273 P) .nil .nil) (.node (o1_401 P) .nil .nil)) (.node (o1_209 P) (.node (o1_337 P) .nil .nil) .nil)) (.node (o0_113 P) (.node (o0_177 P) (.node (o1_305 P) .nil .nil) .nil) (.node (o1_241 P) (.node (o1_369 P) .nil .nil) .nil)))) (.node (o0_25 P) (.node (o0_41 P) (.node (o0_73 P) (.node (o0_137 P) (.node (o1_265 P) .nil .nil) (.node (o1_393 P) .nil .nil)) (.node (o1_201 P) (.node (o1_329 P) .nil .nil) .nil)) (.node (o0_105 P) (.node (o0_169 P) (.node (o1_297 P) .nil .nil) .nil) (.node (o1_233 P) (.node (o1_361 P) .nil .nil) .nil))) (.node (o0_57 P) (.node (o0_89 P) (.node (o0_153 P) (.node (o1_281 P) .nil .nil) (.node (o1_409 P) .nil .nil)) (.node (o1_217 P) (.node (o1_345 P) .nil .nil) .nil)) (.node (o0_121 P) (.node (o0_185 P) (.node (o1_313 P) .nil .nil) .nil) (.node (o1_249 P) (.node (o1_377 P) .nil .nil) .nil))))) (.node (oa_13 P) (.node (o0_21 P) (.node (o0_37 P) (.node (o0_69 P) (.node (o0_133 P) (.node (o1_261 P) .nil .nil) (.node (o1_389 P) .nil .nil)) (.node (o1_197 P) (.node (o1_325 P) .nil .nil) .nil)) (.node (o0_101 P) (.node (o0_165 P) (.node (o1_293 P) .nil .nil) .nil) (.node (o1_229 P) (.node (o1_357 P) .nil .nil) .nil))) (.node (o0_53 P) (.node (o0_85 P) (.node (o0_149 P) (.node (o1_277 P) .nil .nil) (.node (o1_405 P) .nil .nil)) (.node (o1_213 P) (.node (o1_341 P) .nil .nil) .nil)) (.node (o0_117 P) (.node (o0_181 P) (.node (o1_309 P) .nil .nil) .nil) (.node (o1_245 P) (.node (o1_373 P) .nil .nil) .nil)))) (.node (o0_29 P) (.node (o0_45 P) (.node (o0_77 P) (.node (o0_141 P) (.node (o1_269 P) .nil .nil) (.node (o1_397 P) .nil .nil)) (.node (o1_205 P) (.node (o1_333 P) .nil .nil) .nil)) (.node (o0_109 P) (.node (o0_173 P) (.node (o1_301 P) .nil .nil) .nil) (.node (o1_237 P) (.node (o1_365 P) .nil .nil) .nil))) (.node (o0_61 P) (.node (o0_93 P) (.node (o0_157 P) (.node (o1_285 P) .nil .nil) (.node (o1_413 P) .nil .nil)) (.node (o1_221 P) (.node (o1_349 P) .nil .nil) .nil)) (.node (o0_125 P) (.node (o0_189 P) (.node (o1_317 P) .nil .nil) .nil) (.node (o1_253 P) (.node (o1_381 P) .nil .nil) .nil))))))) (.node (boot_o_2 P) (.node (boot_o_4 P) (.node (boot_o_8 P) (.node (o0_16 P) (.node (o0_32 P) (.node (o0_64 P) (.node (o1_128 P) (.node (o1_256 P) .nil .nil) (.node (o1_384 P) .nil .nil)) (.node (o0_192 P) (.node (o1_320 P) .nil .nil) .nil)) (.node (o0_96 P) (.node (o0_160 P) (.node (o1_288 P) .nil .nil) (.node (o1_416 P) .nil .nil)) (.node (o1_224 P) (.node (o1_352 P) .nil .nil) .nil))) (.node (o0_48 P) (.node (o0_80 P) (.node (o0_144 P) (.node (o1_272 P) .nil .nil) (.node (o1_400 P) .nil .nil)) (.node (o1_208 P) (.node (o1_336 P) .nil .nil) .nil)) (.node (o0_112 P) (.node (o0_176 P) (.node (o1_304 P) .nil .nil) .nil) (.node (o1_240 P) (.node (o1_368 P) .nil .nil) .nil)))) (.node (o0_24 P) (.node (o0_40 P) (.node (o0_72 P) (.node (o0_136 P) (.node (o1_264 P) .nil .nil) (.node (o1_392 P) .nil .nil)) (.node (o1_200 P) (.node (o1_328 P) .nil .nil) .nil)) (.node (o0_104 P) (.node (o0_168 P) (.node (o1_296 P) .nil .nil) .nil) (.node (o1_232 P) (.node (o1_360 P) .nil .nil) .nil))) (.node (o0_56 P) (.node (o0_88 P) (.node (o0_152 P) (.node (o1_280 P) .nil .nil) (.node (o1_408 P) .nil .nil)) (.node (o1_216 P) (.node (o1_344 P) .nil .nil) .nil)) (.node (o0_120 P) (.node (o0_184 P) (.node (o1_312 P) .nil .nil) .nil) (.node (o1_248 P) (.node (o1_376 P) .nil .nil) .nil))))) (.node (o1_12 P) (.node (o0_20 P) (.node (o0_36 P) (.node (o0_68 P) (.node (o0_132 P) (.node (o1_260 P) .nil .nil) (.node (o1_388 P) .nil .nil)) (.node (o0_196 P) (.node (o1_324 P) .nil .nil) .nil)) (.node (o0_100 P) (.node (o0_164 P) (.node (o1_292 P) .nil .nil) .nil) (.node (o1_228 P) (.node (o1_356 P) .nil .nil) .nil))) (.node (o0_52 P) (.node (o0_84 P) (.node (o0_148 P) (.node (o1_276 P) .nil .nil) (.node (o1_404 P) .nil .nil)) (.node (o1_212 P) (.node (o1_340 P) .nil .nil) .nil)) (.node (o0_116 P) (.node (o0_180 P) (.node (o1_308 P) .nil .nil) .nil) (.node (o1_244 P) (.node (o1_372 P) .nil .nil) .nil)))) (.node (o0_28 P) (.node (o0_44 P) (.node (o0_76 P) (.node (o0_140 P) (.node (o1_268 P) .nil .nil) (.node (o1_396 P) .nil .nil)) (.node (o1_204 P) (.node (o1_332 P) .nil .nil) .nil)) (.node (o0_108 P) (.node (o0_172 P) (.node (o1_300 P) .nil .nil) .nil) (.node (o1_236 P) (.node (o1_364 P) .nil .nil) .nil))) (.node (o0_60 P) (.node (o0_92 P) (.node (o0_156 P) (.node (o1_284 P) .nil .nil) (.node (o1_412 P) .nil .nil)) (.node (o1_220 P) (.node (o1_348 P) .nil .nil) .nil)) (.node (o0_124 P) (.node (o0_188 P) (.node (o1_316 P) .nil .nil) .nil) (.node (o1_252 P) (.node (o1_380 P) .nil .nil) .nil)))))) (.node (boot_o_6 P) (.node (boot_o_10 P) (.node (o0_18 P) (.node (o0_34 P) (.node (o0_66 P) (.node (o0_130 P) (.node (o1_258 P) .nil .nil) (.node (o1_386 P) .nil .nil)) (.node (o0_194 P) (.node (o1_322 P) .nil .nil) .nil)) (.node (o0_98 P) (.node (o0_162 P) (.node (o1_290 P) .nil .nil) .nil) (.node (o1_226 P) (.node (o1_354 P) .nil .nil) .nil))) (.node (o0_50 P) (.node (o0_82 P) (.node (o0_146 P) (.node (o1_274 P) .nil .nil) (.node (o1_402 P) .nil .nil)) (.node (o1_210 P) (.node (o1_338 P) .nil .nil) .nil)) (.node (o0_114 P) (.node (o0_178 P) (.node (o1_306 P) .nil .nil) .nil) (.node (o1_242 P) (.node (o1_370 P) .nil .nil) .nil)))) (.node (o0_26 P) (.node (o0_42 P) (.node (o0_74 P) (.node (o0_138 P) (.node (o1_266 P) .nil .nil) (.node (o1_394 P) .nil .nil)) (.node (o1_202 P) (.node (o1_330 P) .nil .nil) .nil)) (.node (o0_106 P) (.node (o0_170 P) (.node (o1_298 P) .nil .nil) .nil) (.node (o1_234 P) (.node (o1_362 P) .nil .nil) .nil))) (.node (o0_58 P) (.node (o0_90 P) (.node (o0_154 P) (.node (o1_282 P) .nil .nil) (.node (o1_410 P) .nil .nil)) (.node (o1_218 P) (.node (o1_346 P) .nil .nil) .nil)) (.node (o0_122 P) (.node (o0_186 P) (.node (o1_314 P) .nil .nil) .nil) (.node (o1_250 P) (.node (o1_378 P) .nil .nil) .nil))))) (.node (oa_14 P) (.node (o0_22 P) (.node (o0_38 P) (.node (o0_70 P) (.node (o0_134 P) (.node (o1_262 P) .nil .nil) (.node (o1_390 P) .nil .nil)) (.node (o1_198 P) (.node (o1_326 P) .nil .nil) .nil)) (.node (o0_102 P) (.node (o0_166 P) (.node (o1_294 P) .nil .nil) .nil) (.node (o1_230 P) (.node (o1_358 P) .nil .nil) .nil))) (.node (o0_54 P) (.node (o0_86 P) (.node (o0_150 P) (.node (o1_278 P) .nil .nil) (.node (o1_406 P) .nil .nil)) (.node (o1_214 P) (.node (o1_342 P) .nil .nil) .nil)) (.node (o0_118 P) (.node (o0_182 P) (.node (o1_310 P) .nil .nil) .nil) (.node (o1_246 P) (.node (o1_374 P) .nil .nil) .nil)))) (.node (o0_30 P) (.node (o0_46 P) (.node (o0_78 P) (.node (o0_142 P) (.node (o1_270 P) .nil .nil) (.node (o1_398 P) .nil .nil)) (.node (o1_206 P) (.node (o1_334 P) .nil .nil) .nil)) (.node (o0_110 P) (.node (o0_174 P) (.node (o1_302 P) .nil .nil) .nil) (.node (o1_238 P) (.node (o1_366 P) .nil .nil) .nil))) (.node (o0_62 P) (.node (o0_94 P) (.node (o0_158 P) (.node (o1_286 P) .nil .nil) (.node (o1_414 P) .nil .nil)) (.node (o1_222 P) (.node (o1_350 P) .nil .nil) .nil)) (.node (o0_126 P) (.node (o0_190 P) (.node (o1_318 P) .nil .nil) .nil) (.node (o1_254 P) (.node (o1_382 P) .nil .nil) .nil))))))))
def S1 (w : World) (os : OsState) : SharedT := ⟨t1 w.params, 417, {}, #[], {}, 726, os⟩
def p1 : Pos := ⟨185, 0, 185, 10⟩
def o2_3 (P : Params) : Obj := ⟨(.type "dict"), none, (.dict #[⟨PyData.keyHash P ("__name__" : Str), (.str ("__name__" : Str) 165), (.str ("rosterneed.webtext" : Str) 722)⟩, ⟨PyData.keyHash P ("__doc__" : Str), (.str ("__doc__" : Str) 166), .none⟩, ⟨PyData.keyHash P ("__package__" : Str), (.str ("__package__" : Str) 167), .none⟩, ⟨PyData.keyHash P ("__loader__" : Str), (.str ("__loader__" : Str) 168), (.builtin "__main__.__loader__#opaque")⟩, ⟨PyData.keyHash P ("__spec__" : Str), (.str ("__spec__" : Str) 169), .none⟩, ⟨PyData.keyHash P ("__annotations__" : Str), (.str ("__annotations__" : Str) 170), (.ref 6)⟩, ⟨PyData.keyHash P ("__builtins__" : Str), (.str ("__builtins__" : Str) 171), (.ref 4)⟩, ⟨PyData.keyHash P ("__file__" : Str), (.str ("__file__" : Str) 173), (.str ("/claim/cut.py" : Str) 172)⟩, ⟨PyData.keyHash P ("__cached__" : Str), (.str ("__cached__" : Str) 174), .none⟩, ⟨PyData.keyHash P ("_wall" : Str), (.str ("_wall" : Str) 193), (.ref 21)⟩, ⟨PyData.keyHash P ("RosterneedError" : Str), (.str ("RosterneedError" : Str) 213), (.ref 31)⟩, ⟨PyData.keyHash P ("Unreadable" : Str), (.str ("Unreadable" : Str) 229), (.ref 44)⟩, ⟨PyData.keyHash P ("WrongThing" : Str), (.str ("WrongThing" : Str) 256), (.ref 65)⟩, ⟨PyData.keyHash P ("WrongWord" : Str), (.str ("WrongWord" : Str) 283), (.ref 86)⟩, ⟨PyData.keyHash P ("WrongNumber" : Str), (.str ("WrongNumber" : Str) 310), (.ref 107)⟩, ⟨PyData.keyHash P ("WrongName" : Str), (.str ("WrongName" : Str) 337), (.ref 128)⟩, ⟨PyData.keyHash P ("BadLine" : Str), (.str ("BadLine" : Str) 364), (.ref 149)⟩, ⟨PyData.keyHash P ("TooMany" : Str), (.str ("TooMany" : Str) 391), (.ref 170)⟩, ⟨PyData.keyHash P ("Lacking" : Str), (.str ("Lacking" : Str) 407), (.ref 182)⟩, ⟨PyData.keyHash P ("BadMaker" : Str), (.str ("BadMaker" : Str) 423), (.ref 194)⟩, ⟨PyData.keyHash P ("BadName" : Str), (.str ("BadName" : Str) 439), (.ref 206)⟩, ⟨PyData.keyHash P ("BadRow" : Str), (.str ("BadRow" : Str) 455), (.ref 218)⟩, ⟨PyData.keyHash P ("Twice" : Str), (.str ("Twice" : Str) 471), (.ref 230)⟩, ⟨PyData.keyHash P ("is_integer" : Str), (.str ("is_integer" : Str) 480), (.ref 239)⟩, ⟨PyData.keyHash P ("is_listed" : Str), (.str ("is_listed" : Str) 487), (.ref 246)⟩, ⟨PyData.keyHash P ("deep" : Str), (.str ("deep" : Str) 493), (.ref 251)⟩, ⟨PyData.keyHash P ("is_word" : Str), (.str ("is_word" : Str) 505), (.ref 259)⟩, ⟨PyData.keyHash P ("GIVE" : Str), (.str ("GIVE" : Str) 509), (.str ("give" : Str) 508)⟩, ⟨PyData.keyHash P ("MOST_INLETS" : Str), (.str ("MOST_INLETS" : Str) 511), (.int 3 510)⟩, ⟨PyData.keyHash P ("MOST_WAYS" : Str), (.str ("MOST_WAYS" : Str) 513), (.int 4 512)⟩, ⟨PyData.keyHash P ("MOST_DEEDS" : Str), (.str ("MOST_DEEDS" : Str) 515), (.int 600 514)⟩, ⟨PyData.keyHash P ("MOST_DEEDS_EACH" : Str), (.str ("MOST_DEEDS_EACH" : Str) 517), (.int 24 516)⟩, ⟨PyData.keyHash P ("is_deed" : Str), (.str ("is_deed" : Str) 525), (.ref 266)⟩, ⟨PyData.keyHash P ("is_deeds" : Str), (.str ("is_deeds" : Str) 531), (.ref 271)⟩, ⟨PyData.keyHash P ("is_ways" : Str), (.str ("is_ways" : Str) 537), (.ref 276)⟩, ⟨PyData.keyHash P ("Maker" : Str), (.str ("Maker" : Str) 584), (.ref 305)⟩, ⟨PyData.keyHash P ("MOST_GIVENS" : Str), (.str ("MOST_GIVENS" : Str) 588), (.int 3 587)⟩, ⟨PyData.keyHash P ("MOST_ROWS" : Str), (.str ("MOST_ROWS" : Str) 590), (.int 6 589)⟩, ⟨PyData.keyHash P ("is_row_name" : Str), (.str ("is_row_name" : Str) 597), (.ref 316)⟩, ⟨PyData.keyHash P ("is_unknown_name" : Str), (.str ("is_unknown_name" : Str) 604), (.ref 323)⟩, ⟨PyData.keyHash P ("is_row" : Str), (.str ("is_row" : Str) 610), (.ref 328)⟩, ⟨PyData.keyHash P ("check_givens" : Str), (.str ("check_givens" : Str) 619), (.ref 335)⟩, ⟨PyData.keyHash P ("check_rows" : Str), (.str ("check_rows" : Str) 630), (.ref 342)⟩, ⟨PyData.keyHash P ("check_names" : Str), (.str ("check_names" : Str) 636), (.ref 347)⟩, ⟨PyData.keyHash P ("Web" : Str), (.str ("Web" : Str) 721), (.ref 412)⟩, ⟨PyData.keyHash P ("MOST_LINES" : Str), (.str ("MOST_LINES" : Str) 725), (.int 9 724)⟩, ⟨PyData.keyHash P ("FIGURES" : Str), (.str ("FIGURES" : Str) 735), (.ref 417)⟩] 47), #[]⟩
def o2_417 (P : Params) : Obj := ⟨(.type "dict"), none, (.dict #[⟨PyData.keyHash P ("0" : Str), (.str ("0" : Str) 726), (.int 0 727)⟩, ⟨PyData.keyHash P ("1" : Str), (.str ("1" : Str) 728), (.int 1 729)⟩, ⟨PyData.keyHash P ("2" : Str), (.str ("2" : Str) 730), (.int 2 731)⟩] 3), #[]⟩
def t2 (P : Params) : BT := (.node (boot_o_0 P) (.node (boot_o_1 P) (.node (o2_3 P) (.node (boot_o_7 P) (.node (o0_15 P) (.node (o0_31 P) (.node (o0_63 P) (.node (o0_127 P) (.node (o1_255 P) .nil .nil) (.node (o1_383 P) .nil .nil)) (.node (o0_191 P) (.node (o1_319 P) .nil .nil) .nil)) (.node (o0_95 P) (.node (o0_159 P) (.node (o1_287 P) .nil .nil) (.node (o1_415 P) .nil .nil)) (.node (o1_223 P) (.node (o1_351 P) .nil .nil) .nil))) (.node (o0_47 P) (.node (o0_79 P) (.node (o0_143 P) (.node (o1_271 P) .nil .nil) (.node (o1_399 P) .nil .nil)) (.node (o1_207 P) (.node (o1_335 P) .nil .nil) .nil)) (.node (o0_111 P) (.node (o0_175 P) (.node (o1_303 P) .nil .nil) .nil) (.node (o1_239 P) (.node (o1_367 P) .nil .nil) .nil)))) (.node (o0_23 P) (.node (o0_39 P) (.node (o0_71 P) (.node (o0_135 P) (.node (o1_263 P) .nil .nil) (.node (o1_391 P) .nil .nil)) (.node (o1_199 P) (.node (o1_327 P) .nil .nil) .nil)) (.node (o0_103 P) (.node (o0_167 P) (.node (o1_295 P) .nil .nil) .nil) (.node (o1_231 P) (.node (o1_359 P) .nil .nil) .nil))) (.node (o0_55 P) (.node (o0_87 P) (.node (o0_151 P) (.node (o1_279 P) .nil .nil) (.node (o1_407 P) .nil .nil)) (.node (o1_215 P) (.node (o1_343 P) .nil .nil) .nil)) (.node (o0_119 P) (.node (o0_183 P) (.node (o1_311 P) .nil .nil) .nil) (.node (o1_247 P) (.node (o1_375 P) .nil .nil) .nil))))) (.node (oa_11 P) (.node (o0_19 P) (.node (o0_35 P) (.node (o0_67 P) (.node (o0_131 P) (.node (o1_259 P) .nil .nil) (.node (o1_387 P) .nil .nil)) (.node (o0_195 P) (.node (o1_323 P) .nil .nil) .nil)) (.node (o0_99 P) (.node (o0_163 P) (.node (o1_291 P) .nil .nil) .nil) (.node (o1_227 P) (.node (o1_355 P) .nil .nil) .nil))) (.node (o0_51 P) (.node (o0_83 P) (.node (o0_147 P) (.node (o1_275 P) .nil .nil) (.node (o1_403 P) .nil .nil)) (.node (o1_211 P) (.node (o1_339 P) .nil .nil) .nil)) (.node (o0_115 P) (.node (o0_179 P) (.node (o1_307 P) .nil .nil) .nil) (.node (o1_243 P) (.node (o1_371 P) .nil .nil) .nil)))) (.node (o0_27 P) (.node (o0_43 P) (.node (o0_75 P) (.node (o0_139 P) (.node (o1_267 P) .nil .nil) (.node (o1_395 P) .nil .nil)) (.node (o1_203 P) (.node (o1_331 P) .nil .nil) .nil)) (.node (o1_107 P) (.node (o0_171 P) (.node (o1_299 P) .nil .nil) .nil) (.node (o1_235 P) (.node (o1_363 P) .nil .nil) .nil))) (.node (o0_59 P) (.node (o0_91 P) (.node (o0_155 P) (.node (o1_283 P) .nil .nil) (.node (o1_411 P) .nil .nil)) (.node (o1_219 P) (.node (o1_347 P) .nil .nil) .nil)) (.node (o0_123 P) (.node (o0_187 P) (.node (o1_315 P) .nil .nil) .nil) (.node (o1_251 P) (.node (o1_379 P) .nil .nil) .nil)))))) (.node (boot_o_5 P) (.node (boot_o_9 P) (.node (o0_17 P) (.node (o0_33 P) (.node (o0_65 P) (.node (o0_129 P) (.node (o1_257 P) .nil .nil) (.node (o1_385 P) .nil .nil)) (.node (o0_193 P) (.node (o1_321 P) .nil .nil) .nil)) (.node (o0_97 P) (.node (o0_161 P) (.node (o1_289 P) .nil .nil) (.node (o2_417 P) .nil .nil)) (.node (o1_225 P) (.node (o1_353 P) .nil .nil) .nil))) (.node (o0_49 P) (.node (o0_81 P) (.node (o0_145 P) (.node (o1_273 P) .nil .nil) (.node (o1_401 P) .nil .nil)) (.node (o1_209 P) (.node (o1_337 P) .nil .nil) .nil)) (.node (o0_113 P) (.node (o0_177 P) (.node (o1_305 P) .nil .nil) .nil) (.node (o1_241 P) (.node (o1_369 P) .nil .nil) .nil)))) (.node (o0_25 P) (.node (o0_41 P) (.node (o0_73 P) (.node (o0_137 P) (.node (o1_265 P) .nil .nil) (.node (o1_393 P) .nil .nil)) (.node (o1_201 P) (.node (o1_329 P) .nil .nil) .nil)) (.node (o0_105 P) (.node (o0_169 P) (.node (o1_297 P) .nil .nil) .nil) (.node (o1_233 P) (.node (o1_361 P) .nil .nil) .nil))) (.node (o0_57 P) (.node (o0_89 P) (.node (o0_153 P) (.node (o1_281 P) .nil .nil) (.node (o1_409 P) .nil .nil)) (.node (o1_217 P) (.node (o1_345 P) .nil .nil) .nil)) (.node (o0_121 P) (.node (o0_185 P) (.node (o1_313 P) .nil .nil) .nil) (.node (o1_249 P) (.node (o1_377 P) .nil .nil) .nil))))) (.node (oa_13 P) (.node (o0_21 P) (.node (o0_37 P) (.node (o0_69 P) (.node (o0_133 P) (.node (o1_261 P) .nil .nil) (.node (o1_389 P) .nil .nil)) (.node (o1_197 P) (.node (o1_325 P) .nil .nil) .nil)) (.node (o0_101 P) (.node (o0_165 P) (.node (o1_293 P) .nil .nil) .nil) (.node (o1_229 P) (.node (o1_357 P) .nil .nil) .nil))) (.node (o0_53 P) (.node (o0_85 P) (.node (o0_149 P) (.node (o1_277 P) .nil .nil) (.node (o1_405 P) .nil .nil)) (.node (o1_213 P) (.node (o1_341 P) .nil .nil) .nil)) (.node (o0_117 P) (.node (o0_181 P) (.node (o1_309 P) .nil .nil) .nil) (.node (o1_245 P) (.node (o1_373 P) .nil .nil) .nil)))) (.node (o0_29 P) (.node (o0_45 P) (.node (o0_77 P) (.node (o0_141 P) (.node (o1_269 P) .nil .nil) (.node (o1_397 P) .nil .nil)) (.node (o1_205 P) (.node (o1_333 P) .nil .nil) .nil)) (.node (o0_109 P) (.node (o0_173 P) (.node (o1_301 P) .nil .nil) .nil) (.node (o1_237 P) (.node (o1_365 P) .nil .nil) .nil))) (.node (o0_61 P) (.node (o0_93 P) (.node (o0_157 P) (.node (o1_285 P) .nil .nil) (.node (o1_413 P) .nil .nil)) (.node (o1_221 P) (.node (o1_349 P) .nil .nil) .nil)) (.node (o0_125 P) (.node (o0_189 P) (.node (o1_317 P) .nil .nil) .nil) (.node (o1_253 P) (.node (o1_381 P) .nil .nil) .nil))))))) (.node (boot_o_2 P) (.node (boot_o_4 P) (.node (boot_o_8 P) (.node (o0_16 P) (.node (o0_32 P) (.node (o0_64 P) (.node (o1_128 P) (.node (o1_256 P) .nil .nil) (.node (o1_384 P) .nil .nil)) (.node (o0_192 P) (.node (o1_320 P) .nil .nil) .nil)) (.node (o0_96 P) (.node (o0_160 P) (.node (o1_288 P) .nil .nil) (.node (o1_416 P) .nil .nil)) (.node (o1_224 P) (.node (o1_352 P) .nil .nil) .nil))) (.node (o0_48 P) (.node (o0_80 P) (.node (o0_144 P) (.node (o1_272 P) .nil .nil) (.node (o1_400 P) .nil .nil)) (.node (o1_208 P) (.node (o1_336 P) .nil .nil) .nil)) (.node (o0_112 P) (.node (o0_176 P) (.node (o1_304 P) .nil .nil) .nil) (.node (o1_240 P) (.node (o1_368 P) .nil .nil) .nil)))) (.node (o0_24 P) (.node (o0_40 P) (.node (o0_72 P) (.node (o0_136 P) (.node (o1_264 P) .nil .nil) (.node (o1_392 P) .nil .nil)) (.node (o1_200 P) (.node (o1_328 P) .nil .nil) .nil)) (.node (o0_104 P) (.node (o0_168 P) (.node (o1_296 P) .nil .nil) .nil) (.node (o1_232 P) (.node (o1_360 P) .nil .nil) .nil))) (.node (o0_56 P) (.node (o0_88 P) (.node (o0_152 P) (.node (o1_280 P) .nil .nil) (.node (o1_408 P) .nil .nil)) (.node (o1_216 P) (.node (o1_344 P) .nil .nil) .nil)) (.node (o0_120 P) (.node (o0_184 P) (.node (o1_312 P) .nil .nil) .nil) (.node (o1_248 P) (.node (o1_376 P) .nil .nil) .nil))))) (.node (o1_12 P) (.node (o0_20 P) (.node (o0_36 P) (.node (o0_68 P) (.node (o0_132 P) (.node (o1_260 P) .nil .nil) (.node (o1_388 P) .nil .nil)) (.node (o0_196 P) (.node (o1_324 P) .nil .nil) .nil)) (.node (o0_100 P) (.node (o0_164 P) (.node (o1_292 P) .nil .nil) .nil) (.node (o1_228 P) (.node (o1_356 P) .nil .nil) .nil))) (.node (o0_52 P) (.node (o0_84 P) (.node (o0_148 P) (.node (o1_276 P) .nil .nil) (.node (o1_404 P) .nil .nil)) (.node (o1_212 P) (.node (o1_340 P) .nil .nil) .nil)) (.node (o0_116 P) (.node (o0_180 P) (.node (o1_308 P) .nil .nil) .nil) (.node (o1_244 P) (.node (o1_372 P) .nil .nil) .nil)))) (.node (o0_28 P) (.node (o0_44 P) (.node (o0_76 P) (.node (o0_140 P) (.node (o1_268 P) .nil .nil) (.node (o1_396 P) .nil .nil)) (.node (o1_204 P) (.node (o1_332 P) .nil .nil) .nil)) (.node (o0_108 P) (.node (o0_172 P) (.node (o1_300 P) .nil .nil) .nil) (.node (o1_236 P) (.node (o1_364 P) .nil .nil) .nil))) (.node (o0_60 P) (.node (o0_92 P) (.node (o0_156 P) (.node (o1_284 P) .nil .nil) (.node (o1_412 P) .nil .nil)) (.node (o1_220 P) (.node (o1_348 P) .nil .nil) .nil)) (.node (o0_124 P) (.node (o0_188 P) (.node (o1_316 P) .nil .nil) .nil) (.node (o1_252 P) (.node (o1_380 P) .nil .nil) .nil)))))) (.node (boot_o_6 P) (.node (boot_o_10 P) (.node (o0_18 P) (.node (o0_34 P) (.node (o0_66 P) (.node (o0_130 P) (.node (o1_258 P) .nil .nil) (.node (o1_386 P) .nil .nil)) (.node (o0_194 P) (.node (o1_322 P) .nil .nil) .nil)) (.node (o0_98 P) (.node (o0_162 P) (.node (o1_290 P) .nil .nil) .nil) (.node (o1_226 P) (.node (o1_354 P) .nil .nil) .nil))) (.node (o0_50 P) (.node (o0_82 P) (.node (o0_146 P) (.node (o1_274 P) .nil .nil) (.node (o1_402 P) .nil .nil)) (.node (o1_210 P) (.node (o1_338 P) .nil .nil) .nil)) (.node (o0_114 P) (.node (o0_178 P) (.node (o1_306 P) .nil .nil) .nil) (.node (o1_242 P) (.node (o1_370 P) .nil .nil) .nil)))) (.node (o0_26 P) (.node (o0_42 P) (.node (o0_74 P) (.node (o0_138 P) (.node (o1_266 P) .nil .nil) (.node (o1_394 P) .nil .nil)) (.node (o1_202 P) (.node (o1_330 P) .nil .nil) .nil)) (.node (o0_106 P) (.node (o0_170 P) (.node (o1_298 P) .nil .nil) .nil) (.node (o1_234 P) (.node (o1_362 P) .nil .nil) .nil))) (.node (o0_58 P) (.node (o0_90 P) (.node (o0_154 P) (.node (o1_282 P) .nil .nil) (.node (o1_410 P) .nil .nil)) (.node (o1_218 P) (.node (o1_346 P) .nil .nil) .nil)) (.node (o0_122 P) (.node (o0_186 P) (.node (o1_314 P) .nil .nil) .nil) (.node (o1_250 P) (.node (o1_378 P) .nil .nil) .nil))))) (.node (oa_14 P) (.node (o0_22 P) (.node (o0_38 P) (.node (o0_70 P) (.node (o0_134 P) (.node (o1_262 P) .nil .nil) (.node (o1_390 P) .nil .nil)) (.node (o1_198 P) (.node (o1_326 P) .nil .nil) .nil)) (.node (o0_102 P) (.node (o0_166 P) (.node (o1_294 P) .nil .nil) .nil) (.node (o1_230 P) (.node (o1_358 P) .nil .nil) .nil))) (.node (o0_54 P) (.node (o0_86 P) (.node (o0_150 P) (.node (o1_278 P) .nil .nil) (.node (o1_406 P) .nil .nil)) (.node (o1_214 P) (.node (o1_342 P) .nil .nil) .nil)) (.node (o0_118 P) (.node (o0_182 P) (.node (o1_310 P) .nil .nil) .nil) (.node (o1_246 P) (.node (o1_374 P) .nil .nil) .nil)))) (.node (o0_30 P) (.node (o0_46 P) (.node (o0_78 P) (.node (o0_142 P) (.node (o1_270 P) .nil .nil) (.node (o1_398 P) .nil .nil)) (.node (o1_206 P) (.node (o1_334 P) .nil .nil) .nil)) (.node (o0_110 P) (.node (o0_174 P) (.node (o1_302 P) .nil .nil) .nil) (.node (o1_238 P) (.node (o1_366 P) .nil .nil) .nil))) (.node (o0_62 P) (.node (o0_94 P) (.node (o0_158 P) (.node (o1_286 P) .nil .nil) (.node (o1_414 P) .nil .nil)) (.node (o1_222 P) (.node (o1_350 P) .nil .nil) .nil)) (.node (o0_126 P) (.node (o0_190 P) (.node (o1_318 P) .nil .nil) .nil) (.node (o1_254 P) (.node (o1_382 P) .nil .nil) .nil))))))))
def S2 (w : World) (os : OsState) : SharedT := ⟨t2 w.params, 418, {}, #[], {}, 736, os⟩
def p2 : Pos := ⟨186, 0, 186, 7⟩
def o3_3 (P : Params) : Obj := ⟨(.type "dict"), none, (.dict #[⟨PyData.keyHash P ("__name__" : Str), (.str ("__name__" : Str) 165), (.str ("law_rosterneed_k29_whole_webs_read" : Str) 790)⟩, ⟨PyData.keyHash P ("__doc__" : Str), (.str ("__doc__" : Str) 166), .none⟩, ⟨PyData.keyHash P ("__package__" : Str), (.str ("__package__" : Str) 167), .none⟩, ⟨PyData.keyHash P ("__loader__" : Str), (.str ("__loader__" : Str) 168), (.builtin "__main__.__loader__#opaque")⟩, ⟨PyData.keyHash P ("__spec__" : Str), (.str ("__spec__" : Str) 169), .none⟩, ⟨PyData.keyHash P ("__annotations__" : Str), (.str ("__annotations__" : Str) 170), (.ref 6)⟩, ⟨PyData.keyHash P ("__builtins__" : Str), (.str ("__builtins__" : Str) 171), (.ref 4)⟩, ⟨PyData.keyHash P ("__file__" : Str), (.str ("__file__" : Str) 173), (.str ("/claim/cut.py" : Str) 172)⟩, ⟨PyData.keyHash P ("__cached__" : Str), (.str ("__cached__" : Str) 174), .none⟩, ⟨PyData.keyHash P ("_wall" : Str), (.str ("_wall" : Str) 193), (.ref 21)⟩, ⟨PyData.keyHash P ("RosterneedError" : Str), (.str ("RosterneedError" : Str) 213), (.ref 31)⟩, ⟨PyData.keyHash P ("Unreadable" : Str), (.str ("Unreadable" : Str) 229), (.ref 44)⟩, ⟨PyData.keyHash P ("WrongThing" : Str), (.str ("WrongThing" : Str) 256), (.ref 65)⟩, ⟨PyData.keyHash P ("WrongWord" : Str), (.str ("WrongWord" : Str) 283), (.ref 86)⟩, ⟨PyData.keyHash P ("WrongNumber" : Str), (.str ("WrongNumber" : Str) 310), (.ref 107)⟩, ⟨PyData.keyHash P ("WrongName" : Str), (.str ("WrongName" : Str) 337), (.ref 128)⟩, ⟨PyData.keyHash P ("BadLine" : Str), (.str ("BadLine" : Str) 364), (.ref 149)⟩, ⟨PyData.keyHash P ("TooMany" : Str), (.str ("TooMany" : Str) 391), (.ref 170)⟩, ⟨PyData.keyHash P ("Lacking" : Str), (.str ("Lacking" : Str) 407), (.ref 182)⟩, ⟨PyData.keyHash P ("BadMaker" : Str), (.str ("BadMaker" : Str) 423), (.ref 194)⟩, ⟨PyData.keyHash P ("BadName" : Str), (.str ("BadName" : Str) 439), (.ref 206)⟩, ⟨PyData.keyHash P ("BadRow" : Str), (.str ("BadRow" : Str) 455), (.ref 218)⟩, ⟨PyData.keyHash P ("Twice" : Str), (.str ("Twice" : Str) 471), (.ref 230)⟩, ⟨PyData.keyHash P ("is_integer" : Str), (.str ("is_integer" : Str) 480), (.ref 239)⟩, ⟨PyData.keyHash P ("is_listed" : Str), (.str ("is_listed" : Str) 487), (.ref 246)⟩, ⟨PyData.keyHash P ("deep" : Str), (.str ("deep" : Str) 493), (.ref 251)⟩, ⟨PyData.keyHash P ("is_word" : Str), (.str ("is_word" : Str) 505), (.ref 259)⟩, ⟨PyData.keyHash P ("GIVE" : Str), (.str ("GIVE" : Str) 509), (.str ("give" : Str) 508)⟩, ⟨PyData.keyHash P ("MOST_INLETS" : Str), (.str ("MOST_INLETS" : Str) 511), (.int 3 510)⟩, ⟨PyData.keyHash P ("MOST_WAYS" : Str), (.str ("MOST_WAYS" : Str) 513), (.int 4 512)⟩, ⟨PyData.keyHash P ("MOST_DEEDS" : Str), (.str ("MOST_DEEDS" : Str) 515), (.int 600 514)⟩, ⟨PyData.keyHash P ("MOST_DEEDS_EACH" : Str), (.str ("MOST_DEEDS_EACH" : Str) 517), (.int 24 516)⟩, ⟨PyData.keyHash P ("is_deed" : Str), (.str ("is_deed" : Str) 525), (.ref 266)⟩, ⟨PyData.keyHash P ("is_deeds" : Str), (.str ("is_deeds" : Str) 531), (.ref 271)⟩, ⟨PyData.keyHash P ("is_ways" : Str), (.str ("is_ways" : Str) 537), (.ref 276)⟩, ⟨PyData.keyHash P ("Maker" : Str), (.str ("Maker" : Str) 584), (.ref 305)⟩, ⟨PyData.keyHash P ("MOST_GIVENS" : Str), (.str ("MOST_GIVENS" : Str) 588), (.int 3 587)⟩, ⟨PyData.keyHash P ("MOST_ROWS" : Str), (.str ("MOST_ROWS" : Str) 590), (.int 6 589)⟩, ⟨PyData.keyHash P ("is_row_name" : Str), (.str ("is_row_name" : Str) 597), (.ref 316)⟩, ⟨PyData.keyHash P ("is_unknown_name" : Str), (.str ("is_unknown_name" : Str) 604), (.ref 323)⟩, ⟨PyData.keyHash P ("is_row" : Str), (.str ("is_row" : Str) 610), (.ref 328)⟩, ⟨PyData.keyHash P ("check_givens" : Str), (.str ("check_givens" : Str) 619), (.ref 335)⟩, ⟨PyData.keyHash P ("check_rows" : Str), (.str ("check_rows" : Str) 630), (.ref 342)⟩, ⟨PyData.keyHash P ("check_names" : Str), (.str ("check_names" : Str) 636), (.ref 347)⟩, ⟨PyData.keyHash P ("Web" : Str), (.str ("Web" : Str) 721), (.ref 412)⟩, ⟨PyData.keyHash P ("MOST_LINES" : Str), (.str ("MOST_LINES" : Str) 725), (.int 9 724)⟩, ⟨PyData.keyHash P ("FIGURES" : Str), (.str ("FIGURES" : Str) 735), (.ref 417)⟩, ⟨PyData.keyHash P ("deeds_text" : Str), (.str ("deeds_text" : Str) 741), (.ref 422)⟩, ⟨PyData.keyHash P ("row_line" : Str), (.str ("row_line" : Str) 747), (.ref 427)⟩, ⟨PyData.keyHash P ("write_web" : Str), (.str ("write_web" : Str) 753), (.ref 432)⟩, ⟨PyData.keyHash P ("read_deeds" : Str), (.str ("read_deeds" : Str) 764), (.ref 439)⟩, ⟨PyData.keyHash P ("read_maker" : Str), (.str ("read_maker" : Str) 770), (.ref 444)⟩, ⟨PyData.keyHash P ("read_row" : Str), (.str ("read_row" : Str) 776), (.ref 449)⟩, ⟨PyData.keyHash P ("read_given" : Str), (.str ("read_given" : Str) 783), (.ref 456)⟩, ⟨PyData.keyHash P ("read_web" : Str), (.str ("read_web" : Str) 789), (.ref 461)⟩, ⟨PyData.keyHash P ("_law_source" : Str), (.str ("_law_source" : Str) 803), (.ref 468)⟩, ⟨PyData.keyHash P ("_law_pick" : Str), (.str ("_law_pick" : Str) 813), (.ref 475)⟩, ⟨PyData.keyHash P ("_law_truth" : Str), (.str ("_law_truth" : Str) 821), (.ref 482)⟩, ⟨PyData.keyHash P ("_law_deeds" : Str), (.str ("_law_deeds" : Str) 833), (.ref 489)⟩, ⟨PyData.keyHash P ("_law_maker" : Str), (.str ("_law_maker" : Str) 847), (.ref 496)⟩, ⟨PyData.keyHash P ("_law_made" : Str), (.str ("_law_made" : Str) 854), (.ref 503)⟩, ⟨PyData.keyHash P ("_law_web" : Str), (.str ("_law_web" : Str) 860), (.ref 508)⟩, ⟨PyData.keyHash P ("_law_built" : Str), (.str ("_law_built" : Str) 871), (.ref 515)⟩, ⟨PyData.keyHash P ("_law_opened" : Str), (.str ("_law_opened" : Str) 887), (.ref 522)⟩, ⟨PyData.keyHash P ("_law_line" : Str), (.str ("_law_line" : Str) 893), (.ref 527)⟩, ⟨PyData.keyHash P ("_law_web_lines" : Str), (.str ("_law_web_lines" : Str) 899), (.ref 532)⟩, ⟨PyData.keyHash P ("_law_same_web" : Str), (.str ("_law_same_web" : Str) 910), (.ref 539)⟩, ⟨PyData.keyHash P ("_law_other" : Str), (.str ("_law_other" : Str) 920), (.ref 546)⟩, ⟨PyData.keyHash P ("law" : Str), (.str ("law" : Str) 937), (.ref 553)⟩] 69), #[]⟩
def o3_12 (P : Params) : Obj := ⟨.none, none, (.fields #[(.int 1 0), (.int 0 0), (.ref 20), (.int 5 0), (.int 0 0), (.ref 27), (.int 7 0), (.int 0 0), (.ref 40), (.int 9 0), (.int 0 0), (.ref 53), (.int 14 0), (.int 0 0), (.ref 74), (.int 19 0), (.int 0 0), (.ref 95), (.int 24 0), (.int 0 0), (.ref 116), (.int 29 0), (.int 0 0), (.ref 137), (.int 34 0), (.int 0 0), (.ref 158), (.int 39 0), (.int 0 0), (.ref 178), (.int 41 0), (.int 0 0), (.ref 190), (.int 43 0), (.int 0 0), (.ref 202), (.int 45 0), (.int 0 0), (.ref 214), (.int 47 0), (.int 0 0), (.ref 226), (.int 50 0), (.int 0 0), (.ref 238), (.int 52 0), (.int 0 0), (.ref 245), (.int 54 0), (.int 0 0), (.ref 250), (.int 58 0), (.int 0 0), (.ref 258), (.int 73 0), (.int 0 0), (.ref 265), (.int 77 0), (.int 0 0), (.ref 270), (.int 79 0), (.int 0 0), (.ref 275), (.int 83 0), (.int 0 0), (.ref 282), (.int 107 0), (.int 0 0), (.ref 315), (.int 109 0), (.int 0 0), (.ref 322), (.int 111 0), (.int 0 0), (.ref 327), (.int 121 0), (.int 0 0), (.ref 334), (.int 128 0), (.int 0 0), (.ref 341), (.int 140 0), (.int 0 0), (.ref 346), (.int 150 0), (.int 0 0), (.ref 353), (.int 187 0), (.int 0 0), (.ref 421), (.int 189 0), (.int 0 0), (.ref 426), (.int 196 0), (.int 0 0), (.ref 431), (.int 198 0), (.int 0 0), (.ref 438), (.int 211 0), (.int 0 0), (.ref 443), (.int 223 0), (.int 0 0), (.ref 448), (.int 243 0), (.int 0 0), (.ref 455), (.int 247 0), (.int 0 0), (.ref 460), (.int 265 0), (.int 0 0), (.ref 467), (.int 276 0), (.int 0 0), (.ref 474), (.int 287 0), (.int 0 0), (.ref 481), (.int 289 0), (.int 0 0), (.ref 488), (.int 297 0), (.int 0 0), (.ref 495), (.int 306 0), (.int 0 0), (.ref 502), (.int 308 0), (.int 0 0), (.ref 507), (.int 321 0), (.int 0 0), (.ref 514), (.int 326 0), (.int 0 0), (.ref 521), (.int 334 0), (.int 0 0), (.ref 526), (.int 342 0), (.int 0 0), (.ref 531), (.int 344 0), (.int 0 0), (.ref 538), (.int 359 0), (.int 0 0), (.ref 545), (.int 367 0), (.int 0 0), (.ref 552)]), #[]⟩
def o3_418 (P : Params) : Obj := ⟨(.type "tuple"), none, (.seq #[] 0), #[]⟩
def o3_419 (P : Params) : Obj := ⟨.none, none, (.fields #[]), #[]⟩
def o3_420 (P : Params) : Obj := ⟨.none, none, (.func { name := ("deeds_text" : Str), qualname := ("deeds_text" : Str), params := defArgs tp43, body := .stmts (defBody tp43), scope := defScope tp43, globals := 0, closure := [], defaults := .none, kwdefaults := .none, doc := .none, pyModule := .none, annotations := none, code := .none, closureTuple := .none, builtins := 0 }), #[]⟩
def o3_421 (P : Params) : Obj := ⟨(.type "code"), none, (.fields #[(.str ("deeds_text" : Str) 736), (.str ("deeds_text" : Str) 737), (.str ("/claim/cut.py" : Str) 738), (.int 187 0), (.int 2 0), (.int 0 0), (.int 0 0), (.int 3 0), (.ref 418), (.bool true), (.int 181 0), (.ref 419), .none, .none, .none, (.ref 420), (.int 739 0), (.int 187 0), (.str ("/claim/cut.py" : Str) 740)]), #[]⟩
def o3_422 (P : Params) : Obj := ⟨(.type "function"), none, (.func { name := ("deeds_text" : Str), qualname := ("deeds_text" : Str), params := defArgs tp43, body := .stmts (defBody tp43), scope := defScope tp43, globals := 3, closure := [], defaults := .none, kwdefaults := .none, doc := .none, pyModule := (.str ("rosterneed.webtext" : Str) 722), annotations := none, code := (.ref 421), closureTuple := .none, builtins := 0 }), #[]⟩
def o3_423 (P : Params) : Obj := ⟨(.type "tuple"), none, (.seq #[] 0), #[]⟩
def o3_424 (P : Params) : Obj := ⟨.none, none, (.fields #[]), #[]⟩
def o3_425 (P : Params) : Obj := ⟨.none, none, (.func { name := ("row_line" : Str), qualname := ("row_line" : Str), params := defArgs tp44, body := .stmts (defBody tp44), scope := defScope tp44, globals := 0, closure := [], defaults := .none, kwdefaults := .none, doc := .none, pyModule := .none, annotations := none, code := .none, closureTuple := .none, builtins := 0 }), #[]⟩
def o3_426 (P : Params) : Obj := ⟨(.type "code"), none, (.fields #[(.str ("row_line" : Str) 742), (.str ("row_line" : Str) 743), (.str ("/claim/cut.py" : Str) 744), (.int 189 0), (.int 1 0), (.int 0 0), (.int 0 0), (.int 3 0), (.ref 423), (.bool true), (.int 181 0), (.ref 424), .none, .none, .none, (.ref 425), (.int 745 0), (.int 189 0), (.str ("/claim/cut.py" : Str) 746)]), #[]⟩
def o3_427 (P : Params) : Obj := ⟨(.type "function"), none, (.func { name := ("row_line" : Str), qualname := ("row_line" : Str), params := defArgs tp44, body := .stmts (defBody tp44), scope := defScope tp44, globals := 3, closure := [], defaults := .none, kwdefaults := .none, doc := .none, pyModule := (.str ("rosterneed.webtext" : Str) 722), annotations := none, code := (.ref 426), closureTuple := .none, builtins := 0 }), #[]⟩
def o3_428 (P : Params) : Obj := ⟨(.type "tuple"), none, (.seq #[] 0), #[]⟩
def o3_429 (P : Params) : Obj := ⟨.none, none, (.fields #[]), #[]⟩
def o3_430 (P : Params) : Obj := ⟨.none, none, (.func { name := ("write_web" : Str), qualname := ("write_web" : Str), params := defArgs tp45, body := .stmts (defBody tp45), scope := defScope tp45, globals := 0, closure := [], defaults := .none, kwdefaults := .none, doc := .none, pyModule := .none, annotations := none, code := .none, closureTuple := .none, builtins := 0 }), #[]⟩
def o3_431 (P : Params) : Obj := ⟨(.type "code"), none, (.fields #[(.str ("write_web" : Str) 748), (.str ("write_web" : Str) 749), (.str ("/claim/cut.py" : Str) 750), (.int 196 0), (.int 1 0), (.int 0 0), (.int 0 0), (.int 3 0), (.ref 428), (.bool true), (.int 181 0), (.ref 429), .none, .none, .none, (.ref 430), (.int 751 0), (.int 196 0), (.str ("/claim/cut.py" : Str) 752)]), #[]⟩
def o3_432 (P : Params) : Obj := ⟨(.type "function"), none, (.func { name := ("write_web" : Str), qualname := ("write_web" : Str), params := defArgs tp45, body := .stmts (defBody tp45), scope := defScope tp45, globals := 3, closure := [], defaults := .none, kwdefaults := .none, doc := .none, pyModule := (.str ("rosterneed.webtext" : Str) 722), annotations := none, code := (.ref 431), closureTuple := .none, builtins := 0 }), #[]⟩
def o3_433 (P : Params) : Obj := ⟨(.type "tuple"), none, (.seq #[] 0), #[]⟩
def o3_434 (P : Params) : Obj := ⟨.none, none, (.fields #[]), #[]⟩
def o3_435 (P : Params) : Obj := ⟨(.type "tuple"), none, (.seq #[(.str ("text" : Str) 757), (.str ("word" : Str) 758), (.str ("words" : Str) 759), (.str ("told" : Str) 760), (.str ("one" : Str) 761)] 0), #[]⟩
def o3_436 (P : Params) : Obj := ⟨(.type "tuple"), none, (.seq #[] 0), #[]⟩
def o3_437 (P : Params) : Obj := ⟨.none, none, (.func { name := ("read_deeds" : Str), qualname := ("read_deeds" : Str), params := defArgs tp46, body := .stmts (defBody tp46), scope := defScope tp46, globals := 0, closure := [], defaults := .none, kwdefaults := .none, doc := .none, pyModule := .none, annotations := none, code := .none, closureTuple := .none, builtins := 0 }), #[]⟩
def o3_438 (P : Params) : Obj := ⟨(.type "code"), none, (.fields #[(.str ("read_deeds" : Str) 754), (.str ("read_deeds" : Str) 755), (.str ("/claim/cut.py" : Str) 756), (.int 198 0), (.int 2 0), (.int 0 0), (.int 0 0), (.int 3 0), (.ref 433), (.bool true), (.int 181 0), (.ref 434), .none, (.ref 435), (.ref 436), (.ref 437), (.int 762 0), (.int 198 0), (.str ("/claim/cut.py" : Str) 763)]), #[]⟩
def o3_439 (P : Params) : Obj := ⟨(.type "function"), none, (.func { name := ("read_deeds" : Str), qualname := ("read_deeds" : Str), params := defArgs tp46, body := .stmts (defBody tp46), scope := defScope tp46, globals := 3, closure := [], defaults := .none, kwdefaults := .none, doc := .none, pyModule := (.str ("rosterneed.webtext" : Str) 722), annotations := none, code := (.ref 438), closureTuple := .none, builtins := 0 }), #[]⟩
def o3_440 (P : Params) : Obj := ⟨(.type "tuple"), none, (.seq #[] 0), #[]⟩
def o3_441 (P : Params) : Obj := ⟨.none, none, (.fields #[]), #[]⟩
def o3_442 (P : Params) : Obj := ⟨.none, none, (.func { name := ("read_maker" : Str), qualname := ("read_maker" : Str), params := defArgs tp47, body := .stmts (defBody tp47), scope := defScope tp47, globals := 0, closure := [], defaults := .none, kwdefaults := .none, doc := .none, pyModule := .none, annotations := none, code := .none, closureTuple := .none, builtins := 0 }), #[]⟩
def o3_443 (P : Params) : Obj := ⟨(.type "code"), none, (.fields #[(.str ("read_maker" : Str) 765), (.str ("read_maker" : Str) 766), (.str ("/claim/cut.py" : Str) 767), (.int 211 0), (.int 2 0), (.int 0 0), (.int 0 0), (.int 3 0), (.ref 440), (.bool true), (.int 181 0), (.ref 441), .none, .none, .none, (.ref 442), (.int 768 0), (.int 211 0), (.str ("/claim/cut.py" : Str) 769)]), #[]⟩
def o3_444 (P : Params) : Obj := ⟨(.type "function"), none, (.func { name := ("read_maker" : Str), qualname := ("read_maker" : Str), params := defArgs tp47, body := .stmts (defBody tp47), scope := defScope tp47, globals := 3, closure := [], defaults := .none, kwdefaults := .none, doc := .none, pyModule := (.str ("rosterneed.webtext" : Str) 722), annotations := none, code := (.ref 443), closureTuple := .none, builtins := 0 }), #[]⟩
def o3_445 (P : Params) : Obj := ⟨(.type "tuple"), none, (.seq #[] 0), #[]⟩
def o3_446 (P : Params) : Obj := ⟨.none, none, (.fields #[]), #[]⟩
def o3_447 (P : Params) : Obj := ⟨.none, none, (.func { name := ("read_row" : Str), qualname := ("read_row" : Str), params := defArgs tp48, body := .stmts (defBody tp48), scope := defScope tp48, globals := 0, closure := [], defaults := .none, kwdefaults := .none, doc := .none, pyModule := .none, annotations := none, code := .none, closureTuple := .none, builtins := 0 }), #[]⟩
def o3_448 (P : Params) : Obj := ⟨(.type "code"), none, (.fields #[(.str ("read_row" : Str) 771), (.str ("read_row" : Str) 772), (.str ("/claim/cut.py" : Str) 773), (.int 223 0), (.int 1 0), (.int 0 0), (.int 0 0), (.int 3 0), (.ref 445), (.bool true), (.int 181 0), (.ref 446), .none, .none, .none, (.ref 447), (.int 774 0), (.int 223 0), (.str ("/claim/cut.py" : Str) 775)]), #[]⟩
def o3_449 (P : Params) : Obj := ⟨(.type "function"), none, (.func { name := ("read_row" : Str), qualname := ("read_row" : Str), params := defArgs tp48, body := .stmts (defBody tp48), scope := defScope tp48, globals := 3, closure := [], defaults := .none, kwdefaults := .none, doc := .none, pyModule := (.str ("rosterneed.webtext" : Str) 722), annotations := none, code := (.ref 448), closureTuple := .none, builtins := 0 }), #[]⟩
def o3_450 (P : Params) : Obj := ⟨(.type "tuple"), none, (.seq #[] 0), #[]⟩
def o3_451 (P : Params) : Obj := ⟨.none, none, (.fields #[]), #[]⟩
def o3_452 (P : Params) : Obj := ⟨(.type "tuple"), none, (.seq #[(.str ("line" : Str) 780)] 0), #[]⟩
def o3_453 (P : Params) : Obj := ⟨(.type "tuple"), none, (.seq #[] 0), #[]⟩
def o3_454 (P : Params) : Obj := ⟨.none, none, (.func { name := ("read_given" : Str), qualname := ("read_given" : Str), params := defArgs tp49, body := .stmts (defBody tp49), scope := defScope tp49, globals := 0, closure := [], defaults := .none, kwdefaults := .none, doc := .none, pyModule := .none, annotations := none, code := .none, closureTuple := .none, builtins := 0 }), #[]⟩
def o3_455 (P : Params) : Obj := ⟨(.type "code"), none, (.fields #[(.str ("read_given" : Str) 777), (.str ("read_given" : Str) 778), (.str ("/claim/cut.py" : Str) 779), (.int 243 0), (.int 1 0), (.int 0 0), (.int 0 0), (.int 3 0), (.ref 450), (.bool true), (.int 181 0), (.ref 451), .none, (.ref 452), (.ref 453), (.ref 454), (.int 781 0), (.int 243 0), (.str ("/claim/cut.py" : Str) 782)]), #[]⟩
def o3_456 (P : Params) : Obj := ⟨(.type "function"), none, (.func { name := ("read_given" : Str), qualname := ("read_given" : Str), params := defArgs tp49, body := .stmts (defBody tp49), scope := defScope tp49, globals := 3, closure := [], defaults := .none, kwdefaults := .none, doc := .none, pyModule := (.str ("rosterneed.webtext" : Str) 722), annotations := none, code := (.ref 455), closureTuple := .none, builtins := 0 }), #[]⟩
def o3_457 (P : Params) : Obj := ⟨(.type "tuple"), none, (.seq #[] 0), #[]⟩
def o3_458 (P : Params) : Obj := ⟨.none, none, (.fields #[]), #[]⟩
def o3_459 (P : Params) : Obj := ⟨.none, none, (.func { name := ("read_web" : Str), qualname := ("read_web" : Str), params := defArgs tp50, body := .stmts (defBody tp50), scope := defScope tp50, globals := 0, closure := [], defaults := .none, kwdefaults := .none, doc := .none, pyModule := .none, annotations := none, code := .none, closureTuple := .none, builtins := 0 }), #[]⟩
def o3_460 (P : Params) : Obj := ⟨(.type "code"), none, (.fields #[(.str ("read_web" : Str) 784), (.str ("read_web" : Str) 785), (.str ("/claim/cut.py" : Str) 786), (.int 247 0), (.int 1 0), (.int 0 0), (.int 0 0), (.int 3 0), (.ref 457), (.bool true), (.int 181 0), (.ref 458), .none, .none, .none, (.ref 459), (.int 787 0), (.int 247 0), (.str ("/claim/cut.py" : Str) 788)]), #[]⟩
def o3_461 (P : Params) : Obj := ⟨(.type "function"), none, (.func { name := ("read_web" : Str), qualname := ("read_web" : Str), params := defArgs tp50, body := .stmts (defBody tp50), scope := defScope tp50, globals := 3, closure := [], defaults := .none, kwdefaults := .none, doc := .none, pyModule := (.str ("rosterneed.webtext" : Str) 722), annotations := none, code := (.ref 460), closureTuple := .none, builtins := 0 }), #[]⟩
def o3_462 (P : Params) : Obj := ⟨(.type "tuple"), none, (.seq #[] 0), #[]⟩
def o3_463 (P : Params) : Obj := ⟨.none, none, (.fields #[]), #[]⟩
def o3_464 (P : Params) : Obj := ⟨(.type "tuple"), none, (.seq #[(.str ("script" : Str) 795), (.str ("place" : Str) 796), (.str ("cell" : Str) 797), (.str ("seed" : Str) 798), (.str ("one" : Str) 799), (.str ("number" : Str) 800)] 0), #[]⟩
def o3_465 (P : Params) : Obj := ⟨(.type "tuple"), none, (.seq #[] 0), #[]⟩
def o3_466 (P : Params) : Obj := ⟨.none, none, (.func { name := ("_law_source" : Str), qualname := ("_law_source" : Str), params := defArgs tp52, body := .stmts (defBody tp52), scope := defScope tp52, globals := 0, closure := [], defaults := .none, kwdefaults := .none, doc := .none, pyModule := .none, annotations := none, code := .none, closureTuple := .none, builtins := 0 }), #[]⟩
def o3_467 (P : Params) : Obj := ⟨(.type "code"), none, (.fields #[(.str ("_law_source" : Str) 792), (.str ("_law_source" : Str) 793), (.str ("/claim/cut.py" : Str) 794), (.int 265 0), (.int 2 0), (.int 0 0), (.int 0 0), (.int 3 0), (.ref 462), (.bool true), (.int 181 0), (.ref 463), .none, (.ref 464), (.ref 465), (.ref 466), (.int 801 0), (.int 265 0), (.str ("/claim/cut.py" : Str) 802)]), #[]⟩
def o3_468 (P : Params) : Obj := ⟨(.type "function"), none, (.func { name := ("_law_source" : Str), qualname := ("_law_source" : Str), params := defArgs tp52, body := .stmts (defBody tp52), scope := defScope tp52, globals := 3, closure := [], defaults := .none, kwdefaults := .none, doc := .none, pyModule := (.str ("law_rosterneed_k29_whole_webs_read" : Str) 790), annotations := none, code := (.ref 467), closureTuple := .none, builtins := 0 }), #[]⟩
def o3_469 (P : Params) : Obj := ⟨(.type "tuple"), none, (.seq #[] 0), #[]⟩
def o3_470 (P : Params) : Obj := ⟨.none, none, (.fields #[]), #[]⟩
def o3_471 (P : Params) : Obj := ⟨(.type "tuple"), none, (.seq #[(.str ("source" : Str) 807), (.str ("many" : Str) 808), (.str ("digit" : Str) 809), (.str ("value" : Str) 810)] 0), #[]⟩
def o3_472 (P : Params) : Obj := ⟨(.type "tuple"), none, (.seq #[] 0), #[]⟩
def o3_473 (P : Params) : Obj := ⟨.none, none, (.func { name := ("_law_pick" : Str), qualname := ("_law_pick" : Str), params := defArgs tp53, body := .stmts (defBody tp53), scope := defScope tp53, globals := 0, closure := [], defaults := .none, kwdefaults := .none, doc := .none, pyModule := .none, annotations := none, code := .none, closureTuple := .none, builtins := 0 }), #[]⟩
def o3_474 (P : Params) : Obj := ⟨(.type "code"), none, (.fields #[(.str ("_law_pick" : Str) 804), (.str ("_law_pick" : Str) 805), (.str ("/claim/cut.py" : Str) 806), (.int 276 0), (.int 2 0), (.int 0 0), (.int 0 0), (.int 3 0), (.ref 469), (.bool true), (.int 181 0), (.ref 470), .none, (.ref 471), (.ref 472), (.ref 473), (.int 811 0), (.int 276 0), (.str ("/claim/cut.py" : Str) 812)]), #[]⟩
def o3_475 (P : Params) : Obj := ⟨(.type "function"), none, (.func { name := ("_law_pick" : Str), qualname := ("_law_pick" : Str), params := defArgs tp53, body := .stmts (defBody tp53), scope := defScope tp53, globals := 3, closure := [], defaults := .none, kwdefaults := .none, doc := .none, pyModule := (.str ("law_rosterneed_k29_whole_webs_read" : Str) 790), annotations := none, code := (.ref 474), closureTuple := .none, builtins := 0 }), #[]⟩
def o3_476 (P : Params) : Obj := ⟨(.type "tuple"), none, (.seq #[] 0), #[]⟩
def o3_477 (P : Params) : Obj := ⟨.none, none, (.fields #[]), #[]⟩
def o3_478 (P : Params) : Obj := ⟨(.type "tuple"), none, (.seq #[(.str ("told" : Str) 817), (.str ("due" : Str) 818)] 0), #[]⟩
def o3_479 (P : Params) : Obj := ⟨(.type "tuple"), none, (.seq #[] 0), #[]⟩
def o3_480 (P : Params) : Obj := ⟨.none, none, (.func { name := ("_law_truth" : Str), qualname := ("_law_truth" : Str), params := defArgs tp54, body := .stmts (defBody tp54), scope := defScope tp54, globals := 0, closure := [], defaults := .none, kwdefaults := .none, doc := .none, pyModule := .none, annotations := none, code := .none, closureTuple := .none, builtins := 0 }), #[]⟩
def o3_481 (P : Params) : Obj := ⟨(.type "code"), none, (.fields #[(.str ("_law_truth" : Str) 814), (.str ("_law_truth" : Str) 815), (.str ("/claim/cut.py" : Str) 816), (.int 287 0), (.int 2 0), (.int 0 0), (.int 0 0), (.int 3 0), (.ref 476), (.bool true), (.int 181 0), (.ref 477), .none, (.ref 478), (.ref 479), (.ref 480), (.int 819 0), (.int 287 0), (.str ("/claim/cut.py" : Str) 820)]), #[]⟩
def o3_482 (P : Params) : Obj := ⟨(.type "function"), none, (.func { name := ("_law_truth" : Str), qualname := ("_law_truth" : Str), params := defArgs tp54, body := .stmts (defBody tp54), scope := defScope tp54, globals := 3, closure := [], defaults := .none, kwdefaults := .none, doc := .none, pyModule := (.str ("law_rosterneed_k29_whole_webs_read" : Str) 790), annotations := none, code := (.ref 481), closureTuple := .none, builtins := 0 }), #[]⟩
def o3_483 (P : Params) : Obj := ⟨(.type "tuple"), none, (.seq #[] 0), #[]⟩
def o3_484 (P : Params) : Obj := ⟨.none, none, (.fields #[]), #[]⟩
def o3_485 (P : Params) : Obj := ⟨(.type "tuple"), none, (.seq #[(.str ("source" : Str) 825), (.str ("inlets" : Str) 826), (.str ("many" : Str) 827), (.str ("gives" : Str) 828), (.str ("told" : Str) 829), (.str ("k" : Str) 830)] 0), #[]⟩
def o3_486 (P : Params) : Obj := ⟨(.type "tuple"), none, (.seq #[] 0), #[]⟩
def o3_487 (P : Params) : Obj := ⟨.none, none, (.func { name := ("_law_deeds" : Str), qualname := ("_law_deeds" : Str), params := defArgs tp55, body := .stmts (defBody tp55), scope := defScope tp55, globals := 0, closure := [], defaults := .none, kwdefaults := .none, doc := .none, pyModule := .none, annotations := none, code := .none, closureTuple := .none, builtins := 0 }), #[]⟩
def o3_488 (P : Params) : Obj := ⟨(.type "code"), none, (.fields #[(.str ("_law_deeds" : Str) 822), (.str ("_law_deeds" : Str) 823), (.str ("/claim/cut.py" : Str) 824), (.int 289 0), (.int 4 0), (.int 0 0), (.int 0 0), (.int 3 0), (.ref 483), (.bool true), (.int 181 0), (.ref 484), .none, (.ref 485), (.ref 486), (.ref 487), (.int 831 0), (.int 289 0), (.str ("/claim/cut.py" : Str) 832)]), #[]⟩
def o3_489 (P : Params) : Obj := ⟨(.type "function"), none, (.func { name := ("_law_deeds" : Str), qualname := ("_law_deeds" : Str), params := defArgs tp55, body := .stmts (defBody tp55), scope := defScope tp55, globals := 3, closure := [], defaults := .none, kwdefaults := .none, doc := .none, pyModule := (.str ("law_rosterneed_k29_whole_webs_read" : Str) 790), annotations := none, code := (.ref 488), closureTuple := .none, builtins := 0 }), #[]⟩
def o3_490 (P : Params) : Obj := ⟨(.type "tuple"), none, (.seq #[] 0), #[]⟩
def o3_491 (P : Params) : Obj := ⟨.none, none, (.fields #[]), #[]⟩
def o3_492 (P : Params) : Obj := ⟨(.type "tuple"), none, (.seq #[(.str ("source" : Str) 837), (.str ("inlets" : Str) 838), (.str ("most" : Str) 839), (.str ("stops" : Str) 840), (.str ("begin" : Str) 841), (.str ("found" : Str) 842), (.str ("k" : Str) 843), (.str ("way" : Str) 844)] 0), #[]⟩
def o3_493 (P : Params) : Obj := ⟨(.type "tuple"), none, (.seq #[] 0), #[]⟩
def o3_494 (P : Params) : Obj := ⟨.none, none, (.func { name := ("_law_maker" : Str), qualname := ("_law_maker" : Str), params := defArgs tp56, body := .stmts (defBody tp56), scope := defScope tp56, globals := 0, closure := [], defaults := .none, kwdefaults := .none, doc := .none, pyModule := .none, annotations := none, code := .none, closureTuple := .none, builtins := 0 }), #[]⟩
def o3_495 (P : Params) : Obj := ⟨(.type "code"), none, (.fields #[(.str ("_law_maker" : Str) 834), (.str ("_law_maker" : Str) 835), (.str ("/claim/cut.py" : Str) 836), (.int 297 0), (.int 4 0), (.int 0 0), (.int 0 0), (.int 3 0), (.ref 490), (.bool true), (.int 181 0), (.ref 491), .none, (.ref 492), (.ref 493), (.ref 494), (.int 845 0), (.int 297 0), (.str ("/claim/cut.py" : Str) 846)]), #[]⟩
def o3_496 (P : Params) : Obj := ⟨(.type "function"), none, (.func { name := ("_law_maker" : Str), qualname := ("_law_maker" : Str), params := defArgs tp56, body := .stmts (defBody tp56), scope := defScope tp56, globals := 3, closure := [], defaults := .none, kwdefaults := .none, doc := .none, pyModule := (.str ("law_rosterneed_k29_whole_webs_read" : Str) 790), annotations := none, code := (.ref 495), closureTuple := .none, builtins := 0 }), #[]⟩
def o3_497 (P : Params) : Obj := ⟨(.type "tuple"), none, (.seq #[] 0), #[]⟩
def o3_498 (P : Params) : Obj := ⟨.none, none, (.fields #[]), #[]⟩
def o3_499 (P : Params) : Obj := ⟨(.type "tuple"), none, (.seq #[(.str ("maker" : Str) 851)] 0), #[]⟩
def o3_500 (P : Params) : Obj := ⟨(.type "tuple"), none, (.seq #[] 0), #[]⟩
def o3_501 (P : Params) : Obj := ⟨.none, none, (.func { name := ("_law_made" : Str), qualname := ("_law_made" : Str), params := defArgs tp57, body := .stmts (defBody tp57), scope := defScope tp57, globals := 0, closure := [], defaults := .none, kwdefaults := .none, doc := .none, pyModule := .none, annotations := none, code := .none, closureTuple := .none, builtins := 0 }), #[]⟩
def o3_502 (P : Params) : Obj := ⟨(.type "code"), none, (.fields #[(.str ("_law_made" : Str) 848), (.str ("_law_made" : Str) 849), (.str ("/claim/cut.py" : Str) 850), (.int 306 0), (.int 1 0), (.int 0 0), (.int 0 0), (.int 3 0), (.ref 497), (.bool true), (.int 181 0), (.ref 498), .none, (.ref 499), (.ref 500), (.ref 501), (.int 852 0), (.int 306 0), (.str ("/claim/cut.py" : Str) 853)]), #[]⟩
def o3_503 (P : Params) : Obj := ⟨(.type "function"), none, (.func { name := ("_law_made" : Str), qualname := ("_law_made" : Str), params := defArgs tp57, body := .stmts (defBody tp57), scope := defScope tp57, globals := 3, closure := [], defaults := .none, kwdefaults := .none, doc := .none, pyModule := (.str ("law_rosterneed_k29_whole_webs_read" : Str) 790), annotations := none, code := (.ref 502), closureTuple := .none, builtins := 0 }), #[]⟩
def o3_504 (P : Params) : Obj := ⟨(.type "tuple"), none, (.seq #[] 0), #[]⟩
def o3_505 (P : Params) : Obj := ⟨.none, none, (.fields #[]), #[]⟩
def o3_506 (P : Params) : Obj := ⟨.none, none, (.func { name := ("_law_web" : Str), qualname := ("_law_web" : Str), params := defArgs tp58, body := .stmts (defBody tp58), scope := defScope tp58, globals := 0, closure := [], defaults := .none, kwdefaults := .none, doc := .none, pyModule := .none, annotations := none, code := .none, closureTuple := .none, builtins := 0 }), #[]⟩
def o3_507 (P : Params) : Obj := ⟨(.type "code"), none, (.fields #[(.str ("_law_web" : Str) 855), (.str ("_law_web" : Str) 856), (.str ("/claim/cut.py" : Str) 857), (.int 308 0), (.int 5 0), (.int 0 0), (.int 0 0), (.int 3 0), (.ref 504), (.bool true), (.int 181 0), (.ref 505), .none, .none, .none, (.ref 506), (.int 858 0), (.int 308 0), (.str ("/claim/cut.py" : Str) 859)]), #[]⟩
def o3_508 (P : Params) : Obj := ⟨(.type "function"), none, (.func { name := ("_law_web" : Str), qualname := ("_law_web" : Str), params := defArgs tp58, body := .stmts (defBody tp58), scope := defScope tp58, globals := 3, closure := [], defaults := .none, kwdefaults := .none, doc := .none, pyModule := (.str ("law_rosterneed_k29_whole_webs_read" : Str) 790), annotations := none, code := (.ref 507), closureTuple := .none, builtins := 0 }), #[]⟩
def o3_509 (P : Params) : Obj := ⟨(.type "tuple"), none, (.seq #[] 0), #[]⟩
def o3_510 (P : Params) : Obj := ⟨.none, none, (.fields #[]), #[]⟩
def o3_511 (P : Params) : Obj := ⟨(.type "tuple"), none, (.seq #[(.str ("web" : Str) 864), (.str ("rows" : Str) 865), (.str ("name" : Str) 866), (.str ("maker" : Str) 867), (.str ("sources" : Str) 868)] 0), #[]⟩
def o3_512 (P : Params) : Obj := ⟨(.type "tuple"), none, (.seq #[] 0), #[]⟩
def o3_513 (P : Params) : Obj := ⟨.none, none, (.func { name := ("_law_built" : Str), qualname := ("_law_built" : Str), params := defArgs tp59, body := .stmts (defBody tp59), scope := defScope tp59, globals := 0, closure := [], defaults := .none, kwdefaults := .none, doc := .none, pyModule := .none, annotations := none, code := .none, closureTuple := .none, builtins := 0 }), #[]⟩
def o3_514 (P : Params) : Obj := ⟨(.type "code"), none, (.fields #[(.str ("_law_built" : Str) 861), (.str ("_law_built" : Str) 862), (.str ("/claim/cut.py" : Str) 863), (.int 321 0), (.int 1 0), (.int 0 0), (.int 0 0), (.int 3 0), (.ref 509), (.bool true), (.int 181 0), (.ref 510), .none, (.ref 511), (.ref 512), (.ref 513), (.int 869 0), (.int 321 0), (.str ("/claim/cut.py" : Str) 870)]), #[]⟩
def o3_515 (P : Params) : Obj := ⟨(.type "function"), none, (.func { name := ("_law_built" : Str), qualname := ("_law_built" : Str), params := defArgs tp59, body := .stmts (defBody tp59), scope := defScope tp59, globals := 3, closure := [], defaults := .none, kwdefaults := .none, doc := .none, pyModule := (.str ("law_rosterneed_k29_whole_webs_read" : Str) 790), annotations := none, code := (.ref 514), closureTuple := .none, builtins := 0 }), #[]⟩
def o3_516 (P : Params) : Obj := ⟨(.type "tuple"), none, (.seq #[] 0), #[]⟩
def o3_517 (P : Params) : Obj := ⟨.none, none, (.fields #[]), #[]⟩
def o3_518 (P : Params) : Obj := ⟨(.type "tuple"), none, (.seq #[(.str ("source" : Str) 875), (.str ("web" : Str) 876), (.str ("most" : Str) 877), (.str ("menu" : Str) 878), (.str ("rows" : Str) 879), (.str ("turn" : Str) 880), (.str ("place" : Str) 881), (.str ("name" : Str) 882), (.str ("maker" : Str) 883), (.str ("sources" : Str) 884)] 0), #[]⟩
def o3_519 (P : Params) : Obj := ⟨(.type "tuple"), none, (.seq #[] 0), #[]⟩
def o3_520 (P : Params) : Obj := ⟨.none, none, (.func { name := ("_law_opened" : Str), qualname := ("_law_opened" : Str), params := defArgs tp60, body := .stmts (defBody tp60), scope := defScope tp60, globals := 0, closure := [], defaults := .none, kwdefaults := .none, doc := .none, pyModule := .none, annotations := none, code := .none, closureTuple := .none, builtins := 0 }), #[]⟩
def o3_521 (P : Params) : Obj := ⟨(.type "code"), none, (.fields #[(.str ("_law_opened" : Str) 872), (.str ("_law_opened" : Str) 873), (.str ("/claim/cut.py" : Str) 874), (.int 326 0), (.int 3 0), (.int 0 0), (.int 0 0), (.int 3 0), (.ref 516), (.bool true), (.int 181 0), (.ref 517), .none, (.ref 518), (.ref 519), (.ref 520), (.int 885 0), (.int 326 0), (.str ("/claim/cut.py" : Str) 886)]), #[]⟩
def o3_522 (P : Params) : Obj := ⟨(.type "function"), none, (.func { name := ("_law_opened" : Str), qualname := ("_law_opened" : Str), params := defArgs tp60, body := .stmts (defBody tp60), scope := defScope tp60, globals := 3, closure := [], defaults := .none, kwdefaults := .none, doc := .none, pyModule := (.str ("law_rosterneed_k29_whole_webs_read" : Str) 790), annotations := none, code := (.ref 521), closureTuple := .none, builtins := 0 }), #[]⟩
def o3_523 (P : Params) : Obj := ⟨(.type "tuple"), none, (.seq #[] 0), #[]⟩
def o3_524 (P : Params) : Obj := ⟨.none, none, (.fields #[]), #[]⟩
def o3_525 (P : Params) : Obj := ⟨.none, none, (.func { name := ("_law_line" : Str), qualname := ("_law_line" : Str), params := defArgs tp61, body := .stmts (defBody tp61), scope := defScope tp61, globals := 0, closure := [], defaults := .none, kwdefaults := .none, doc := .none, pyModule := .none, annotations := none, code := .none, closureTuple := .none, builtins := 0 }), #[]⟩
def o3_526 (P : Params) : Obj := ⟨(.type "code"), none, (.fields #[(.str ("_law_line" : Str) 888), (.str ("_law_line" : Str) 889), (.str ("/claim/cut.py" : Str) 890), (.int 334 0), (.int 1 0), (.int 0 0), (.int 0 0), (.int 3 0), (.ref 523), (.bool true), (.int 181 0), (.ref 524), .none, .none, .none, (.ref 525), (.int 891 0), (.int 334 0), (.str ("/claim/cut.py" : Str) 892)]), #[]⟩
def o3_527 (P : Params) : Obj := ⟨(.type "function"), none, (.func { name := ("_law_line" : Str), qualname := ("_law_line" : Str), params := defArgs tp61, body := .stmts (defBody tp61), scope := defScope tp61, globals := 3, closure := [], defaults := .none, kwdefaults := .none, doc := .none, pyModule := (.str ("law_rosterneed_k29_whole_webs_read" : Str) 790), annotations := none, code := (.ref 526), closureTuple := .none, builtins := 0 }), #[]⟩
def o3_528 (P : Params) : Obj := ⟨(.type "tuple"), none, (.seq #[] 0), #[]⟩
def o3_529 (P : Params) : Obj := ⟨.none, none, (.fields #[]), #[]⟩
def o3_530 (P : Params) : Obj := ⟨.none, none, (.func { name := ("_law_web_lines" : Str), qualname := ("_law_web_lines" : Str), params := defArgs tp62, body := .stmts (defBody tp62), scope := defScope tp62, globals := 0, closure := [], defaults := .none, kwdefaults := .none, doc := .none, pyModule := .none, annotations := none, code := .none, closureTuple := .none, builtins := 0 }), #[]⟩
def o3_531 (P : Params) : Obj := ⟨(.type "code"), none, (.fields #[(.str ("_law_web_lines" : Str) 894), (.str ("_law_web_lines" : Str) 895), (.str ("/claim/cut.py" : Str) 896), (.int 342 0), (.int 1 0), (.int 0 0), (.int 0 0), (.int 3 0), (.ref 528), (.bool true), (.int 181 0), (.ref 529), .none, .none, .none, (.ref 530), (.int 897 0), (.int 342 0), (.str ("/claim/cut.py" : Str) 898)]), #[]⟩
def o3_532 (P : Params) : Obj := ⟨(.type "function"), none, (.func { name := ("_law_web_lines" : Str), qualname := ("_law_web_lines" : Str), params := defArgs tp62, body := .stmts (defBody tp62), scope := defScope tp62, globals := 3, closure := [], defaults := .none, kwdefaults := .none, doc := .none, pyModule := (.str ("law_rosterneed_k29_whole_webs_read" : Str) 790), annotations := none, code := (.ref 531), closureTuple := .none, builtins := 0 }), #[]⟩
def o3_533 (P : Params) : Obj := ⟨(.type "tuple"), none, (.seq #[] 0), #[]⟩
def o3_534 (P : Params) : Obj := ⟨.none, none, (.fields #[]), #[]⟩
def o3_535 (P : Params) : Obj := ⟨(.type "tuple"), none, (.seq #[(.str ("told" : Str) 903), (.str ("web" : Str) 904), (.str ("k" : Str) 905), (.str ("row" : Str) 906), (.str ("due" : Str) 907)] 0), #[]⟩
def o3_536 (P : Params) : Obj := ⟨(.type "tuple"), none, (.seq #[] 0), #[]⟩
def o3_537 (P : Params) : Obj := ⟨.none, none, (.func { name := ("_law_same_web" : Str), qualname := ("_law_same_web" : Str), params := defArgs tp63, body := .stmts (defBody tp63), scope := defScope tp63, globals := 0, closure := [], defaults := .none, kwdefaults := .none, doc := .none, pyModule := .none, annotations := none, code := .none, closureTuple := .none, builtins := 0 }), #[]⟩
def o3_538 (P : Params) : Obj := ⟨(.type "code"), none, (.fields #[(.str ("_law_same_web" : Str) 900), (.str ("_law_same_web" : Str) 901), (.str ("/claim/cut.py" : Str) 902), (.int 344 0), (.int 2 0), (.int 0 0), (.int 0 0), (.int 3 0), (.ref 533), (.bool true), (.int 181 0), (.ref 534), .none, (.ref 535), (.ref 536), (.ref 537), (.int 908 0), (.int 344 0), (.str ("/claim/cut.py" : Str) 909)]), #[]⟩
def o3_539 (P : Params) : Obj := ⟨(.type "function"), none, (.func { name := ("_law_same_web" : Str), qualname := ("_law_same_web" : Str), params := defArgs tp63, body := .stmts (defBody tp63), scope := defScope tp63, globals := 3, closure := [], defaults := .none, kwdefaults := .none, doc := .none, pyModule := (.str ("law_rosterneed_k29_whole_webs_read" : Str) 790), annotations := none, code := (.ref 538), closureTuple := .none, builtins := 0 }), #[]⟩
def o3_540 (P : Params) : Obj := ⟨(.type "tuple"), none, (.seq #[] 0), #[]⟩
def o3_541 (P : Params) : Obj := ⟨.none, none, (.fields #[]), #[]⟩
def o3_542 (P : Params) : Obj := ⟨(.type "tuple"), none, (.seq #[(.str ("source" : Str) 914), (.str ("web" : Str) 915), (.str ("way" : Str) 916), (.str ("row" : Str) 917)] 0), #[]⟩
def o3_543 (P : Params) : Obj := ⟨(.type "tuple"), none, (.seq #[] 0), #[]⟩
def o3_544 (P : Params) : Obj := ⟨.none, none, (.func { name := ("_law_other" : Str), qualname := ("_law_other" : Str), params := defArgs tp64, body := .stmts (defBody tp64), scope := defScope tp64, globals := 0, closure := [], defaults := .none, kwdefaults := .none, doc := .none, pyModule := .none, annotations := none, code := .none, closureTuple := .none, builtins := 0 }), #[]⟩
def o3_545 (P : Params) : Obj := ⟨(.type "code"), none, (.fields #[(.str ("_law_other" : Str) 911), (.str ("_law_other" : Str) 912), (.str ("/claim/cut.py" : Str) 913), (.int 359 0), (.int 2 0), (.int 0 0), (.int 0 0), (.int 3 0), (.ref 540), (.bool true), (.int 181 0), (.ref 541), .none, (.ref 542), (.ref 543), (.ref 544), (.int 918 0), (.int 359 0), (.str ("/claim/cut.py" : Str) 919)]), #[]⟩
def o3_546 (P : Params) : Obj := ⟨(.type "function"), none, (.func { name := ("_law_other" : Str), qualname := ("_law_other" : Str), params := defArgs tp64, body := .stmts (defBody tp64), scope := defScope tp64, globals := 3, closure := [], defaults := .none, kwdefaults := .none, doc := .none, pyModule := (.str ("law_rosterneed_k29_whole_webs_read" : Str) 790), annotations := none, code := (.ref 545), closureTuple := .none, builtins := 0 }), #[]⟩
def o3_547 (P : Params) : Obj := ⟨(.type "tuple"), none, (.seq #[] 0), #[]⟩
def o3_548 (P : Params) : Obj := ⟨.none, none, (.fields #[]), #[]⟩
def o3_549 (P : Params) : Obj := ⟨(.type "tuple"), none, (.seq #[(.str ("script" : Str) 924), (.str ("source" : Str) 925), (.str ("web" : Str) 926), (.str ("lines" : Str) 927), (.str ("built" : Str) 928), (.str ("told" : Str) 929), (.str ("row" : Str) 930), (.str ("read" : Str) 931), (.str ("other" : Str) 932), (.str ("near" : Str) 933), (.str ("first" : Str) 934)] 0), #[]⟩
def o3_550 (P : Params) : Obj := ⟨(.type "tuple"), none, (.seq #[] 0), #[]⟩
def o3_551 (P : Params) : Obj := ⟨.none, none, (.func { name := ("law" : Str), qualname := ("law" : Str), params := defArgs tp65, body := .stmts (defBody tp65), scope := defScope tp65, globals := 0, closure := [], defaults := .none, kwdefaults := .none, doc := .none, pyModule := .none, annotations := none, code := .none, closureTuple := .none, builtins := 0 }), #[]⟩
def o3_552 (P : Params) : Obj := ⟨(.type "code"), none, (.fields #[(.str ("law" : Str) 921), (.str ("law" : Str) 922), (.str ("/claim/cut.py" : Str) 923), (.int 367 0), (.int 1 0), (.int 0 0), (.int 0 0), (.int 3 0), (.ref 547), (.bool true), (.int 181 0), (.ref 548), .none, (.ref 549), (.ref 550), (.ref 551), (.int 935 0), (.int 367 0), (.str ("/claim/cut.py" : Str) 936)]), #[]⟩
def o3_553 (P : Params) : Obj := ⟨(.type "function"), none, (.func { name := ("law" : Str), qualname := ("law" : Str), params := defArgs tp65, body := .stmts (defBody tp65), scope := defScope tp65, globals := 3, closure := [], defaults := .none, kwdefaults := .none, doc := .none, pyModule := (.str ("law_rosterneed_k29_whole_webs_read" : Str) 790), annotations := none, code := (.ref 552), closureTuple := .none, builtins := 0 }), #[]⟩
def t3 (P : Params) : BT := (.node (boot_o_0 P) (.node (boot_o_1 P) (.node (o3_3 P) (.node (boot_o_7 P) (.node (o0_15 P) (.node (o0_31 P) (.node (o0_63 P) (.node (o0_127 P) (.node (o1_255 P) (.node (o3_511 P) .nil .nil) .nil) (.node (o1_383 P) .nil .nil)) (.node (o0_191 P) (.node (o1_319 P) .nil .nil) (.node (o3_447 P) .nil .nil))) (.node (o0_95 P) (.node (o0_159 P) (.node (o1_287 P) (.node (o3_543 P) .nil .nil) .nil) (.node (o1_415 P) .nil .nil)) (.node (o1_223 P) (.node (o1_351 P) .nil .nil) (.node (o3_479 P) .nil .nil)))) (.node (o0_47 P) (.node (o0_79 P) (.node (o0_143 P) (.node (o1_271 P) (.node (o3_527 P) .nil .nil) .nil) (.node (o1_399 P) .nil .nil)) (.node (o1_207 P) (.node (o1_335 P) .nil .nil) (.node (o3_463 P) .nil .nil))) (.node (o0_111 P) (.node (o0_175 P) (.node (o1_303 P) .nil .nil) (.node (o3_431 P) .nil .nil)) (.node (o1_239 P) (.node (o1_367 P) .nil .nil) (.node (o3_495 P) .nil .nil))))) (.node (o0_23 P) (.node (o0_39 P) (.node (o0_71 P) (.node (o0_135 P) (.node (o1_263 P) (.node (o3_519 P) .nil .nil) .nil) (.node (o1_391 P) .nil .nil)) (.node (o1_199 P) (.node (o1_327 P) .nil .nil) (.node (o3_455 P) .nil .nil))) (.node (o0_103 P) (.node (o0_167 P) (.node (o1_295 P) (.node (o3_551 P) .nil .nil) .nil) (.node (o3_423 P) .nil .nil)) (.node (o1_231 P) (.node (o1_359 P) .nil .nil) (.node (o3_487 P) .nil .nil)))) (.node (o0_55 P) (.node (o0_87 P) (.node (o0_151 P) (.node (o1_279 P) (.node (o3_535 P) .nil .nil) .nil) (.node (o1_407 P) .nil .nil)) (.node (o1_215 P) (.node (o1_343 P) .nil .nil) (.node (o3_471 P) .nil .nil))) (.node (o0_119 P) (.node (o0_183 P) (.node (o1_311 P) .nil .nil) (.node (o3_439 P) .nil .nil)) (.node (o1_247 P) (.node (o1_375 P) .nil .nil) (.node (o3_503 P) .nil .nil)))))) (.node (oa_11 P) (.node (o0_19 P) (.node (o0_35 P) (.node (o0_67 P) (.node (o0_131 P) (.node (o1_259 P) (.node (o3_515 P) .nil .nil) .nil) (.node (o1_387 P) .nil .nil)) (.node (o0_195 P) (.node (o1_323 P) .nil .nil) (.node (o3_451 P) .nil .nil))) (.node (o0_99 P) (.node (o0_163 P) (.node (o1_291 P) (.node (o3_547 P) .nil .nil) .nil) (.node (o3_419 P) .nil .nil)) (.node (o1_227 P) (.node (o1_355 P) .nil .nil) (.node (o3_483 P) .nil .nil)))) (.node (o0_51 P) (.node (o0_83 P) (.node (o0_147 P) (.node (o1_275 P) (.node (o3_531 P) .nil .nil) .nil) (.node (o1_403 P) .nil .nil)) (.node (o1_211 P) (.node (o1_339 P) .nil .nil) (.node (o3_467 P) .nil .nil))) (.node (o0_115 P) (.node (o0_179 P) (.node (o1_307 P) .nil .nil) (.node (o3_435 P) .nil .nil)) (.node (o1_243 P) (.node (o1_371 P) .nil .nil) (.node (o3_499 P) .nil .nil))))) (.node (o0_27 P) (.node (o0_43 P) (.node (o0_75 P) (.node (o0_139 P) (.node (o1_267 P) (.node (o3_523 P) .nil .nil) .nil) (.node (o1_395 P) .nil .nil)) (.node (o1_203 P) (.node (o1_331 P) .nil .nil) (.node (o3_459 P) .nil .nil))) (.node (o1_107 P) (.node (o0_171 P) (.node (o1_299 P) .nil .nil) (.node (o3_427 P) .nil .nil)) (.node (o1_235 P) (.node (o1_363 P) .nil .nil) (.node (o3_491 P) .nil .nil)))) (.node (o0_59 P) (.node (o0_91 P) (.node (o0_155 P) (.node (o1_283 P) (.node (o3_539 P) .nil .nil) .nil) (.node (o1_411 P) .nil .nil)) (.node (o1_219 P) (.node (o1_347 P) .nil .nil) (.node (o3_475 P) .nil .nil))) (.node (o0_123 P) (.node (o0_187 P) (.node (o1_315 P) .nil .nil) (.node (o3_443 P) .nil .nil)) (.node (o1_251 P) (.node (o1_379 P) .nil .nil) (.node (o3_507 P) .nil .nil))))))) (.node (boot_o_5 P) (.node (boot_o_9 P) (.node (o0_17 P) (.node (o0_33 P) (.node (o0_65 P) (.node (o0_129 P) (.node (o1_257 P) (.node (o3_513 P) .nil .nil) .nil) (.node (o1_385 P) .nil .nil)) (.node (o0_193 P) (.node (o1_321 P) .nil .nil) (.node (o3_449 P) .nil .nil))) (.node (o0_97 P) (.node (o0_161 P) (.node (o1_289 P) (.node (o3_545 P) .nil .nil) .nil) (.node (o2_417 P) .nil .nil)) (.node (o1_225 P) (.node (o1_353 P) .nil .nil) (.node (o3_481 P) .nil .nil)))) (.node (o0_49 P) (.node (o0_81 P) (.node (o0_145 P) (.node (o1_273 P) (.node (o3_529 P) .nil .nil) .nil) (.node (o1_401 P) .nil .nil)) (.node (o1_209 P) (.node (o1_337 P) .nil .nil) (.node (o3_465 P) .nil .nil))) (.node (o0_113 P) (.node (o0_177 P) (.node (o1_305 P) .nil .nil) (.node (o3_433 P) .nil .nil)) (.node (o1_241 P) (.node (o1_369 P) .nil .nil) (.node (o3_497 P) .nil .nil))))) (.node (o0_25 P) (.node (o0_41 P) (.node (o0_73 P) (.node (o0_137 P) (.node (o1_265 P) (.node (o3_521 P) .nil .nil) .nil) (.node (o1_393 P) .nil .nil)) (.node (o1_201 P) (.node (o1_329 P) .nil .nil) (.node (o3_457 P) .nil .nil))) (.node (o0_105 P) (.node (o0_169 P) (.node (o1_297 P) (.node (o3_553 P) .nil .nil) .nil) (.node (o3_425 P) .nil .nil)) (.node (o1_233 P) (.node (o1_361 P) .nil .nil) (.node (o3_489 P) .nil .nil)))) (.node (o0_57 P) (.node (o0_89 P) (.node (o0_153 P) (.node (o1_281 P) (.node (o3_537 P) .nil .nil) .nil) (.node (o1_409 P) .nil .nil)) (.node (o1_217 P) (.node (o1_345 P) .nil .nil) (.node (o3_473 P) .nil .nil))) (.node (o0_121 P) (.node (o0_185 P) (.node (o1_313 P) .nil .nil) (.node (o3_441 P) .nil .nil)) (.node (o1_249 P) (.node (o1_377 P) .nil .nil) (.node (o3_505 P) .nil .nil)))))) (.node (oa_13 P) (.node (o0_21 P) (.node (o0_37 P) (.node (o0_69 P) (.node (o0_133 P) (.node (o1_261 P) (.node (o3_517 P) .nil .nil) .nil) (.node (o1_389 P) .nil .nil)) (.node (o1_197 P) (.node (o1_325 P) .nil .nil) (.node (o3_453 P) .nil .nil))) (.node (o0_101 P) (.node (o0_165 P) (.node (o1_293 P) (.node (o3_549 P) .nil .nil) .nil) (.node (o3_421 P) .nil .nil)) (.node (o1_229 P) (.node (o1_357 P) .nil .nil) (.node (o3_485 P) .nil .nil)))) (.node (o0_53 P) (.node (o0_85 P) (.node (o0_149 P) (.node (o1_277 P) (.node (o3_533 P) .nil .nil) .nil) (.node (o1_405 P) .nil .nil)) (.node (o1_213 P) (.node (o1_341 P) .nil .nil) (.node (o3_469 P) .nil .nil))) (.node (o0_117 P) (.node (o0_181 P) (.node (o1_309 P) .nil .nil) (.node (o3_437 P) .nil .nil)) (.node (o1_245 P) (.node (o1_373 P) .nil .nil) (.node (o3_501 P) .nil .nil))))) (.node (o0_29 P) (.node (o0_45 P) (.node (o0_77 P) (.node (o0_141 P) (.node (o1_269 P) (.node (o3_525 P) .nil .nil) .nil) (.node (o1_397 P) .nil .nil)) (.node (o1_205 P) (.node (o1_333 P) .nil .nil) (.node (o3_461 P) .nil .nil))) (.node (o0_109 P) (.node (o0_173 P) (.node (o1_301 P) .nil .nil) (.node (o3_429 P) .nil .nil)) (.node (o1_237 P) (.node (o1_365 P) .nil .nil) (.node (o3_493 P) .nil .nil)))) (.node (o0_61 P) (.node (o0_93 P) (.node (o0_157 P) (.node (o1_285 P) (.node (o3_541 P) .nil .nil) .nil) (.node (o1_413 P) .nil .nil)) (.node (o1_221 P) (.node (o1_349 P) .nil .nil) (.node (o3_477 P) .nil .nil))) (.node (o0_125 P) (.node (o0_189 P) (.node (o1_317 P) .nil .nil) (.node (o3_445 P) .nil .nil)) (.node (o1_253 P) (.node (o1_381 P) .nil .nil) (.node (o3_509 P) .nil .nil)))))))) (.node (boot_o_2 P) (.node (boot_o_4 P) (.node (boot_o_8 P) (.node (o0_16 P) (.node (o0_32 P) (.node (o0_64 P) (.node (o1_128 P) (.node (o1_256 P) (.node (o3_512 P) .nil .nil) .nil) (.node (o1_384 P) .nil .nil)) (.node (o0_192 P) (.node (o1_320 P) .nil .nil) (.node (o3_448 P) .nil .nil))) (.node (o0_96 P) (.node (o0_160 P) (.node (o1_288 P) (.node (o3_544 P) .nil .nil) .nil) (.node (o1_416 P) .nil .nil)) (.node (o1_224 P) (.node (o1_352 P) .nil .nil) (.node (o3_480 P) .nil .nil)))) (.node (o0_48 P) (.node (o0_80 P) (.node (o0_144 P) (.node (o1_272 P) (.node (o3_528 P) .nil .nil) .nil) (.node (o1_400 P) .nil .nil)) (.node (o1_208 P) (.node (o1_336 P) .nil .nil) (.node (o3_464 P) .nil .nil))) (.node (o0_112 P) (.node (o0_176 P) (.node (o1_304 P) .nil .nil) (.node (o3_432 P) .nil .nil)) (.node (o1_240 P) (.node (o1_368 P) .nil .nil) (.node (o3_496 P) .nil .nil))))) (.node (o0_24 P) (.node (o0_40 P) (.node (o0_72 P) (.node (o0_136 P) (.node (o1_264 P) (.node (o3_520 P) .nil .nil) .nil) (.node (o1_392 P) .nil .nil)) (.node (o1_200 P) (.node (o1_328 P) .nil .nil) (.node (o3_456 P) .nil .nil))) (.node (o0_104 P) (.node (o0_168 P) (.node (o1_296 P) (.node (o3_552 P) .nil .nil) .nil) (.node (o3_424 P) .nil .nil)) (.node (o1_232 P) (.node (o1_360 P) .nil .nil) (.node (o3_488 P) .nil .nil)))) (.node (o0_56 P) (.node (o0_88 P) (.node (o0_152 P) (.node (o1_280 P) (.node (o3_536 P) .nil .nil) .nil) (.node (o1_408 P) .nil .nil)) (.node (o1_216 P) (.node (o1_344 P) .nil .nil) (.node (o3_472 P) .nil .nil))) (.node (o0_120 P) (.node (o0_184 P) (.node (o1_312 P) .nil .nil) (.node (o3_440 P) .nil .nil)) (.node (o1_248 P) (.node (o1_376 P) .nil .nil) (.node (o3_504 P) .nil .nil)))))) (.node (o3_12 P) (.node (o0_20 P) (.node (o0_36 P) (.node (o0_68 P) (.node (o0_132 P) (.node (o1_260 P) (.node (o3_516 P) .nil .nil) .nil) (.node (o1_388 P) .nil .nil)) (.node (o0_196 P) (.node (o1_324 P) .nil .nil) (.node (o3_452 P) .nil .nil))) (.node (o0_100 P) (.node (o0_164 P) (.node (o1_292 P) (.node (o3_548 P) .nil .nil) .nil) (.node (o3_420 P) .nil .nil)) (.node (o1_228 P) (.node (o1_356 P) .nil .nil) (.node (o3_484 P) .nil .nil)))) (.node (o0_52 P) (.node (o0_84 P) (.node (o0_148 P) (.node (o1_276 P) (.node (o3_532 P) .nil .nil) .nil) (.node (o1_404 P) .nil .nil)) (.node (o1_212 P) (.node (o1_340 P) .nil .nil) (.node (o3_468 P) .nil .nil))) (.node (o0_116 P) (.node (o0_180 P) (.node (o1_308 P) .nil .nil) (.node (o3_436 P) .nil .nil)) (.node (o1_244 P) (.node (o1_372 P) .nil .nil) (.node (o3_500 P) .nil .nil))))) (.node (o0_28 P) (.node (o0_44 P) (.node (o0_76 P) (.node (o0_140 P) (.node (o1_268 P) (.node (o3_524 P) .nil .nil) .nil) (.node (o1_396 P) .nil .nil)) (.node (o1_204 P) (.node (o1_332 P) .nil .nil) (.node (o3_460 P) .nil .nil))) (.node (o0_108 P) (.node (o0_172 P) (.node (o1_300 P) .nil .nil) (.node (o3_428 P) .nil .nil)) (.node (o1_236 P) (.node (o1_364 P) .nil .nil) (.node (o3_492 P) .nil .nil)))) (.node (o0_60 P) (.node (o0_92 P) (.node (o0_156 P) (.node (o1_284 P) (.node (o3_540 P) .nil .nil) .nil) (.node (o1_412 P) .nil .nil)) (.node (o1_220 P) (.node (o1_348 P) .nil .nil) (.node (o3_476 P) .nil .nil))) (.node (o0_124 P) (.node (o0_188 P) (.node (o1_316 P) .nil .nil) (.node (o3_444 P) .nil .nil)) (.node (o1_252 P) (.node (o1_380 P) .nil .nil) (.node (o3_508 P) .nil .nil))))))) (.node (boot_o_6 P) (.node (boot_o_10 P) (.node (o0_18 P) (.node (o0_34 P) (.node (o0_66 P) (.node (o0_130 P) (.node (o1_258 P) (.node (o3_514 P) .nil .nil) .nil) (.node (o1_386 P) .nil .nil)) (.node (o0_194 P) (.node (o1_322 P) .nil .nil) (.node (o3_450 P) .nil .nil))) (.node (o0_98 P) (.node (o0_162 P) (.node (o1_290 P) (.node (o3_546 P) .nil .nil) .nil) (.node (o3_418 P) .nil .nil)) (.node (o1_226 P) (.node (o1_354 P) .nil .nil) (.node (o3_482 P) .nil .nil)))) (.node (o0_50 P) (.node (o0_82 P) (.node (o0_146 P) (.node (o1_274 P) (.node (o3_530 P) .nil .nil) .nil) (.node (o1_402 P) .nil .nil)) (.node (o1_210 P) (.node (o1_338 P) .nil .nil) (.node (o3_466 P) .nil .nil))) (.node (o0_114 P) (.node (o0_178 P) (.node (o1_306 P) .nil .nil) (.node (o3_434 P) .nil .nil)) (.node (o1_242 P) (.node (o1_370 P) .nil .nil) (.node (o3_498 P) .nil .nil))))) (.node (o0_26 P) (.node (o0_42 P) (.node (o0_74 P) (.node (o0_138 P) (.node (o1_266 P) (.node (o3_522 P) .nil .nil) .nil) (.node (o1_394 P) .nil .nil)) (.node (o1_202 P) (.node (o1_330 P) .nil .nil) (.node (o3_458 P) .nil .nil))) (.node (o0_106 P) (.node (o0_170 P) (.node (o1_298 P) .nil .nil) (.node (o3_426 P) .nil .nil)) (.node (o1_234 P) (.node (o1_362 P) .nil .nil) (.node (o3_490 P) .nil .nil)))) (.node (o0_58 P) (.node (o0_90 P) (.node (o0_154 P) (.node (o1_282 P) (.node (o3_538 P) .nil .nil) .nil) (.node (o1_410 P) .nil .nil)) (.node (o1_218 P) (.node (o1_346 P) .nil .nil) (.node (o3_474 P) .nil .nil))) (.node (o0_122 P) (.node (o0_186 P) (.node (o1_314 P) .nil .nil) (.node (o3_442 P) .nil .nil)) (.node (o1_250 P) (.node (o1_378 P) .nil .nil) (.node (o3_506 P) .nil .nil)))))) (.node (oa_14 P) (.node (o0_22 P) (.node (o0_38 P) (.node (o0_70 P) (.node (o0_134 P) (.node (o1_262 P) (.node (o3_518 P) .nil .nil) .nil) (.node (o1_390 P) .nil .nil)) (.node (o1_198 P) (.node (o1_326 P) .nil .nil) (.node (o3_454 P) .nil .nil))) (.node (o0_102 P) (.node (o0_166 P) (.node (o1_294 P) (.node (o3_550 P) .nil .nil) .nil) (.node (o3_422 P) .nil .nil)) (.node (o1_230 P) (.node (o1_358 P) .nil .nil) (.node (o3_486 P) .nil .nil)))) (.node (o0_54 P) (.node (o0_86 P) (.node (o0_150 P) (.node (o1_278 P) (.node (o3_534 P) .nil .nil) .nil) (.node (o1_406 P) .nil .nil)) (.node (o1_214 P) (.node (o1_342 P) .nil .nil) (.node (o3_470 P) .nil .nil))) (.node (o0_118 P) (.node (o0_182 P) (.node (o1_310 P) .nil .nil) (.node (o3_438 P) .nil .nil)) (.node (o1_246 P) (.node (o1_374 P) .nil .nil) (.node (o3_502 P) .nil .nil))))) (.node (o0_30 P) (.node (o0_46 P) (.node (o0_78 P) (.node (o0_142 P) (.node (o1_270 P) (.node (o3_526 P) .nil .nil) .nil) (.node (o1_398 P) .nil .nil)) (.node (o1_206 P) (.node (o1_334 P) .nil .nil) (.node (o3_462 P) .nil .nil))) (.node (o0_110 P) (.node (o0_174 P) (.node (o1_302 P) .nil .nil) (.node (o3_430 P) .nil .nil)) (.node (o1_238 P) (.node (o1_366 P) .nil .nil) (.node (o3_494 P) .nil .nil)))) (.node (o0_62 P) (.node (o0_94 P) (.node (o0_158 P) (.node (o1_286 P) (.node (o3_542 P) .nil .nil) .nil) (.node (o1_414 P) .nil .nil)) (.node (o1_222 P) (.node (o1_350 P) .nil .nil) (.node (o3_478 P) .nil .nil))) (.node (o0_126 P) (.node (o0_190 P) (.node (o1_318 P) .nil .nil) (.node (o3_446 P) .nil .nil)) (.node (o1_254 P) (.node (o1_382 P) .nil .nil) (.node (o3_510 P) .nil .nil)))))))))
def S3 (w : World) (os : OsState) : SharedT := ⟨t3 w.params, 554, {}, #[], {}, 938, os⟩
def p3 : Pos := ⟨367, 0, 386, 85⟩

def tz (P : Params) : BT := (.node (boot_o_0 P) (.node (boot_o_1 P) (.node (boot_o_3 P) (.node (boot_o_7 P) .nil .nil) .nil) (.node (boot_o_5 P) (.node (boot_o_9 P) .nil .nil) .nil)) (.node (boot_o_2 P) (.node (boot_o_4 P) (.node (boot_o_8 P) .nil .nil) .nil) (.node (boot_o_6 P) (.node (boot_o_10 P) .nil .nil) .nil)))
def Sz (w : World) (os : OsState) : SharedT := ⟨tz w.params, 11, (boot_heap w.params).life, #[], boot_drawn, boot_toks, os⟩
theorem hSz (w : World) (os : OsState) : (Sz w os).abs = ⟨boot_heap w.params, #[], boot_drawn, boot_toks, os⟩ := by
  show (⟨absHeap (tz w.params) 11 (boot_heap w.params).life, #[], boot_drawn, boot_toks, os⟩ : Shared) = _
  rw [putAll_heap (h := boot_heap w.params) (by kernel_rfl)]
theorem hn0 (w : World) : (boot_heap w.params).objs.size = 11 := by kernel_rfl
def annC : Option Value := (some (.ref 6))
theorem hann (w : World) : bootAnn w = annC := by kernel_rfl
def qC : Pos := ⟨0, 0, 0, 0⟩
def bodyC : List Stmt := behindTheImports prg
def envC : PySem.Env := { scope := prg.main.scope, locals := mainNs, globals := mainNs, cells := [], code := (.ref 13), frame := some 14 }
abbrev cC : Code := .body bodyC envC
abbrev stC (w : World) := stepQ (denQ tabQ) prg w
theorem h_pre (w : World) (os : OsState) : HC.gpF (stC w) 11 annC 12 (Sz w os) (topStub prg) = some (Sa w os, ⟨denQ tabQ cC, cC, pa, [topFrame qC]⟩) := by kernel_rfl
theorem h_blk (w : World) (os : OsState) : HC.gsF (stC w) 11 annC 1 (Sa w os) (HC.blockQ bodyC envC cC pa [topFrame qC]) = some (.next, Sb w os, cC, pb) := by kernel_rfl
def rst0 : List Stmt := bodyC.drop 0
def sts0 : List Stmt := rst0.take 12
theorem h_0 (w : World) (os : OsState) : HC.gsF (stC w) 11 annC 2472 (Sb w os) (HC.piecesQ sts0 envC cC pb [topFrame qC]) = some (.next, S0 w os, cC, p0) := by kernel_rfl
def rst1 : List Stmt := bodyC.drop 12
def sts1 : List Stmt := rst1.take 30
theorem h_1 (w : World) (os : OsState) : HC.gsF (stC w) 11 annC 1962 (S0 w os) (HC.piecesQ sts1 envC cC p0 [topFrame qC]) = some (.next, S1 w os, cC, p1) := by kernel_rfl
def rst2 : List Stmt := bodyC.drop 42
def sts2 : List Stmt := rst2.take 1
theorem h_2 (w : World) (os : OsState) : HC.gsF (stC w) 11 annC 56 (S1 w os) (HC.piecesQ sts2 envC cC p1 [topFrame qC]) = some (.next, S2 w os, cC, p2) := (byRow2 "special-get-raises" (P := fun w => ∀ os, HC.gsF (stC w) 11 annC 56 (S1 w os) (HC.piecesQ sts2 envC cC p1 [topFrame qC]) = some (.next, S2 w os, cC, p2)) (fun w os => by kernel_rfl) (fun w os => by kernel_rfl)) w os
def rst3 : List Stmt := bodyC.drop 43
def sts3 : List Stmt := rst3.take 23
theorem h_3 (w : World) (os : OsState) : HC.gsF (stC w) 11 annC 676 (S2 w os) (HC.piecesQ sts3 envC cC p2 [topFrame qC]) = some (.next, S3 w os, cC, p3) := by kernel_rfl
theorem h_fin (w : World) (os : OsState) : goF (stC w) 11 annC 2 (S3 w os) ⟨doneF .next, cC, p3, [topFrame qC]⟩ = some (S3 w os) := by kernel_rfl
def stepsC : Nat := 12 + (1 + (2472 + (1962 + (56 + (676 + 2)))))
theorem h_run (w : World) (os : OsState) : topRun treeTable prg w 11 annC stepsC (Sz w os).abs (topStub prg) = some (S3 w os).abs := by
  refine HC.pre_of (h_pre w os) ?_
  refine HC.start_of (h_blk w os) ?_
  rw [show bodyC = rst0 from rfl]
  rw [show rst0 = sts0 ++ rst1 by exact (List.take_append_drop 12 rst0).symm.trans (congrArg _ (by unfold rst0 rst1; rw [List.drop_drop]))]
  refine HC.chunk_of (h_0 w os) ?_
  rw [show rst1 = sts1 ++ rst2 by exact (List.take_append_drop 30 rst1).symm.trans (congrArg _ (by unfold rst1 rst2; rw [List.drop_drop]))]
  refine HC.chunk_of (h_1 w os) ?_
  rw [show rst2 = sts2 ++ rst3 by exact (List.take_append_drop 1 rst2).symm.trans (congrArg _ (by unfold rst2 rst3; rw [List.drop_drop]))]
  refine HC.chunk_of (h_2 w os) ?_
  rw [show rst3 = sts3 ++ [] by rw [List.append_nil]; kernel_rfl]
  refine HC.chunk_of (h_3 w os) ?_
  exact HC.fin_of (h_fin w os)
abbrev Sl := S3
theorem h_look (w : World) (os : OsState) : (looksF R.prog (boot_heap w.params) (Sl w os).abs, seenQ (PySem.W.view R.prog [65]) nmL (importedModules R.prog.main.body) (fun s => xlAt (PySem.W.view R.prog [65]) [] s && recOk R.toRowW.records s) (Sl w os).abs, ob (Sl w os)) = (true, openGood (PySem.W.view R.prog [65]) nmL, hk.val w) := by kernel_rfl
end HD
end
end
end M

namespace M
open PySem PySem.Spec PyProof.Rows L2 Evl MS
local macro_rules | `(tactic| walk_at "ex") => `(tactic| first
  | exact Ex.refl _ | with_reducible assumption | (refine' Ex.trans ?a ?b; (case b => with_reducible assumption); (case a => walk_at "ex")))
local macro_rules | `(tactic| walk_at "hp") => `(tactic| first
  | with_reducible assumption
  | (with_reducible refine' st_of ?a; (case a => with_reducible assumption))
  | (with_reducible refine' sq_of ?a; (case a => with_reducible assumption))
  | (with_reducible refine' ex_t ?a ?b; (case a => with_reducible assumption); (case b => walk_at "hp"))
  | (with_reducible refine' ex_l ?a ?b; (case a => with_reducible assumption); (case b => walk_at "hp"))
  | (with_reducible refine' ex_e ?a ?b; (case a => with_reducible assumption); (case b => walk_at "hp")))
local macro_rules | `(tactic| walk_at "om") => `(tactic| first
  | with_reducible assumption | omega | (simp only [List.length_map, List.length_nil, List.length_cons, List.length_append, List.length_range] <;> omega))
local macro_rules | `(tactic| walk_at "sz") => `(tactic| first
  | (refine sz_of ?_; omega) | exact sz_of (by simp only [List.length_map, List.length_nil, List.length_cons, List.length_append, List.length_range] <;> omega))
local macro_rules | `(tactic| walk_at "ty") => `(tactic| first
  | exact .base (.int _) | exact .base .non | exact .base (.bl _) | exact .base (.str _) | (with_reducible refine' SqT.ty ?a; (case a => walk_at "hp")) | (with_reducible refine' SqL.ty ?a; (case a => walk_at "hp")) | (with_reducible refine' dp_ty ?a; (case a => with_reducible assumption)))
local macro_rules | `(tactic| walk_at "vv") => `(tactic| first | refine w_v0 ?_ | refine w_v1 ?_ | refine w_v2 ?_ | refine w_v3 ?_ | refine w_v4 ?_ | refine w_v5 ?_ | refine w_v6 ?_ | refine w_v7 ?_ | refine w_v8 ?_ | refine w_v9 ?_ | refine w_v10 ?_ | refine w_v11 ?_ | refine w_v12 ?_ | refine w_v13 ?_ | refine w_v14 ?_ | refine w_v15 ?_)
local macro_rules | `(tactic| walk_at "nn") => `(tactic| first | refine w_n0 ?_ | refine w_n1 ?_ | refine w_n2 ?_ | refine w_n3 ?_ | refine w_n4 ?_ | refine w_n5 ?_ | refine w_n6 ?_ | refine w_n7 ?_ | refine w_n8 ?_ | refine w_n9 ?_ | refine w_n10 ?_ | refine w_n11 ?_ | refine w_n12 ?_ | refine w_n13 ?_ | refine w_n14 ?_ | refine w_n15 ?_)
local macro_rules | `(tactic| walk_at "w1") => `(tactic| with_reducible first
  | refine w_cons ?_ | (refine w_vv ?_; walk_at "vv") | refine w_nil ?_ | refine w_op ?_ | refine w_c ?_ | refine w_cb ?_ | refine w_seq ?_ | refine w_asg ?_ | (refine w_nn ?_; walk_at "nn")
  | refine w_test ?_ | refine w_exbl2 ?_ | refine w_ifS ?_ | refine w_ret ?_
  | refine w_call ?_ | refine w_call1 ?_ | refine w_call2 ?_ | refine w_call3 ?_
  | refine w_and ?_ | refine w_or ?_ | refine w_not ?_ | refine w_andV ?_ | refine w_orV ?_ | refine w_notV ?_ | refine w_ifE ?_ | refine w_un ?_ | refine w_tB ?_ | refine w_tru ?_ | refine r_truB ?_ | refine r_truI ?_
  | refine w_tup ?_ | refine w_lst ?_ | refine w_sl ?_ | refine w_part ?_ | refine w_noPart ?_ | refine w_exint ?_ | refine w_drop ?_ | refine w_next ?_ | refine w_yes ?_
  | refine w_gcons ?_ | refine w_gnil ?_ | refine iteT ?_ | refine iteF ?_
  | refine w_lcJ ?_ | refine w_forJ ?_ | refine i_r1 ?_ | refine i_r2 ?_ | refine w_fld ?_ | refine w_fldS ?_ | refine w_prop ?_ | refine w_meth ?_ | refine w_make ?_ | refine w_callO ?_ | refine w_callOI ?_ | refine w_bm ?_ | refine w_retN ?_ | refine w_chain ?_ | refine w_break ?_ | refine w_gsub ?_ | refine w_par ?_ | refine w_call4 ?_ | refine w_call5 ?_)
local macro_rules | `(tactic| walk_at "w2") => `(tactic| first
  | with_reducible (first | refine r_addI ?_ | refine r_subI ?_ | refine r_eqI ?_ | refine r_neI ?_ | refine r_lt ?_ | refine r_le ?_ | refine r_gt ?_ | refine r_ge ?_ | refine r_neg ?_)
  | with_reducible (first | refine r_eqO ?_ | refine r_neO ?_ | refine r_eqB ?_ | refine r_isO ?_ | refine r_isNotO ?_ | refine r_isI ?_ | refine r_isN ?_ | refine r_isR ?_ | refine r_isNotI ?_ | refine r_isNotN ?_ | refine r_isNotR ?_)
  | with_reducible (first | refine r_int ?_ | refine r_abs ?_ | refine r_max2 ?_ | refine r_min2 ?_ | refine r_boolB ?_)
  | ((with_reducible refine' r_lenTI ?a ?q); (case a => walk_at "hp"))
  | ((with_reducible refine' r_lenLI ?a ?q); (case a => walk_at "hp"))
  | ((with_reducible refine' r_lenT ?a ?q); (case a => walk_at "hp"))
  | ((with_reducible refine' r_lenL ?a ?q); (case a => walk_at "hp"))
  | ((with_reducible refine' w_gtup ?a ?b ?q); (case a => walk_at "hp"); (case b => rfl))
  | ((with_reducible refine' r_modI ?a ?q); (case a => walk_at "om"))
  | ((with_reducible refine' r_divI ?a ?b ?q); (case a => walk_at "om"); (case b => walk_at "om"))
  | ((with_reducible refine' r_ixTI ?a ?b ?c ?q); (case a => walk_at "hp"); (case b => walk_at "om"); (case c => walk_at "om"))
  | ((with_reducible refine' r_ixTN ?a ?b ?c ?q); (case a => walk_at "hp"); (case b => walk_at "om"); (case c => walk_at "om"))
  | ((with_reducible refine' r_ixLI ?a ?b ?c ?q); (case a => walk_at "hp"); (case b => walk_at "om"); (case c => walk_at "om"))
  | ((with_reducible refine' r_ixLN ?a ?b ?c ?q); (case a => walk_at "hp"); (case b => walk_at "om"); (case c => walk_at "om"))
  | ((with_reducible refine' r_lenEI ?a ?q); (case a => walk_at "hp"))
  | ((with_reducible refine' r_ixEI ?a ?b ?c ?q); (case a => walk_at "hp"); (case b => walk_at "om"); (case c => walk_at "om"))
  | ((with_reducible refine' r_ixEN ?a ?b ?c ?q); (case a => walk_at "hp"); (case b => walk_at "om"); (case c => walk_at "om"))
  | ((with_reducible refine' r_ixT ?a ?b ?q); (case a => walk_at "hp"); (case b => exact rfl))
  | ((with_reducible refine' r_ixL ?a ?b ?q); (case a => walk_at "hp"); (case b => exact rfl))
  | ((with_reducible refine' r_shr ?a ?q); (case a => walk_at "om"))
  | ((with_reducible refine' r_pow ?a ?q); (case a => (exact ⟨by decide, by decide, by decide⟩)))
  | ((with_reducible refine' r_bmL ?a ?q); (case a => walk_at "hp"))
  | ((with_reducible refine' r_mulI ?a ?q); (case a => first | (left; walk_at "om") | (right; walk_at "om")))
  | ((with_reducible refine' r_eqT ?a ?b ?q); (case a => walk_at "hp"); (case b => walk_at "hp"))
  | ((with_reducible refine' r_neT ?a ?b ?q); (case a => walk_at "hp"); (case b => walk_at "hp"))
  | ((with_reducible refine' i_x1 ?a ?q); (case a => omega))
  | ((with_reducible refine' i_x2 ?a ?q); (case a => omega))
  | ((with_reducible refine' i_xT ?a ?q); (case a => walk_at "hp"))
  | ((with_reducible refine' i_xL ?a ?q); (case a => walk_at "hp"))
  | ((with_reducible refine' r_slTto ?a ?b ?q); (case a => walk_at "hp"); (case b => walk_at "om"))
  | ((with_reducible refine' r_slTfrom ?a ?b ?q); (case a => walk_at "hp"); (case b => walk_at "om"))
  | ((with_reducible refine' r_slLto ?a ?b ?q); (case a => walk_at "hp"); (case b => walk_at "om"))
  | ((with_reducible refine' r_slLfrom ?a ?b ?q); (case a => walk_at "hp"); (case b => walk_at "om"))
  | ((with_reducible refine' r_slLmid ?a ?b ?c ?d ?q); (case a => walk_at "hp"); (case b => walk_at "om"); (case c => walk_at "om"); (case d => walk_at "om"))
  | ((with_reducible refine' r_tupT ?a ?q); (case a => walk_at "hp"))
  | ((with_reducible refine' r_tupL ?a ?q); (case a => walk_at "hp"))
  | ((with_reducible refine' r_lstT ?a ?q); (case a => walk_at "hp"))
  | ((with_reducible refine' r_lstL ?a ?q); (case a => walk_at "hp"))
  | ((with_reducible refine' w_newT ?a ?q); (case a => walk_at "sz"))
  | ((with_reducible refine' w_newL ?a ?q); (case a => walk_at "sz"))
  | ((with_reducible refine' r_isi (b := true) ?a ?b ?q); (case a => walk_at "ty"); (case b => exact rfl))
  | ((with_reducible refine' r_isi (b := false) ?a ?b ?q); (case a => walk_at "ty"); (case b => exact rfl))
  | ((with_reducible refine' r_isiT (b := true) ?a ?b ?c ?q); (case a => walk_at "hp"); (case b => walk_at "ty"); (case c => exact rfl))
  | ((with_reducible refine' r_isiT (b := false) ?a ?b ?c ?q); (case a => walk_at "hp"); (case b => walk_at "ty"); (case c => exact rfl))
  | ((with_reducible refine' w_dT ?a ?q); (case a => walk_at "om"))
  | ((with_reducible refine' w_dF ?a ?q); (case a => walk_at "om"))
  | ((with_reducible refine' w_nT ?a ?q); (case a => walk_at "om"))
  | ((with_reducible refine' w_nF ?a ?q); (case a => walk_at "om"))
  | ((with_reducible refine' w_bT ?a ?q); (case a => exact rfl))
  | ((with_reducible refine' w_bF ?a ?q); (case a => exact rfl)))
local macro_rules | `(tactic| walk_at "w") => `(tactic| repeat (first | walk_at "w1" | walk_at "w2"))

section
def dIsInt : PyData → Bool
  | .int _ => true
  | _ => false
def dIsCount : PyData → Bool
  | .int i => decide (0 ≤ i)
  | _ => false
def dIsSeq : PyData → Bool
  | .list _ => true
  | .tuple _ => true
  | _ => false
theorem dp_nodict {K : PySem.W.Frag} {H : Hp} {v : V} {x : List (PyData × PyData)} (h : Dp K H v (.dict x)) : False := nomatch h
abbrev N_is_integer : List Str := ["thing"]
theorem sc_is_integer : FnScope N_is_integer ["thing"] (defScope s_is_integer) := ⟨rfl, rfl, rfl, by decide +kernel, rfl, by decide +kernel, by decide +kernel⟩
theorem ok_is_integer {P : Program} {w : World} {K : PySem.W.Frag} {mg : Str → Option Value} {base : Heap} (E : Env P K mg) : Fn P w K mg base CX0 1 "is_integer" (sp1 fun v H Q _ => ∃ d, Dp K H v d ∧ RetD K (.bool (dIsInt d)) H Q) := by
  obtain ⟨fd, F⟩ := E.dd_is_integer
  refine Fn.mk0 F E.g_is_integer sc_is_integer sp1_len (fun _ _ _ _ _ _ us hl => match us, hl with | [_], _ => rfl) (fun cdv A outer s H vs Q X hr h => ?_)
  have nd := sc_is_integer.nd
  obtain ⟨v0, rfl, h⟩ := h
  refine ⟨_, (pss_one (ps_ret (pe_and (pe_callB (kIsi K) (by rfl) E.f_isinstance (by decide +kernel) (pa_cons (pv 0) (pa_cons (pe_bltn (v := .ty "int") (by rfl) E.f_int (by decide +kernel) rfl) pa_nil))) (pe_one (pe_not (pe_callB (kIsi K) (by rfl) E.f_isinstance (by decide +kernel) (pa_cons (pv 0) (pa_cons (pe_bltn (v := .ty "bool") (by rfl) E.f_bool (by decide +kernel) rfl) pa_nil)))))))), ?_⟩
  change (_ : TS) _ [some v0] H
  try dsimp only [cxOf, Cx.nox, Cx.blk]
  obtain ⟨d, hd, k⟩ := h
  cases d with
  | dict x => exact (dp_nodict hd).elim
  | int i => cases hd; walk_at "w"; exact k.bl (by walk_at "ex")
  | _ => cases hd <;> (walk_at "w"; exact k.bl (by walk_at "ex"))
/-- data, or a dict -/
def DpX (K : PySem.W.Frag) (H : Hp) (v : V) (d : PyData) : Prop := Dp K H v d ∨ (d = .dict [] ∧ ∃ a kvs, v = .ref a ∧ H a = some (.dK kvs))
instance {K : PySem.W.Frag} {H : Hp} {v : V} {d : PyData} : Coe (Dp K H v d) (DpX K H v d) := ⟨.inl⟩
abbrev N_is_listed : List Str := ["thing"]
theorem sc_is_listed : FnScope N_is_listed ["thing"] (defScope s_is_listed) := ⟨rfl, rfl, rfl, by decide +kernel, rfl, by decide +kernel, by decide +kernel⟩
theorem ok_is_listed {P : Program} {w : World} {K : PySem.W.Frag} {mg : Str → Option Value} {base : Heap} (E : Env P K mg) : Fn P w K mg base CX0 1 "is_listed" (sp1 fun v H Q _ => ∃ d, DpX K H v d ∧ RetD K (.bool (dIsSeq d)) H Q) := by
  obtain ⟨fd, F⟩ := E.dd_is_listed
  refine Fn.mk0 F E.g_is_listed sc_is_listed sp1_len (fun _ _ _ _ _ _ us hl => match us, hl with | [_], _ => rfl) (fun cdv A outer s H vs Q X hr h => ?_)
  have nd := sc_is_listed.nd
  obtain ⟨v0, rfl, h⟩ := h
  refine ⟨_, (pss_one (ps_ret (pe_callB (kIsiT K) (by rfl) E.f_isinstance (by decide +kernel) (pa_cons (pv 0) (pa_cons (pe_tup (pa_cons (pe_bltn (v := .ty "tuple") (by rfl) E.f_tuple (by decide +kernel) rfl) (pa_cons (pe_bltn (v := .ty "list") (by rfl) E.f_list (by decide +kernel) rfl) pa_nil))) pa_nil))))), ?_⟩
  change (_ : TS) _ [some v0] H
  try dsimp only [cxOf, Cx.nox, Cx.blk]
  obtain ⟨d, hd | ⟨rfl, a, kvs, rfl, hk⟩, k⟩ := h
  case' inr =>
    walk_at "w"
    intro p H1 n1 e1 h1
    refine r_isiT (b := false) h1 (.base (.dK (e1 _ _ hk))) rfl ?_
    exact k.bl (by walk_at "ex")
  cases d with
  | dict x => exact (dp_nodict hd).elim
  | _ => cases hd <;> (walk_at "w"; intro p H1 n1 e1 h1; walk_at "w"; exact k.bl (by walk_at "ex"))

end
section
abbrev spDeep (K : PySem.W.Frag) (n : Nat) : Sp := sp1 fun v H Q _ => ∃ d, Dp K H v d ∧ shp n d = true ∧ RetD K (dDeep d) H Q
abbrev N_deep : List Str := ["thing", "one"]
theorem sc_deep : FnScope N_deep ["thing"] (defScope s_deep) := ⟨rfl, rfl, rfl, by decide +kernel, rfl, by decide +kernel, by decide +kernel⟩
--derivation of deep:
theorem deep_step {P : Program} {w : World} {K : PySem.W.Frag} {mg : Str → Option Value} {base : Heap} (E : Env P K mg) {k n : Nat} {sp : Sp} (hk1 : 1 ≤ k) (IH : Fn P w K mg base CX0 k "deep" sp)
    (hsp : ∀ (m : Nat), n = m + 1 → sp = spDeep K m) : Fn P w K mg base CX0 (k + 1) "deep" (spDeep K n) := by
  obtain ⟨fd, F⟩ := E.dd_deep
  refine Fn.mk0 F E.g_deep sc_deep sp1_len (fun _ _ _ _ _ _ us hl => match us, hl with | [_], _ => rfl) (fun cdv A outer s H vs Q X hr h => ?_)
  have nd := sc_deep.nd
  obtain ⟨v0, rfl, h⟩ := h
  refine ⟨_, (pss_cons (ps_if (kTru K (pc (ok_is_listed E) hr (by omega) pass0 rfl (pa_cons (pv 0) pa_nil)) (by intro _; rfl))
   (pss_one (ps_ret (pe_callTy (kTup K) (by rfl) E.f_tuple (by decide +kernel) (pa_cons (pe_lc (own := [("one", 1)]) (g := gName 1) (tt := tYes) rfl nd (kSeq K (pv 0)) (blkOk_by (N := N_deep) (sc := defScope s_deep) (by decide +kernel)) (fun _ _ _ _ _ => pg_name (i := 1) nd rfl (Or.inl rfl)) (fun _ _ _ _ _ => pts_nil) (fun _ _ _ _ _ => pc IH hr (by omega) pass0 rfl (pa_cons (pv 1) pa_nil))) pa_nil))))
   pss_nil)
  (pss_one (ps_ret (pv 0)))), ?_⟩
  change (_ : TS) _ [some v0, none] H
  obtain ⟨d, hd, hs, k⟩ := h
  walk_at "w"
  refine ⟨d, .inl hd, fun v H1 e1 d1 => ?_⟩
  obtain rfl := dp_toBl d1
  have h0 : ∀ (b : Bool), dIsSeq d = b → (b = false → dDeep d = d) := by
    intro b hb hb2
    subst hb2
    cases d with
    | list _ => exact nomatch hb
    | tuple _ => exact nomatch hb
    | dict _ => exact (dp_nodict hd).elim
    | _ => rfl
  cases hq : dIsSeq d with
  | false =>
    walk_at "w"
    rw [h0 false hq rfl] at k
    exact k _ _ e1 (dp_ex e1 hd)
  | true =>
    walk_at "w"
    cases n with
    | zero => cases d <;> first | (simp [dIsSeq] at hq; done) | (simp [shp] at hs; done)
    | succ n =>
      have esp := hsp n rfl
      subst esp
      have fin : ∀ (ds : List PyData) (p : Addr) (H2 : Hp) (ys : List V), dDeep d = .tuple (dDeepAll ds) → Ex H1 H2 → H2 p = some (.lst ys) → DpAll K H2 ys ((List.range ds.length).map fun i => dDeep (ds.getD i .none)) → ∀ (p3 : Addr) (H3 : Hp), Ex H2 H3 → SqT K H3 p3 ys → Q (.ref p3) H3 := fun ds p H2 ys he e2 hp hy p3 H3 e3 s3 => by
        rw [he] at k
        refine k _ _ (e1.trans (e2.trans e3)) (.tup s3 ?_)
        have el : (List.range ds.length).map (fun i => dDeep (ds.getD i .none)) = dDeepAll ds := by
          rw [dDeepAll_eq]
          apply List.ext_getElem
          · simp
          · intro i h1 h2
            simp at h1 h2
            simp [h2]
        rw [el] at hy
        exact dpAll_ex e3 hy
      have elt : ∀ (ds : List PyData) (xs : List V) (H1' : Hp) (i : Nat) (x : V) (Q' : VK) (h1 : DpAll K H xs ds) (hsh : shpAll n ds = true), Ex H H1' → xs[i]? = some x → (∀ y H2, Ex H1' H2 → Dp K H2 y (dDeep (ds.getD i .none)) → Q' y H2) → ∃ d, Dp K H1' x d ∧ shp n d = true ∧ RetD K (dDeep d) H1' Q' := by
        intro ds xs H1' i x Q' h1 hsh e hx hq
        obtain ⟨d', g1, g2⟩ := dpAll_get h1 hx
        refine ⟨d', dp_ex e g2, shpAll_get hsh g1, fun y H2 e2 d2 => hq y H2 e2 ?_⟩
        rw [List.getD_eq_getElem?_getD, g1]
        exact d2
      cases hd with
      | lst s a =>
        rename_i ad xs ds
        obtain ⟨hz, hsh⟩ := Bool.and_eq_true_iff.mp (show (decide (ds.length ≤ 50000) && shpAll n ds) = true from hs)
        have hz' := of_decide_eq_true hz
        have hl := dpAll_len a
        refine i_seqL ?_
        walk_at "w"
        refine lcD_list (fun i => dDeep (ds.getD i .none)) (fun i => imm_deep _) (ex_l e1 s) (by omega) (fun x => [_, some x]) (fun x => rfl) (fun x => rfl) (fun i x H2 Q' e2 hx hq => ?_) (fun p H2 ys n2 e2 hp hy => ?_)
        · walk_at "w"
          exact elt ds xs H2 i x Q' a hsh (e1.trans e2) hx hq
        · walk_at "w"
          rw [hl] at hy
          intro p3 H3 e3 s3
          exact fin ds p H2 ys rfl e2 hp hy p3 H3 e3 s3
      | tup s a =>
        rename_i ad xs ds
        obtain ⟨hz, hsh⟩ := Bool.and_eq_true_iff.mp (show (decide (ds.length ≤ 50000) && shpAll n ds) = true from hs)
        have hz' := of_decide_eq_true hz
        have hl := dpAll_len a
        refine i_seqT ?_
        walk_at "w"
        refine lcD_tup (fun i => dDeep (ds.getD i .none)) (fun i => imm_deep _) (ex_t e1 s) (by omega) (fun x => [_, some x]) (fun x => rfl) (fun x => rfl) (fun i x H2 Q' e2 hx hq => ?_) (fun p H2 ys n2 e2 hp hy => ?_)
        · walk_at "w"
          exact elt ds xs H2 i x Q' a hsh (e1.trans e2) hx hq
        · walk_at "w"
          rw [hl] at hy
          intro p3 H3 e3 s3
          exact fin ds p H2 ys rfl e2 hp hy p3 H3 e3 s3
      | _ => exact nomatch hq
theorem ok_deepN {P : Program} {w : World} {K : PySem.W.Frag} {mg : Str → Option Value} {base : Heap} (E : Env P K mg) : ∀ n : Nat, Fn P w K mg base CX0 (n + 2) "deep" (spDeep K n)
  | 0 => by
    obtain ⟨fd, F⟩ := E.dd_deep
    exact deep_step E (k := 1) (Nat.le_refl _) (Fn.never F E.g_deep (ps := ["thing"]) (fun _ _ _ _ _ _ us hl => match us, hl with | [_], _ => rfl)) (fun m e => nomatch e)
  | n + 1 => deep_step E (by omega) (ok_deepN E n) (fun m e => by cases e; rfl)
theorem ok_deep {P : Program} {w : World} {K : PySem.W.Frag} {mg : Str → Option Value} {base : Heap} (E : Env P K mg) : Fn P w K mg base CX0 8 "deep" (spDeep K 6) := ok_deepN E 6

end
section
abbrev N__law_pick : List Str := ["source", "many", "digit", "value"]
theorem sc__law_pick : FnScope N__law_pick ["source", "many"] (defScope s__law_pick) := ⟨rfl, rfl, rfl, by decide +kernel, rfl, by decide +kernel, by decide +kernel⟩
theorem ok__law_pick {P : Program} {w : World} {K : PySem.W.Frag} {mg : Str → Option Value} {base : Heap} (E : Env P K mg) : Fn P w K mg base CX0 1 "_law_pick" (sp2 fun s m H Q _ => ∃ (a : Addr) (n : Int), s = .ref a ∧ m = .int n ∧ 0 < n ∧ n < 4611686018427387904 ∧ SrcAt H a ∧ ∀ (r : Int) H', 0 ≤ r → r < n → SrcAt H' a → Fr a H H' → Q (.int r) H') := by
  obtain ⟨fd, F⟩ := E.dd__law_pick
  refine Fn.mk0 F E.g__law_pick sc__law_pick sp2_len (fun _ _ _ _ _ _ us hl => match us, hl with | [_, _], _ => rfl) (fun cdv A outer s H vs Q X hr h => ?_)
  have nd := sc__law_pick.nd
  obtain ⟨v0, v1, rfl, h⟩ := h
  refine ⟨_, (pss_cons (ps_if (pt_cmpR op_gt (pe_ix (kIx K) (pv 0) (pe_int) (fun _ _ => rfl)) (pe_int) (nomark _))
   (pss_cons (ps_set (i := 2) nd rfl (.inl rfl) (pe_op xMod (pe_callTy xInt (by rfl) E.f_int (by decide +kernel) (pa_cons (pe_ix (kIx K) (pv 0) (pe_int) (fun _ _ => rfl)) pa_nil)) (pv 1)))
  (pss_cons (ps_asg (pe_op xDiv (pe_ix (kIx K) (pv 0) (pe_int) (fun _ _ => rfl)) (pv 1)) (pg_sub (pv 0) (pe_int) set_list))
  (pss_one (ps_ret (pv 2)))))
   pss_nil)
  (pss_cons (ps_asg (pe_op (kAdd K) (pe_ix (kIx K) (pv 0) (pe_int) (fun _ _ => rfl)) (pe_int)) (pg_sub (pv 0) (pe_int) set_list))
  (pss_cons (ps_set (i := 3) nd rfl (.inl rfl) (pe_op xMod (pe_callTy xInt (by rfl) E.f_int (by decide +kernel) (pa_cons (pe_op (kMul K) (pe_op (kAdd K) (pe_ix (kIx K) (pv 0) (pe_int) (fun _ _ => rfl)) (pe_op (kMul K) (pe_int) (pe_ix (kIx K) (pv 0) (pe_int) (fun _ _ => rfl)))) (pe_int)) pa_nil)) (pe_int)))
  (pss_cons (ps_set (i := 3) nd rfl (.inl rfl) (pe_op xMod (pe_callTy xInt (by rfl) E.f_int (by decide +kernel) (pa_cons (pe_op (kAdd K) (pe_op (kAdd K) (pe_op (kMul K) (pv 3) (pv 3)) (pe_op (kMul K) (pe_int) (pe_ix (kIx K) (pv 0) (pe_int) (fun _ _ => rfl)))) (pe_ix (kIx K) (pv 0) (pe_int) (fun _ _ => rfl))) pa_nil)) (pe_int)))
  (pss_cons (ps_set (i := 3) nd rfl (.inl rfl) (pe_op xMod (pe_callTy xInt (by rfl) E.f_int (by decide +kernel) (pa_cons (pe_op (kAdd K) (pe_op (kMul K) (pv 3) (pe_int)) (pe_int)) pa_nil)) (pe_int)))
  (pss_cons (ps_set (i := 3) nd rfl (.inl rfl) (pe_op xMod (pe_callTy xInt (by rfl) E.f_int (by decide +kernel) (pa_cons (pe_op (kAdd K) (pe_op (kMul K) (pv 3) (pv 3)) (pv 3)) pa_nil)) (pe_int)))
  (pss_one (ps_ret (pe_op xMod (pe_callTy xInt (by rfl) E.f_int (by decide +kernel) (pa_cons (pe_op xDiv (pv 3) (pe_int)) pa_nil)) (pv 1)))))))))), ?_⟩
  change (_ : TS) _ [some v0, some v1, none, none] H
  try dsimp only [cxOf, Cx.nox, Cx.blk]
  obtain ⟨a, n, rfl, rfl, hn, hn2, hs, k⟩ := h
  obtain ⟨d, sd, c, h1, h2, h3, h4, h5⟩ := hs
  have s1 : SqL K H a [.int d, .int sd, .int c] := sq_of h1
  walk_at "w"
  by_cases c0 : 0 < d
  · walk_at "w"
    have hd0 : 0 ≤ d / n := Int.ediv_nonneg h2 (by omega)
    refine r_set (j := 0) h1 rfl ?_
    walk_at "w"
    exact k _ _ (Int.emod_nonneg _ (by omega)) (Int.emod_lt_of_pos _ hn) ⟨d / n, sd, c, upd_same, hd0, h3, h4, h5⟩ Fr.upd
  · walk_at "w"
    refine r_set (j := 2) h1 rfl ?_
    obtain ⟨H1, e1, g1, f1⟩ : ∃ H1, upd H a (.lst ([V.int d, .int sd, .int c].set 2 (.int (c + 1)))) = H1 ∧ H1 a = some (.lst [.int d, .int sd, .int (c + 1)]) ∧ Fr a H H1 := ⟨_, rfl, upd_same, Fr.upd⟩
    rw [e1]
    have s2 : SqL K H1 a [.int d, .int sd, .int (c + 1)] := sq_of g1
    walk_at "w"
    generalize hx1 : (sd + 104729 * (c + 1)) * 48271 % 2147483647 = x1
    have b1 : 0 ≤ x1 ∧ x1 < 2147483647 := by subst hx1; exact ⟨Int.emod_nonneg _ (by decide), Int.emod_lt_of_pos _ (by decide)⟩
    walk_at "w"
    generalize hx2 : (x1 * x1 + 7 * (c + 1) + sd) % 2147483629 = x2
    have b2 : 0 ≤ x2 ∧ x2 < 2147483629 := by subst hx2; exact ⟨Int.emod_nonneg _ (by decide), Int.emod_lt_of_pos _ (by decide)⟩
    walk_at "w"
    generalize hx3 : (x2 * 69621 + 5) % 2147483647 = x3
    have b3 : 0 ≤ x3 ∧ x3 < 2147483647 := by subst hx3; exact ⟨Int.emod_nonneg _ (by decide), Int.emod_lt_of_pos _ (by decide)⟩
    walk_at "w"
    exact k _ _ (Int.emod_nonneg _ (by omega)) (Int.emod_lt_of_pos _ hn) ⟨d, sd, c + 1, g1, h2, h3, h4, by omega⟩ f1

end
section
theorem bits_abs {z : Int} (h : Builtin.Int.intBits z ≤ 1048576) : ∃ n : Nat, n ≤ 1048577 ∧ z.natAbs < 2 ^ n := by
  refine ⟨z.natAbs.log2 + 1, ?_, Nat.lt_log2_self⟩
  unfold Builtin.Int.intBits at h
  split at h
  · rename_i h0
    have : z = 0 := by simpa using h0
    subst this
    decide
  · omega
theorem shl_of {z : Int} {j : Nat} (hj : j ≤ 100000) (hz : 0 ≤ z) (h : ∃ n : Nat, n ≤ 1048577 ∧ z.natAbs < 2 ^ n) (m : Nat) : CShl (z / 2 ^ m) (j : Int) := by
  obtain ⟨n, hn, hb⟩ := h
  refine shl_ok (n := n) (Nat.lt_of_le_of_lt ?_ hb) (by omega)
  have h1 : z / 2 ^ m ≤ z := Int.ediv_le_self _ hz
  have h2 : 0 ≤ z / 2 ^ m := Int.ediv_nonneg hz (Int.le_of_lt (Int.pow_pos (by decide)))
  omega
abbrev N__law_source : List Str := ["script", "place", "cell", "seed", "one", "number"]
theorem sc__law_source : FnScope N__law_source ["script", "place"] (defScope s__law_source) := ⟨rfl, rfl, rfl, by decide +kernel, rfl, by decide +kernel, by decide +kernel⟩
theorem ok__law_source {P : Program} {w : World} {K : PySem.W.Frag} {mg : Str → Option Value} {base : Heap} (E : Env P K mg) : Fn P w K mg base CX0 1 "_law_source" (sp2 fun s p H Q _ => ∃ (a : Addr) (ns : List Int) (i : Int), s = .ref a ∧ p = .int i ∧ SqL K H a (vI ns) ∧ (∀ z ∈ ns, Builtin.Int.intBits z ≤ 1048576) ∧ ns.length ≤ 63 ∧ 0 ≤ i ∧ i ≤ 100 ∧ ∀ x H', H x = none → Ex H H' → SrcAt H' x → Q (.ref x) H') := by
  obtain ⟨fd, F⟩ := E.dd__law_source
  refine Fn.mk0 F E.g__law_source sc__law_source sp2_len (fun _ _ _ _ _ _ us hl => match us, hl with | [_, _], _ => rfl) (fun cdv A outer s H vs Q X hr h => ?_)
  have nd := sc__law_source.nd
  obtain ⟨v0, v1, rfl, h⟩ := h
  refine ⟨_, (pss_cut (ps_set (i := 2) nd rfl (.inl rfl) (pe_ifExp (pt_cmpR op_lt (pv 1) (pe_callB (kLen K) (by rfl) E.f_len (by decide +kernel) (pa_cons (pv 0) pa_nil)) (nomark _)) (pe_ix (kIx K) (pv 0) (pv 1) (fun _ _ => rfl)) (pe_op (kAdd K) (pe_op (kMul K) (pe_int) (pv 1)) (pe_int))))
  (pss_cons (ps_set (i := 3) nd rfl (.inl rfl) (pe_op xMod (pe_callTy xInt (by rfl) E.f_int (by decide +kernel) (pa_cons (pe_op (kAdd K) (pe_op xMod (pe_callTy xInt (by rfl) E.f_int (by decide +kernel) (pa_cons (pv 2) pa_nil)) (pe_int)) (pe_op (kMul K) (pe_int) (pv 1))) pa_nil)) (pe_int)))
  (pss_cons (ps_for PassesOwn.never rfl (kSeq K (pe_slice (kSl K) (pv 0) po_none (po_some (pe_int)))) (pg_name (i := 4) nd rfl (.inl rfl))
   (pss_one (ps_set (i := 3) nd rfl (.inl rfl) (pe_op xMod (pe_callTy xInt (by rfl) E.f_int (by decide +kernel) (pa_cons (pe_op (kAdd K) (pe_op (kMul K) (pv 3) (pe_int)) (pe_op xMod (pe_callTy xInt (by rfl) E.f_int (by decide +kernel) (pa_cons (pv 4) pa_nil)) (pe_int))) pa_nil)) (pe_int)))))
  (pss_cons (ps_set (i := 5) nd rfl (.inl rfl) (pe_callB xAbs (by rfl) E.f_abs (by decide +kernel) (pa_cons (pv 2) pa_nil)))
  (pss_cons (ps_if (pt_cmpR op_lt (pv 5) (pe_op xPow (pe_int) (pe_int)) (nomark _))
   (pss_one (ps_ret (pe_lst (pa_cons (pe_int) (pa_cons (pv 3) (pa_cons (pe_int) pa_nil))))))
   pss_nil)
  (pss_cons (ps_if (pt_cmpR op_gt (pe_op xShr (pv 5) (pe_int)) (pe_int) (nomark _))
   (pss_one (ps_set (i := 5) nd rfl (.inl rfl) (pe_op xSub (pv 5) (pe_op xShl (pe_op xShr (pv 5) (pe_int)) (pe_int)))))
   pss_nil)
  (pss_one (ps_ret (pe_lst (pa_cons (pv 5) (pa_cons (pv 3) (pa_cons (pe_int) pa_nil)))))))))))), ?_⟩
  change (_ : TS) _ [some v0, some v1, none, none, none, none] H
  try dsimp only [cxOf, Cx.nox, Cx.blk]
  obtain ⟨a, ns, i, rfl, rfl, s0, hb, hz, hi, hi2, k⟩ := h
  have fin : ∀ (cell seed : Int) (H1 : Hp) (v : Option V), Ex H H1 → (∃ n : Nat, n ≤ 1048577 ∧ cell.natAbs < 2 ^ n) → 0 ≤ seed → seed < 2147483629 →
      tSeq (tAsg (tCB rAbsU (tCons (tVar 2) tNil)) (gName 5)) (tSeq (tIfS (tTest (tOp (rI0 fun i j => .bl (decide (i < j))) (tVar 5) (tOp rPow (tC (.int 10)) (tC (.int 18))))) (tRet (tLst (tCons (tC (.int 0)) (tCons (tVar 3) (tCons (tC (.int 0)) tNil))))) tNext)
        (tSeq (tIfS (tTest (tOp (rI0 fun i j => .bl (decide (j < i))) (tOp rShr (tVar 5) (tC (.int 4000))) (tC (.int 0)))) (tAsg (tOp rSubI (tVar 5) (tOp rShl (tOp rShr (tVar 5) (tC (.int 4000))) (tC (.int 4000)))) (gName 5)) tNext)
          (tRet (tLst (tCons (tVar 5) (tCons (tVar 3) (tCons (tC (.int 0)) tNil))))))) { nx := fun _ H' => Q .non H', rt := Q } [some (.ref a), some (.int i), some (.int cell), some (.int seed), v, none] H1 := by
    intro cell seed H1 v e1 hc h0 h1
    have ret : ∀ (d : Int), 0 ≤ d → NewL [.int d, .int seed, .int 0] H1 Q := fun d hd => w_newL (by walk_at "sz") fun p H2 n2 e2 h2 => k p H2 (fresh_back e1 n2) (e1.trans e2) ⟨d, seed, 0, h2, hd, h0, h1, Int.le_refl 0⟩
    repeat walk_at "w1"
    refine r_abs ?_
    repeat walk_at "w1"
    refine r_pow ⟨by decide, by decide, by decide⟩ ?_
    refine r_lt ?_
    repeat walk_at "w1"
    have hn0 : (0 : Int) ≤ (cell.natAbs : Int) := Int.natCast_nonneg _
    have hb : ∃ n : Nat, n ≤ 1048577 ∧ (cell.natAbs : Int).natAbs < 2 ^ n := hc
    generalize (10 : Int) ^ (18 : Int).toNat = B1
    generalize (cell.natAbs : Int) = num at *
    refine w_ite (fun _ => ?_) (fun _ => ?_)
    · repeat walk_at "w1"
      exact ret 0 (Int.le_refl 0)
    · repeat walk_at "w1"
      refine r_shr (by decide) ?_
      repeat walk_at "w1"
      refine r_gt ?_
      repeat walk_at "w1"
      refine w_ite (fun _ => ?_) (fun _ => ?_)
      · repeat walk_at "w1"
        refine r_shr (by decide) ?_
        repeat walk_at "w1"
        refine r_shl (shl_of (j := 4000) (by decide) hn0 hb _) ?_
        refine r_subI ?_
        repeat walk_at "w1"
        refine ret _ ?_
        have h4 : (4000 : Int).toNat = ((4000 : Nat) : Int).toNat := rfl
        generalize (4000 : Int).toNat = m at *
        rw [← h4]
        have h5 : num / 2 ^ m * 2 ^ m ≤ num := Int.ediv_mul_le num (Int.ne_of_gt (Int.pow_pos (by decide)))
        exact Int.sub_nonneg_of_le h5
      · repeat walk_at "w1"
        exact ret _ hn0
  refine w_cut (M := fun σ' H' => ∃ cell : Int, σ' = [some (.ref a), some (.int i), some (.int cell), none, none, none] ∧ H' = H ∧ ∃ n : Nat, n ≤ 1048577 ∧ cell.natAbs < 2 ^ n) ?_ ?_
  · walk_at "w"
    by_cases c : i < ns.length
    · walk_at "w"
      have hm : gI ns i ∈ ns := by
        unfold gI
        rw [List.getD_eq_getElem?_getD, List.getElem?_eq_getElem (show i.toNat < ns.length by omega)]
        exact List.getElem_mem _
      exact ⟨_, rfl, rfl, bits_abs (hb _ hm)⟩
    · walk_at "w"
      exact ⟨_, rfl, rfl, 10, by omega, by omega⟩
  rintro σ' H' ⟨cell, rfl, rfl, hc⟩
  walk_at "w"
  refine i_seqL ?_
  walk_at "w"
  intro p H1 n1 e1 h1
  walk_at "w"
  refine for_list (xs := vI (ns.take 2)) (Pv := fun _ σ' H2 => ∃ (sd : Int) (v : Option V), σ' = [some (.ref a), some (.int i), some (.int cell), some (.int sd), v, none] ∧ 0 ≤ sd ∧ sd < 2147483629 ∧ H2 = H1) ⟨_, _, rfl, Int.emod_nonneg _ (by decide), Int.emod_lt_of_pos _ (by decide), rfl⟩ (fun _ _ H2 _ q => by obtain ⟨_, _, _, _, _, rfl⟩ := q; exact sq_of h1) ?_ ?_
  · rintro j x σ' H2 hx ⟨sd, v, rfl, g0, g1, rfl⟩
    obtain ⟨z, _, rfl⟩ := List.mem_map.mp (List.mem_of_getElem? hx)
    walk_at "w"
    exact ⟨_, _, rfl, Int.emod_nonneg _ (by decide), Int.emod_lt_of_pos _ (by decide), rfl⟩
  · rintro σ' H2 ⟨sd, v, rfl, g0, g1, rfl⟩
    exact fin cell sd H2 v e1 hc g0 g1

end
section
/-- small letters -/
def lwr (c : Nat) : Bool := decide (97 ≤ c) && decide (c ≤ 122)
def wordD (lo hi : Int) : PyData → Bool
  | .str w => (decide (lo ≤ w.length) && decide ((w.length : Int) ≤ hi)) && w.cps.toList.all lwr
  | _ => false
theorem wordD_str {lo hi : Int} {w : Str} : wordD lo hi (.str w) = ((decide (lo ≤ w.length) && decide ((w.length : Int) ≤ hi)) && w.cps.toList.all lwr) := rfl
theorem w_contn {D : Ends} {σ : L2.St} {H : Hp} (h : D.ct σ H) : tCont D σ H := h
theorem r_eqSS {K : PySem.W.Frag} {x y : Str} {H : Hp} {Q : VK} (h : Q (.bl (decide (x = y))) H) : rEqU K (.str x) (.str y) H Q := .inl ⟨rfl, by
  rw [show decide (V.str x = V.str y) = decide (x = y) from decide_eq_decide.mpr ⟨V.str.inj, congrArg _⟩]
  exact h⟩
theorem le_a {c : Nat} : (!decide ((⟨#[c]⟩ : Str).cps.toList < ("a" : Str).cps.toList)) = decide (97 ≤ c) := by
  rw [show ("a" : Str).cps.toList = [97] by decide +kernel]
  show (!decide ([c] < [97])) = _
  by_cases h : 97 ≤ c
  · rw [decide_eq_true h, decide_eq_false]
    · rfl
    · intro q
      rcases List.cons_lt_cons_iff.mp q with q | ⟨_, q⟩
      · omega
      · cases q
  · rw [decide_eq_false h, decide_eq_true]
    · rfl
    · exact List.cons_lt_cons_iff.mpr (.inl (by omega))
theorem le_z {c : Nat} : (!decide (("z" : Str).cps.toList < (⟨#[c]⟩ : Str).cps.toList)) = decide (c ≤ 122) := by
  rw [show ("z" : Str).cps.toList = [122] by decide +kernel]
  show (!decide ([122] < [c])) = _
  by_cases h : c ≤ 122
  · rw [decide_eq_true h, decide_eq_false]
    · rfl
    · intro q
      rcases List.cons_lt_cons_iff.mp q with q | ⟨_, q⟩
      · omega
      · cases q
  · rw [decide_eq_false h, decide_eq_true]
    · rfl
    · exact List.cons_lt_cons_iff.mpr (.inl (by omega))
/-- a for over enumerate(text) -/
theorem for_enumS {x : Str} {g : TG} {tb : TS} {D : Ends} {σ : L2.St} {H : Hp} (Pv : Nat → L2.St → Hp → Prop) (h0 : Pv 0 σ H)
    (hs : ∀ i c σ H T, x.cps.toList[i]? = some c → Pv i σ H → H T = none → g (.ref T) σ (upd H T (.tup [.int (i : Nat), .str ⟨#[c]⟩])) fun σ2 H2 => tb { D with nx := Pv (i + 1), ct := Pv (i + 1), bk := D.nx } σ2 H2) (hd : ∀ σ H, Pv x.cps.toList.length σ H → D.nx σ H) : ForJ (Ites x) g tb D σ H := by
  have hsz : x.cps.toList.length = x.cps.size := Array.length_toList
  refine for_it (J := Ites x) (n := x.cps.size) (G := fun _ => True) (Y := fun i H v H' => ∃ T c, v = .ref T ∧ H T = none ∧ H' = upd H T (.tup [.int (i : Nat), .str ⟨#[c]⟩]) ∧ x.cps[i]? = some c) ⟨fun _ _ hi _ => hi, fun _ _ => Nat.le_refl _, fun _ _ _ _ _ _ y => y⟩ Pv h0 (fun _ _ _ _ _ => trivial) ?_ ?_
  · rintro i v σ H H' hi p ⟨T, c, rfl, hT, rfl, hc⟩
    exact hs i c σ H T (by rw [Array.getElem?_toList]; exact hc) p hT
  · intro σ H p
    exact hd σ H (by rw [hsz]; exact p)
theorem i_enumS {ta : TA} {σ : L2.St} {H : Hp} {R : It → Hp → Prop} (h : ta σ H fun vs H1 => ∃ x, vs = [.str x] ∧ R (Ites x) H1) : iEnumS ta σ H R := h
abbrev N_is_word : List Str := ["thing", "least", "most", "digits", "place", "sign"]
theorem sc_is_word : FnScope N_is_word ["thing", "least", "most", "digits"] (defScope s_is_word) := ⟨rfl, rfl, rfl, by decide +kernel, rfl, by decide +kernel, by decide +kernel⟩
theorem fx_is_word {P : Program} {w : World} {K : PySem.W.Frag} {mg : Str → Option Value} {base : Heap} (E : Env P K mg) : ∃ fd, FunD K "is_word" "is_word" (defArgs s_is_word) (defBody s_is_word) (defScope s_is_word) (d_is_word.dvs K) [] (d_is_word.adr K) fd ∧ FnOk P w K mg base CX0 1 (d_is_word.adr K) fd ["thing", "least", "most", "digits"] (sp4 fun v a b c H Q _ => ∃ (d : PyData) (lo hi : Int), Dp K H v d ∧ a = .int lo ∧ b = .int hi ∧ c = .bl false ∧ hi ≤ 100 ∧ (∀ w, d = .str w → w.length ≤ 100000) ∧ ∀ H', Ex H H' → Q (.bl (wordD lo hi d)) H') := by
  obtain ⟨fd, F⟩ := E.dd_is_word
  refine ⟨fd, F, fnok0 F sc_is_word sp4_len (fun cdv A outer s H vs Q X hr h => ?_)⟩
  have nd := sc_is_word.nd
  obtain ⟨v0, v1, v2, v3, rfl, h⟩ := h
  refine ⟨_, (pss_cons (ps_if (PW.pt (pw_or (pt_not (kTru K (pe_callB (kIsi K) (by rfl) E.f_isinstance (by decide +kernel) (pa_cons (pv 0) (pa_cons (pe_bltn (v := .ty "str") (by rfl) E.f_str (by decide +kernel) rfl) pa_nil))) (by intro _; rfl))) (pw_or1 (pt_not (pt_chain xLeS xLeS (pv 1) (pe_callB xLenS (by rfl) E.f_len (by decide +kernel) (pa_cons (pv 0) pa_nil)) (pv 2))))))
   (pss_one (ps_ret (pe_bl)))
   pss_nil)
  (pss_cons (ps_for PassesOwn.never rfl (pi_enumS (by rfl) E.f_enumerate (pa_cons (pv 0) pa_nil)) (kGtup K rfl (pgs_cons (pg_name (i := 4) nd rfl (.inl rfl)) (pgs_cons (pg_name (i := 5) nd rfl (.inl rfl)) (pgs_nil))))
   (pss_cons (ps_if (pt_chain xLeS xLeS (pe_str) (pv 5) (pe_str))
   (pss_one (ps_continue))
   pss_nil)
  (pss_one (ps_if (PW.pt (pw_or (pt_not (kTru K (pv 3) (by intro _; rfl))) (pw_or (pt_cmpR (kEq K hr) (pv 4) (pe_int) (nomark _)) (pw_or1 (pt_not (pt_chain xLeS xLeS (pe_str) (pv 5) (pe_str)))))))
   (pss_one (ps_ret (pe_bl)))
   pss_nil))))
  (pss_one (ps_ret (pe_bl))))), ?_⟩
  change (_ : TS) _ [some v0, some v1, some v2, some v3, none, none] H
  try dsimp only [cxOf, Cx.nox, Cx.blk]
  obtain ⟨d, lo, hi, dv, rfl, rfl, rfl, hh, zw, k⟩ := h
  cases dv with
  | str w =>
    have wl := zw w rfl
    have lz : w.length ≤ sizeLine := sz_of (by omega)
    walk_at "w"
    refine r_lenS lz ?_
    walk_at "w"
    refine r_leUI ?_
    by_cases c1 : lo ≤ w.length
    · walk_at "w"
      refine r_leUI ?_
      by_cases c2 : (w.length : Int) ≤ hi
      · walk_at "w"
        refine i_enumS ?_
        walk_at "w"
        refine ⟨w, rfl, ?_⟩
        refine for_enumS (Pv := fun i σ' H' => ∃ x y : Option V, σ' = [some (.str w), some (.int lo), some (.int hi), some (.bl false), x, y] ∧ Ex H H' ∧ ∀ j, j < i → ∀ c, w.cps.toList[j]? = some c → lwr c = true) ⟨_, _, rfl, Ex.refl _, fun j hj => by omega⟩ ?_ ?_
        · rintro i c σ' H' T hc ⟨x, y, rfl, e, hw⟩ hT
          have e' : Ex H (upd H' T (.tup [.int (i : Nat), .str ⟨#[c]⟩])) := e.trans (Ex.new hT)
          have st : SqT K (upd H' T (.tup [.int (i : Nat), .str ⟨#[c]⟩])) T [.int (i : Nat), .str ⟨#[c]⟩] := st_of upd_same
          walk_at "w"
          refine r_leUS ?_
          rw [le_a]
          have off : lwr c = false → Q (.bl false) (upd H' T (.tup [.int (i : Nat), .str ⟨#[c]⟩])) := fun hl => by
            have := k _ e'
            have e2 : wordD lo hi (.str w) = false := by
              rw [wordD_str]
              rw [Bool.and_eq_false_iff]
              right
              rw [Bool.eq_false_iff]
              intro h
              rw [List.all_eq_true.mp h c (List.mem_of_getElem? hc)] at hl
              cases hl
            rwa [e2] at this
          by_cases c3 : 97 ≤ c
          · walk_at "w"
            refine r_leUS ?_
            rw [le_z]
            by_cases c4 : c ≤ 122
            · walk_at "w"
              refine w_contn ?_
              refine ⟨_, _, rfl, e', fun j hj c' hc' => ?_⟩
              by_cases q : j = i
              · subst q
                rw [hc] at hc'
                cases hc'
                unfold lwr
                rw [decide_eq_true c3, decide_eq_true c4]
                rfl
              · exact hw j (by omega) c' hc'
            · walk_at "w"
              exact off (by unfold lwr; rw [decide_eq_false c4, Bool.and_false])
          · walk_at "w"
            exact off (by unfold lwr; rw [decide_eq_false c3, Bool.false_and])
        · rintro σ' H' ⟨x, y, rfl, e, hw⟩
          walk_at "w"
          have := k _ e
          have e2 : wordD lo hi (.str w) = true := by
            rw [wordD_str]
            rw [decide_eq_true c1, decide_eq_true c2, Bool.true_and, Bool.true_and, List.all_eq_true]
            intro c hc
            obtain ⟨j, hj, rfl⟩ := List.getElem_of_mem hc
            exact hw j hj _ (List.getElem?_eq_getElem hj)
          rwa [e2] at this
      · walk_at "w"
        have := k _ (Ex.refl _)
        have e2 : wordD lo hi (.str w) = false := by rw [wordD_str, decide_eq_false c2, Bool.and_false, Bool.false_and]
        rwa [e2] at this
    · walk_at "w"
      have := k _ (Ex.refl _)
      have e2 : wordD lo hi (.str w) = false := by rw [wordD_str, decide_eq_false c1, Bool.false_and, Bool.false_and]
      rwa [e2] at this
  | non => walk_at "w"; exact k _ (Ex.refl _)
  | bl b => walk_at "w"; exact k _ (Ex.refl _)
  | int i => walk_at "w"; exact k _ (Ex.refl _)
  | lst s q => walk_at "w"; exact k _ (Ex.refl _)
  | tup s q => walk_at "w"; exact k _ (Ex.refl _)
theorem ok_is_word3 {P : Program} {w : World} {K : PySem.W.Frag} {mg : Str → Option Value} {base : Heap} (E : Env P K mg) : FnD P w K mg base CX0 1 "is_word" (sp4 fun v a b c H Q _ => ∃ (d : PyData) (lo hi : Int), Dp K H v d ∧ a = .int lo ∧ b = .int hi ∧ c = .bl false ∧ hi ≤ 100 ∧ (∀ w, d = .str w → w.length ≤ 100000) ∧ ∀ H', Ex H H' → Q (.bl (wordD lo hi d)) H') [.bl false] := by
  obtain ⟨fd, F, k⟩ := fx_is_word (P := P) (w := w) (base := base) E
  obtain ⟨ds, hd, hb⟩ := F.binds1 (ps := ["thing", "least", "most", "digits"]) 3 0 (List.cons_ne_nil _ _) rfl (fun T kV doc pm an cdv ct us its hu hi => match us, its, hu, hi with | [_, _, _], [_], _, _ => ⟨_, rfl, rfl⟩)
  exact ⟨_, fd, _, ds, k, E.g_is_word, F.kp, hb, hd⟩


end
section
/-- whether a value is a row's name -/
def wordV : V → Bool
  | .str w => (decide (1 ≤ (w.length : Int)) && decide ((w.length : Int) ≤ 8)) && w.cps.toList.all lwr
  | _ => false
theorem wordV_D {K : PySem.W.Frag} {H : Hp} {v : V} {d : PyData} (h : Dp K H v d) : wordD 1 8 d = wordV v := by cases h <;> rfl
/-- data whose own text is no long one -/
def SmS (d : PyData) : Prop := ∀ w, d = .str w → w.length ≤ 100000
abbrev N_is_row_name : List Str := ["thing"]
theorem sc_is_row_name : FnScope N_is_row_name ["thing"] (defScope s_is_row_name) := ⟨rfl, rfl, rfl, by decide +kernel, rfl, by decide +kernel, by decide +kernel⟩
theorem ok_is_row_name {P : Program} {w : World} {K : PySem.W.Frag} {mg : Str → Option Value} {base : Heap} (E : Env P K mg) : Fn P w K mg base CX0 2 "is_row_name" (sp1 fun v H Q _ => ∃ d, Dp K H v d ∧ SmS d ∧ ∀ H', Ex H H' → Q (.bl (wordV v)) H') := by
  obtain ⟨fd, F⟩ := E.dd_is_row_name
  refine Fn.mk0 F E.g_is_row_name sc_is_row_name sp1_len (fun _ _ _ _ _ _ us hl => match us, hl with | [_], _ => rfl) (fun cdv A outer s H vs Q X hr h => ?_)
  have nd := sc_is_row_name.nd
  obtain ⟨v0, rfl, h⟩ := h
  refine ⟨_, (pss_one (ps_ret (pcD (ok_is_word3 E) hr (by decide) pass0 rfl (pa_cons (pv 0) (pa_cons (pe_int) (pa_cons (pe_int) pa_nil)))))), ?_⟩
  change (_ : TS) _ [some v0] H
  try dsimp only [cxOf, Cx.nox, Cx.blk]
  obtain ⟨d, hd, sm, k⟩ := h
  walk_at "w"
  refine w_callD ?_
  walk_at "w"
  refine ⟨_, _, _, _, rfl, d, 1, 8, hd, rfl, rfl, rfl, by decide, sm, fun H' e => ?_⟩
  rw [wordV_D hd]
  exact k _ e
/-- names, or no tuple or list of names -/
def NmL (K : PySem.W.Frag) (H : Hp) (v : V) (b : Bool) : Prop := (∃ a xs, v = .ref a ∧ (SqT K H a xs ∨ SqL K H a xs) ∧ xs.length ≤ 100000 ∧ (∀ x ∈ xs, ∃ d, Dp K H x d ∧ SmS d) ∧ b = xs.all wordV) ∨ (b = false ∧ ∃ d, DpX K H v d ∧ dIsSeq d = false)
theorem dpX_seqT {K : PySem.W.Frag} {H : Hp} : ∀ {xs : List V}, (∀ x ∈ xs, ∃ d, Dp K H x d ∧ SmS d) → ∃ ds, DpAll K H xs ds
  | [], _ => ⟨[], .nil⟩
  | x :: xs, h => by
    obtain ⟨d, hd, _⟩ := h x List.mem_cons_self
    obtain ⟨ds, hs⟩ := dpX_seqT fun y hy => h y (List.mem_cons_of_mem _ hy)
    exact ⟨d :: ds, .cons hd hs⟩

end
section
theorem putF_len (f : Str) (y : V) : ∀ fs : List (Str × V), (putF f y fs).length ≤ fs.length + 1
  | [] => Nat.le_refl _
  | (g, v) :: r => by
    show (if g = f then (g, y) :: r else (g, v) :: putF f y r).length ≤ _
    split
    · exact Nat.le_succ _
    · exact Nat.succ_le_succ (putF_len f y r)

end
section
/-- deeds: none gives, some i takes at i -/
abbrev Dd := Option Int
def gV : Dd → V
  | none => .str "give"
  | some i => .int i
def gD : Dd → PyData
  | none => .str "give"
  | some i => .int i
def okD (k : Int) (d : Dd) : Prop := ∀ i, d = some i → 0 ≤ i ∧ i < k
section
variable {K : PySem.W.Frag} {H H' : Hp} {v : V} {a b : Addr} {Q : VK} {xs : List V}
theorem gV_inj {d e : Dd} : gV d = gV e ↔ d = e := by cases d <;> cases e <;> simp [gV]
theorem gV_scal (d e : Dd) : scal (gV d) (gV e) = true := by cases d <;> cases e <;> rfl
theorem r_eqG {d e : Dd} (h : Q (.bl (decide (d = e))) H) : rEqU K (gV d) (gV e) H Q := .inl ⟨gV_scal d e, by
  rw [show decide (gV d = gV e) = decide (d = e) from decide_eq_decide.mpr gV_inj]
  exact h⟩
theorem r_eqGive {d : Dd} (h : Q (.bl (decide (d = none))) H) : rEqU K (gV d) (.str "give") H Q := r_eqG (e := none) h
theorem r_eqTake {d : Dd} {i : Int} (h : Q (.bl (decide (d = some i))) H) : rEqU K (gV d) (.int i) H Q := r_eqG (e := some i) h
theorem dp_gD (d : Dd) : Dp K H (gV d) (gD d) := by
  cases d
  · exact .str _
  · exact .int _
theorem dpAll_gD : ∀ {w : List Dd}, DpAll K H (w.map gV) (w.map gD)
  | [] => .nil
  | d :: _ => .cons (dp_gD d) dpAll_gD
theorem dpAll_toG : ∀ {w : List Dd} {vs : List V}, DpAll K H vs (w.map gD) → vs = w.map gV
  | [], _, .nil => rfl
  | none :: _, _, .cons (.str _) r => by rw [dpAll_toG r]; rfl
  | some i :: _, _, .cons (.int _) r => by rw [dpAll_toG r]; rfl
def dW (w : List Dd) : PyData := .tuple (w.map gD)
theorem dp_dW {w : List Dd} (h : Dp K H v (dW w)) : ∃ a, v = .ref a ∧ SqT K H a (w.map gV) := by
  unfold dW at h
  cases h with
  | tup h a => rw [dpAll_toG a] at h; exact ⟨_, rfl, h⟩
theorem dp_of_dW {w : List Dd} (h : SqT K H a (w.map gV)) : Dp K H (.ref a) (dW w) := .tup h dpAll_gD
theorem shpAll_gD {n : Nat} : ∀ w : List Dd, shpAll n (w.map gD) = true
  | [] => by cases n <;> (unfold shpAll; rfl)
  | d :: w => by
    rw [List.map_cons]
    unfold shpAll
    rw [shpAll_gD w]
    cases d <;> cases n <;> rfl
theorem dDeep_gD (w : List Dd) : dDeepAll (w.map gD) = w.map gD := by
  rw [dDeepAll_eq, List.map_map]
  congr 1
  funext d
  cases d <;> rfl
/-- a seq of deeds as data -/
theorem sqE_d {w : List Dd} (h : SqE K H a (w.map gV)) (z : w.length ≤ 50000) : ∃ d, Dp K H (.ref a) d ∧ dIsSeq d = true ∧ dDeep d = dW w ∧ ∀ n, shp (n + 1) d = true := by
  have zz : decide ((w.map gD).length ≤ 50000) = true := by rw [List.length_map, decide_eq_true z]
  rcases h with h | h
  · refine ⟨.list (w.map gD), .lst h dpAll_gD, rfl, by show PyData.tuple (dDeepAll (w.map gD)) = _; rw [dDeep_gD]; rfl, fun n => ?_⟩
    show (decide ((w.map gD).length ≤ 50000) && shpAll n (w.map gD)) = true
    rw [zz, shpAll_gD]
    rfl
  · refine ⟨.tuple (w.map gD), .tup h dpAll_gD, rfl, by show PyData.tuple (dDeepAll (w.map gD)) = _; rw [dDeep_gD]; rfl, fun n => ?_⟩
    show (decide ((w.map gD).length ≤ 50000) && shpAll n (w.map gD)) = true
    rw [zz, shpAll_gD]
    rfl
/-- rows of deeds -/
def WsAt (K : PySem.W.Frag) (H : Hp) : List V → List (List Dd) → Prop
  | [], [] => True
  | x :: xs, w :: ws => (∃ p, x = .ref p ∧ SqE K H p (w.map gV)) ∧ WsAt K H xs ws
  | _, _ => False
theorem ws_len : ∀ {xs : List V} {ws : List (List Dd)}, WsAt K H xs ws → xs.length = ws.length
  | [], [], _ => rfl
  | _ :: _, _ :: _, h => congrArg Nat.succ (ws_len h.2)
  | [], _ :: _, h => h.elim
  | _ :: _, [], h => h.elim
theorem ws_ex (e : Ex H H') : ∀ {xs : List V} {ws : List (List Dd)}, WsAt K H xs ws → WsAt K H' xs ws
  | [], [], _ => trivial
  | _ :: _, _ :: _, h => ⟨let ⟨p, e1, s⟩ := h.1; ⟨p, e1, ex_e e s⟩, ws_ex e h.2⟩
  | [], _ :: _, h => h.elim
  | _ :: _, [], h => h.elim
theorem ws_get : ∀ {xs : List V} {ws : List (List Dd)} {i : Nat} {x : V}, WsAt K H xs ws → xs[i]? = some x → ∃ p w, x = .ref p ∧ ws[i]? = some w ∧ SqE K H p (w.map gV)
  | [], [], _, _, _, e => by simp at e
  | _ :: _, w :: _, 0, _, h, e => by
    obtain ⟨p, e1, s⟩ := h.1
    simp at e
    subst e
    exact ⟨p, w, e1, rfl, s⟩
  | _ :: _, _ :: _, i + 1, x, h, e => by
    obtain ⟨p, w, e1, e2, s⟩ := ws_get (i := i) (x := x) h.2 (by simpa using e)
    exact ⟨p, w, e1, by simpa using e2, s⟩
  | [], _ :: _, _, _, h, _ => h.elim
  | _ :: _, [], _, _, h, _ => h.elim
theorem ws_mem {xs : List V} {ws : List (List Dd)} {x : V} (h : WsAt K H xs ws) (hx : x ∈ xs) : ∃ p w, x = .ref p ∧ w ∈ ws ∧ SqE K H p (w.map gV) := by
  obtain ⟨i, hi⟩ := List.getElem?_of_mem hx
  obtain ⟨p, w, e1, e2, s⟩ := ws_get h hi
  exact ⟨p, w, e1, List.mem_of_getElem? e2, s⟩
theorem ws_of : ∀ {xs : List V} {ws : List (List Dd)}, DpAll K H xs (ws.map dW) → WsAt K H xs ws
  | _, [], .nil => trivial
  | _, _ :: _, .cons a r => ⟨let ⟨p, e, s⟩ := dp_dW a; ⟨p, e, .inr s⟩, ws_of r⟩
/-- rows as data -/
theorem ws_d : ∀ {xs : List V} {ws : List (List Dd)}, WsAt K H xs ws → (∀ w ∈ ws, w.length ≤ 50000) → ∃ ds, DpAll K H xs ds ∧ dDeepAll ds = ws.map dW ∧ (∀ n, shpAll (n + 1) ds = true) ∧ ds.length = ws.length
  | [], [], _, _ => ⟨[], .nil, rfl, fun n => (by unfold shpAll; rfl), rfl⟩
  | x :: xs, w :: ws, h, z => by
    obtain ⟨⟨p, rfl, s⟩, h2⟩ := h
    obtain ⟨d, h1, _, h3, h4⟩ := sqE_d s (z w List.mem_cons_self)
    obtain ⟨ds, g1, g2, g3, g4⟩ := ws_d h2 fun u hu => z u (List.mem_cons_of_mem _ hu)
    refine ⟨d :: ds, .cons h1 g1, ?_, fun n => ?_, congrArg Nat.succ g4⟩
    · show dDeep d :: dDeepAll ds = _
      rw [h3, g2]
      rfl
    · unfold shpAll
      rw [h4, g3]
      rfl
  | [], _ :: _, h, _ => h.elim
  | _ :: _, [], h, _ => h.elim
theorem sqW_d {ws : List (List Dd)} (h : SqE K H a xs) (hw : WsAt K H xs ws) (z : ∀ w ∈ ws, w.length ≤ 50000) (zz : ws.length ≤ 50000) : ∃ d, Dp K H (.ref a) d ∧ dIsSeq d = true ∧ dDeep d = .tuple (ws.map dW) ∧ shp 6 d = true := by
  obtain ⟨ds, g1, g2, g3, g4⟩ := ws_d hw z
  have z2 : decide (ds.length ≤ 50000) = true := decide_eq_true (by omega)
  rcases h with h | h
  · refine ⟨.list ds, .lst h g1, rfl, by show PyData.tuple (dDeepAll ds) = _; rw [g2], ?_⟩
    show (decide (ds.length ≤ 50000) && shpAll 5 ds) = true
    rw [z2, g3]
    rfl
  · refine ⟨.tuple ds, .tup h g1, rfl, by show PyData.tuple (dDeepAll ds) = _; rw [g2], ?_⟩
    show (decide (ds.length ≤ 50000) && shpAll 5 ds) = true
    rw [z2, g3]
    rfl
end
abbrev N_is_deed : List Str := ["inlets", "thing"]
theorem sc_is_deed : FnScope N_is_deed ["inlets", "thing"] (defScope s_is_deed) := ⟨rfl, rfl, rfl, by decide +kernel, rfl, by decide +kernel, by decide +kernel⟩
theorem ok_is_deed {P : Program} {w : World} {K : PySem.W.Frag} {mg : Str → Option Value} {base : Heap} (E : Env P K mg) : Fn P w K mg base CX0 2 "is_deed" (sp2 fun a v H Q _ => ∃ (k : Int) (d : Dd), a = .int k ∧ v = gV d ∧ okD k d ∧ ∀ H', Ex H H' → Q (.bl true) H') := by
  obtain ⟨fd, F⟩ := E.dd_is_deed
  refine Fn.mk0 F E.g_is_deed sc_is_deed sp2_len (fun _ _ _ _ _ _ us hl => match us, hl with | [_, _], _ => rfl) (fun cdv A outer s H vs Q X hr h => ?_)
  have nd := sc_is_deed.nd
  obtain ⟨v0, v1, rfl, h⟩ := h
  refine ⟨_, (pss_cons (ps_if (kTru K (pe_callB (kIsi K) (by rfl) E.f_isinstance (by decide +kernel) (pa_cons (pv 1) (pa_cons (pe_bltn (v := .ty "str") (by rfl) E.f_str (by decide +kernel) rfl) pa_nil))) (by intro _; rfl))
   (pss_one (ps_ret (pe_cmpR (kEq K hr) (pv 1) ((E.k_GIVE).elim fun t e => pe_glob (v := .str "give") (by rfl) e ⟨t, rfl⟩) (nomark _))))
   pss_nil)
  (pss_one (ps_ret (pe_and (pc (ok_is_integer E) hr (by decide) pass0 rfl (pa_cons (pv 1) pa_nil)) (pe_one (pe_chain op_le op_lt (pe_int) (pv 1) (pv 0))))))), ?_⟩
  change (_ : TS) _ [some v0, some v1] H
  try dsimp only [cxOf, Cx.nox, Cx.blk]
  obtain ⟨k0, d, rfl, rfl, ok, k⟩ := h
  cases d with
  | none =>
    simp only [gV]
    walk_at "w"
    refine r_eqSS ?_
    exact k _ (Ex.refl _)
  | some i =>
    obtain ⟨o1, o2⟩ := ok i rfl
    simp only [gV]
    walk_at "w"
    refine ⟨.int i, .int i, fun v H1 e1 d1 => ?_⟩
    obtain rfl := dp_toBl d1
    walk_at "w"
    rw [decide_eq_true o2]
    exact k _ e1
abbrev N_is_deeds : List Str := ["inlets", "thing", "one"]
theorem sc_is_deeds : FnScope N_is_deeds ["inlets", "thing"] (defScope s_is_deeds) := ⟨rfl, rfl, rfl, by decide +kernel, rfl, by decide +kernel, by decide +kernel⟩
theorem ok_is_deeds {P : Program} {w : World} {K : PySem.W.Frag} {mg : Str → Option Value} {base : Heap} (E : Env P K mg) : Fn P w K mg base CX0 3 "is_deeds" (sp2 fun a v H Q _ => ∃ (k : Int) (p : Addr) (b : List Dd), a = .int k ∧ v = .ref p ∧ SqE K H p (b.map gV) ∧ b.length ≤ 50000 ∧ (∀ d ∈ b, okD k d) ∧ ∀ H', Ex H H' → Q (.bl true) H') := by
  obtain ⟨fd, F⟩ := E.dd_is_deeds
  refine Fn.mk0 F E.g_is_deeds sc_is_deeds sp2_len (fun _ _ _ _ _ _ us hl => match us, hl with | [_, _], _ => rfl) (fun cdv A outer s H vs Q X hr h => ?_)
  have nd := sc_is_deeds.nd
  obtain ⟨v0, v1, rfl, h⟩ := h
  refine ⟨_, (pss_one (ps_ret (pe_and (pc (ok_is_listed E) hr (by decide) pass0 rfl (pa_cons (pv 1) pa_nil)) (pe_one (pe_callB (kAll K rfl) (by rfl) E.f_all (by decide +kernel) (pa_cons (pe_lc (own := [("one", 2)]) (g := gName 2) (tt := tYes) rfl nd (kSeq K (pv 1)) (blkOk_by (N := N_is_deeds) (sc := defScope s_is_deeds) (by decide +kernel)) (fun _ _ _ _ _ => pg_name (i := 2) nd rfl (Or.inl rfl)) (fun _ _ _ _ _ => pts_nil) (fun _ _ _ _ _ => pc (ok_is_deed E) hr (by decide) pass0 rfl (pa_cons (pv 0) (pa_cons (pv 2) pa_nil)))) pa_nil)))))), ?_⟩
  change (_ : TS) _ [some v0, some v1, none] H
  try dsimp only [cxOf, Cx.nox, Cx.blk]
  obtain ⟨k0, p, b, rfl, rfl, s, z, ok, k⟩ := h
  obtain ⟨d, hd, hq, _, _⟩ := sqE_d s z
  walk_at "w"
  refine ⟨d, .inl hd, fun v H1 e1 d1 => ?_⟩
  rw [hq] at d1
  obtain rfl := dp_toBl d1
  walk_at "w"
  have key : ∀ (x : V) (H2 : Hp) (Q' : VK), x ∈ b.map gV → (∀ H3, Ex H2 H3 → Q' (.bl true) H3) → ∃ (k : Int) (d : Dd), V.int k0 = .int k ∧ x = gV d ∧ okD k d ∧ ∀ H', Ex H2 H' → Q' (.bl true) H' := fun x H2 Q' hx hq => by
    obtain ⟨d, hd, rfl⟩ := List.mem_map.mp hx
    exact ⟨k0, d, rfl, rfl, ok d hd, hq⟩
  have fin : ∀ (p : Addr) (H2 : Hp), Ex H H2 → H2 p = some (.lst ((b.map gV).map fun _ => V.bl true)) → rAll K [.ref p] H2 (fun v H => Q v H) := fun p H2 e2 hp => by
    refine r_all (bs := (b.map gV).map fun _ => true) (sq_of hp) (by simp [Function.comp]) ?_
    rw [show ((b.map gV).map fun _ => true).all id = true by simp]
    exact k _ e2
  rcases s with s | s
  · refine i_seqL ?_
    walk_at "w"
    refine lcJ_list (v := fun _ => .bl true) (ex_l e1 s) (by rw [List.length_map]; omega) (fun x => [_, _, some x]) (fun x => rfl) (fun x => rfl) (fun x H2 Q' e2 hx hq => ?_) (fun p H2 n2 e2 hp => ?_)
    · walk_at "w"
      exact key x H2 Q' hx hq
    · walk_at "w"
      exact fin p H2 (e1.trans e2) hp
  · refine i_seqT ?_
    walk_at "w"
    refine lcJ_tup (v := fun _ => .bl true) (ex_t e1 s) (by rw [List.length_map]; omega) (fun x => [_, _, some x]) (fun x => rfl) (fun x => rfl) (fun x H2 Q' e2 hx hq => ?_) (fun p H2 n2 e2 hp => ?_)
    · walk_at "w"
      exact key x H2 Q' hx hq
    · walk_at "w"
      exact fin p H2 (e1.trans e2) hp
theorem r_lenE {K : PySem.W.Frag} {H : Hp} {Q : VK} {a : Addr} {xs : List V} (h : SqE K H a xs) (q : Q (.int (xs.length : Int)) H) : rLenU K [.ref a] H Q := h.elim (fun h => r_lenL h q) (fun h => r_lenT h q)
theorem r_ixE {K : PySem.W.Frag} {H : Hp} {Q : VK} {a : Addr} {xs : List V} {i : Int} {v : V} (h : SqE K H a xs) (ha : atI xs i = some v) (q : Q v H) : rIx K (.ref a) (.int i) H Q := h.elim (fun h => r_ixL h ha q) (fun h => r_ixT h ha q)
abbrev N_is_ways : List Str := ["inlets", "thing", "one"]
theorem sc_is_ways : FnScope N_is_ways ["inlets", "thing"] (defScope s_is_ways) := ⟨rfl, rfl, rfl, by decide +kernel, rfl, by decide +kernel, by decide +kernel⟩
theorem ok_is_ways {P : Program} {w : World} {K : PySem.W.Frag} {mg : Str → Option Value} {base : Heap} (E : Env P K mg) : Fn P w K mg base CX0 4 "is_ways" (sp2 fun a v H Q _ => ∃ (k : Int) (p : Addr) (xs : List V) (ws : List (List Dd)), a = .int k ∧ v = .ref p ∧ SqE K H p xs ∧ WsAt K H xs ws ∧ 1 ≤ ws.length ∧ ws.length ≤ 4 ∧ (∀ w ∈ ws, w ≠ [] ∧ w.length ≤ 50000 ∧ ∀ d ∈ w, okD k d) ∧ ∀ H', Ex H H' → Q (.bl true) H') := by
  obtain ⟨fd, F⟩ := E.dd_is_ways
  refine Fn.mk0 F E.g_is_ways sc_is_ways sp2_len (fun _ _ _ _ _ _ us hl => match us, hl with | [_, _], _ => rfl) (fun cdv A outer s H vs Q X hr h => ?_)
  have nd := sc_is_ways.nd
  obtain ⟨v0, v1, rfl, h⟩ := h
  refine ⟨_, (pss_cons (ps_if (PW.pt (pw_or (pt_not (kTru K (pc (ok_is_listed E) hr (by decide) pass0 rfl (pa_cons (pv 1) pa_nil)) (by intro _; rfl))) (pw_or1 (pt_not (pt_chain op_le op_le (pe_int) (pe_callB (kLen K) (by rfl) E.f_len (by decide +kernel) (pa_cons (pv 1) pa_nil)) ((E.k_MOST_WAYS).elim fun t e => pe_glob (v := .int 4) (by rfl) e ⟨t, rfl⟩))))))
   (pss_one (ps_ret (pe_bl)))
   pss_nil)
  (pss_one (ps_ret (pe_callB (kAll K rfl) (by rfl) E.f_all (by decide +kernel) (pa_cons (pe_lc (own := [("one", 2)]) (g := gName 2) (tt := tYes) rfl nd (kSeq K (pv 1)) (blkOk_by (N := N_is_ways) (sc := defScope s_is_ways) (by decide +kernel)) (fun _ _ _ _ _ => pg_name (i := 2) nd rfl (Or.inl rfl)) (fun _ _ _ _ _ => pts_nil) (fun _ _ _ _ _ => pe_and (pc (ok_is_deeds E) hr (by decide) pass0 rfl (pa_cons (pv 0) (pa_cons (pv 2) pa_nil))) (pe_one (pe_cmpR op_gt (pe_callB (kLen K) (by rfl) E.f_len (by decide +kernel) (pa_cons (pv 2) pa_nil)) (pe_int) (nomark _))))) pa_nil))))), ?_⟩
  change (_ : TS) _ [some v0, some v1, none] H
  try dsimp only [cxOf, Cx.nox, Cx.blk]
  obtain ⟨k0, p, xs, ws, rfl, rfl, s, hw, z1, z2, ok, k⟩ := h
  obtain ⟨d, hd, hq, _, _⟩ := sqW_d s hw (fun w h => (ok w h).2.1) (by omega)
  have zl := ws_len hw
  walk_at "w"
  refine ⟨d, .inl hd, fun v H1 e1 d1 => ?_⟩
  rw [hq] at d1
  obtain rfl := dp_toBl d1
  have s1 := ex_e e1 s
  walk_at "w"
  refine r_lenE s1 ?_
  walk_at "w"
  have key : ∀ (x : V) (H2 : Hp), Ex H H2 → x ∈ xs → ∃ p w, x = .ref p ∧ SqE K H2 p (w.map gV) ∧ w ≠ [] ∧ w.length ≤ 50000 ∧ ∀ d ∈ w, okD k0 d := fun x H2 e2 hx => by
    obtain ⟨p, w, e1, hm, s⟩ := ws_mem hw hx
    obtain ⟨a, b, c⟩ := ok w hm
    exact ⟨p, w, e1, ex_e e2 s, a, b, c⟩
  have fin : ∀ (p : Addr) (H2 : Hp), Ex H H2 → H2 p = some (.lst (xs.map fun _ => V.bl true)) → rAll K [.ref p] H2 (fun v H => Q v H) := fun p H2 e2 hp => by
    refine r_all (bs := xs.map fun _ => true) (sq_of hp) (by simp [Function.comp]) ?_
    rw [show (xs.map fun _ => true).all id = true by simp]
    exact k _ e2
  rcases s with s | s
  · refine i_seqL ?_
    walk_at "w"
    refine lcJ_list (v := fun _ => .bl true) (ex_l e1 s) (by omega) (fun x => [_, _, some x]) (fun x => rfl) (fun x => rfl) (fun x H2 Q' e2 hx hq => ?_) (fun p H2 n2 e2 hp => ?_)
    · obtain ⟨q, w, rfl, sw, wn, wz, wo⟩ := key x H2 (e1.trans e2) hx
      walk_at "w"
      refine ⟨k0, q, w, rfl, rfl, sw, wz, wo, fun H3 e3 => ?_⟩
      have sw3 := ex_e e3 sw
      have wl : 0 < w.length := List.length_pos_iff.mpr wn
      walk_at "w"
      refine r_lenE sw3 ?_
      rw [List.length_map]
      walk_at "w"
      rw [decide_eq_true (show (0 : Int) < w.length by omega)]
      exact hq _ e3
    · walk_at "w"
      exact fin p H2 (e1.trans e2) hp
  · refine i_seqT ?_
    walk_at "w"
    refine lcJ_tup (v := fun _ => .bl true) (ex_t e1 s) (by omega) (fun x => [_, _, some x]) (fun x => rfl) (fun x => rfl) (fun x H2 Q' e2 hx hq => ?_) (fun p H2 n2 e2 hp => ?_)
    · obtain ⟨q, w, rfl, sw, wn, wz, wo⟩ := key x H2 (e1.trans e2) hx
      walk_at "w"
      refine ⟨k0, q, w, rfl, rfl, sw, wz, wo, fun H3 e3 => ?_⟩
      have sw3 := ex_e e3 sw
      have wl : 0 < w.length := List.length_pos_iff.mpr wn
      walk_at "w"
      refine r_lenE sw3 ?_
      rw [List.length_map]
      walk_at "w"
      rw [decide_eq_true (show (0 : Int) < w.length by omega)]
      exact hq _ e3
    · walk_at "w"
      exact fin p H2 (e1.trans e2) hp

end
section
def dMk (k : Int) (b : List Dd) (ws : List (List Dd)) : PyData := .tuple [.int k, dW b, .tuple (ws.map dW)]
/-- a maker that may be made -/
structure MkOk (k : Int) (b : List Dd) (ws : List (List Dd)) : Prop where
  k1 : 1 ≤ k
  k3 : k ≤ 3
  ob : ∀ d ∈ b, okD k d
  zb : b.length ≤ 600
  w1 : 1 ≤ ws.length
  w4 : ws.length ≤ 4
  ow : ∀ w ∈ ws, w ≠ [] ∧ ∀ d ∈ w, okD k d
  zw : ∀ w ∈ ws, w.length ≤ if ws.length = 1 then 600 else 24
theorem MkOk.z6 {k : Int} {b : List Dd} {ws : List (List Dd)} (h : MkOk k b ws) : ∀ w ∈ ws, w.length ≤ 600 := fun w hw => by
  have := h.zw w hw
  split at this <;> omega
theorem kn_ib : ¬ (("inlets" : Str) = "begin") := by decide +kernel
theorem kn_iw : ¬ (("inlets" : Str) = "ways") := by decide +kernel
theorem kn_bw : ¬ (("begin" : Str) = "ways") := by decide +kernel
def kF (a b c : V) : List (Str × V) := putF "ways" c (putF "begin" b (putF "inlets" a []))
section
variable {a b c : V}
theorem kF_in : (kF a b c).lookup ("inlets" : Str) = some a := by
  unfold kF
  rw [lookup_putF, if_neg kn_iw, lookup_putF, if_neg kn_ib, lookup_putF, if_pos rfl]
theorem kF_be : (kF a b c).lookup ("begin" : Str) = some b := by
  unfold kF
  rw [lookup_putF, if_neg kn_bw, lookup_putF, if_pos rfl]
theorem kF_wa : (kF a b c).lookup ("ways" : Str) = some c := by
  unfold kF
  rw [lookup_putF, if_pos rfl]
theorem kF_no {m : Str} (h1 : ¬ m = "inlets") (h2 : ¬ m = "begin") (h3 : ¬ m = "ways") : (kF a b c).lookup m = none := by
  unfold kF
  rw [lookup_putF, if_neg h3, lookup_putF, if_neg h2, lookup_putF, if_neg h1]
  rfl
end
/-- a maker stands at x -/
def MakAt (K : PySem.W.Frag) (H : Hp) (x : Addr) (k : Int) (b : List Dd) (ws : List (List Dd)) : Prop := ∃ dx vb vw, H x = some (.ins (He.ga K "Maker") dx (kF (.int k) vb vw)) ∧ Dp K H vb (dW b) ∧ Dp K H vw (.tuple (ws.map dW))
theorem ex_mak {K : PySem.W.Frag} {H H' : Hp} {x : Addr} {k : Int} {b : List Dd} {ws : List (List Dd)} (e : Ex H H') (t : MakAt K H x k b ws) : MakAt K H' x k b ws := by
  obtain ⟨dx, vb, vw, h1, h2, h3⟩ := t
  exact ⟨dx, vb, vw, e _ _ h1, dp_ex e h2, dp_ex e h3⟩
section
variable {P : Program} {K : PySem.W.Frag} {mg : Str → Option Value} {H : Hp} {x : Addr} {k : Int} {b : List Dd} {ws : List (List Dd)} {Q : VK}
theorem r_makIn (E : Env P K mg) (t : MakAt K H x k b ws) (q : Q (.int k) H) : GetF K "inlets" (.ref x) H Q := by
  obtain ⟨dx, vb, vw, h1, h2, h3⟩ := t
  exact r_getF h1 E.c_Maker E.na_Maker_inlets kF_in q
theorem r_makBe (E : Env P K mg) (t : MakAt K H x k b ws) (q : ∀ a, SqT K H a (b.map gV) → Q (.ref a) H) : GetF K "begin" (.ref x) H Q := by
  obtain ⟨dx, vb, vw, h1, h2, h3⟩ := t
  obtain ⟨a, rfl, s⟩ := dp_dW h2
  exact r_getF h1 E.c_Maker E.na_Maker_begin kF_be (q a s)
theorem dp_ways {v : V} (h : Dp K H v (.tuple (ws.map dW))) : ∃ a xs, v = .ref a ∧ SqT K H a xs ∧ DpAll K H xs (ws.map dW) := by
  cases h with
  | tup h a => exact ⟨_, _, rfl, h, a⟩
theorem r_makWa (E : Env P K mg) (t : MakAt K H x k b ws) (q : ∀ a xs, SqT K H a xs → DpAll K H xs (ws.map dW) → Q (.ref a) H) : GetF K "ways" (.ref x) H Q := by
  obtain ⟨dx, vb, vw, h1, h2, h3⟩ := t
  obtain ⟨a, xs, rfl, s, d⟩ := dp_ways h3
  exact r_getF h1 E.c_Maker E.na_Maker_ways kF_wa (q a xs s d)
end
theorem tex_fri {H H' : Hp} {p C dx : Addr} {fs : List (Str × V)} (hp : H p = some (.ins C dx fs)) (f : Fr p H H') : TEx H H' := fun b xs q => by
  have hb : b ≠ p := by
    rintro rfl
    rcases q with q | ⟨o', q⟩ <;> rw [hp] at q <;> cases q
  rcases q with q | ⟨o', q⟩
  · exact .inl (f b _ hb q)
  · exact .inr ⟨o', f b _ hb q⟩
theorem imm_dW (w : List Dd) : imm (dW w) = true := by
  have : ∀ w : List Dd, immAll (w.map gD) = true := fun w => by
    induction w with
    | nil => rfl
    | cons d w ih =>
      show (imm (gD d) && immAll (w.map gD)) = true
      rw [ih]
      cases d <;> rfl
  exact this w
theorem imm_dWs (ws : List (List Dd)) : imm (.tuple (ws.map dW)) = true := by
  have : ∀ ws : List (List Dd), immAll (ws.map dW) = true := fun ws => by
    induction ws with
    | nil => rfl
    | cons d w ih =>
      show (imm (dW d) && immAll (w.map dW)) = true
      rw [ih, imm_dW]
      rfl
  exact this ws
abbrev spMaker (K : PySem.W.Frag) : Sp := sp4 fun x a b c H Q _ => ∃ (p dx : Addr) (k : Int) (pb pw : Addr) (bs : List Dd) (xs : List V) (ws : List (List Dd)), x = .ref p ∧ H p = some (.ins (He.ga K "Maker") dx []) ∧ a = .int k ∧ b = .ref pb ∧ c = .ref pw ∧
  SqE K H pb (bs.map gV) ∧ SqE K H pw xs ∧ WsAt K H xs ws ∧ MkOk k bs ws ∧ ∀ H', MakAt K H' p k bs ws → Fr p H H' → Q .non H'
theorem sqE_fri {K : PySem.W.Frag} {H H' : Hp} {p a C dx : Addr} {fs : List (Str × V)} {xs : List V} (hp : H p = some (.ins C dx fs)) (f : Fr p H H') (s : SqE K H a xs) : SqE K H' a xs := by
  rcases s with s | s
  · refine .inl ?_
    have key : ∀ u, H a = some u → (∃ o', u = .frz o' (.lst xs)) ∨ u = .lst xs → a ≠ p := by
      rintro u hu hc rfl
      rw [hp] at hu
      cases hu
      rcases hc with ⟨_, hc⟩ | hc <;> cases hc
    rcases s with (s | ⟨o', s⟩) | s
    · exact .inl (.inl (f _ _ (key _ s (.inr rfl)) s))
    · exact .inl (.inr ⟨o', f _ _ (key _ s (.inl ⟨o', rfl⟩)) s⟩)
    · exact .inr s
  · exact .inr (tex_t (tex_fri hp f) s)
theorem ws_fri {K : PySem.W.Frag} {H H' : Hp} {p C dx : Addr} {fs : List (Str × V)} (hp : H p = some (.ins C dx fs)) (f : Fr p H H') : ∀ {xs : List V} {ws : List (List Dd)}, WsAt K H xs ws → WsAt K H' xs ws
  | [], [], _ => trivial
  | _ :: _, _ :: _, h => ⟨let ⟨p, e1, s⟩ := h.1; ⟨p, e1, sqE_fri hp f s⟩, ws_fri hp f h.2⟩
  | [], _ :: _, h => h.elim
  | _ :: _, [], h => h.elim
abbrev N_Maker_init : List Str := ["self", "inlets", "begin", "ways", "most", "way"]
theorem sc_Maker_init : FnScope N_Maker_init ["self", "inlets", "begin", "ways"] (defScope s_Maker_init) := ⟨rfl, rfl, rfl, by decide +kernel, rfl, by decide +kernel, by decide +kernel⟩
theorem fx_Maker_init {P : Program} {w : World} {K : PySem.W.Frag} {mg : Str → Option Value} {base : Heap} (E : Env P K mg) : ∃ fd, FunD K "__init__" "Maker.__init__" (defArgs s_Maker_init) (defBody s_Maker_init) (defScope s_Maker_init) (d_Maker_init.dvs K) [] (d_Maker_init.adr K) fd ∧ FnOk P w K mg base CX0 9 (d_Maker_init.adr K) fd ["self", "inlets", "begin", "ways"] (spMaker K) := by
  obtain ⟨fd, F⟩ := E.dd_Maker_init
  refine ⟨fd, F, fnok0 F sc_Maker_init sp4_len (fun cdv A outer s H vs Q X hr h => ?_)⟩
  have nd := sc_Maker_init.nd
  obtain ⟨v0, v1, v2, v3, rfl, h⟩ := h
  refine ⟨_, (pss_cons (ps_if (PW.pt (pw_or (pt_not (kTru K (pc (ok_is_integer E) hr (by decide) pass0 rfl (pa_cons (pv 1) pa_nil)) (by intro _; rfl))) (pw_or1 (pt_not (pt_chain op_le op_le (pe_int) (pv 1) ((E.k_MOST_INLETS).elim fun t e => pe_glob (v := .int 3) (by rfl) e ⟨t, rfl⟩))))))
   (pss_one (ps_never))
   pss_nil)
  (pss_cons (ps_if (pt_not (kTru K (pc (ok_is_deeds E) hr (by decide) pass0 rfl (pa_cons (pv 1) (pa_cons (pv 2) pa_nil))) (by intro _; rfl)))
   (pss_one (ps_never))
   pss_nil)
  (pss_cons (ps_if (pt_not (kTru K (pc (ok_is_ways E) hr (by decide) pass0 rfl (pa_cons (pv 1) (pa_cons (pv 3) pa_nil))) (by intro _; rfl)))
   (pss_one (ps_never))
   pss_nil)
  (pss_cut (ps_set (i := 4) nd rfl (.inr rfl) (pe_ifExp (pt_cmpR (kEq K hr) (pe_callB (kLen K) (by rfl) E.f_len (by decide +kernel) (pa_cons (pv 3) pa_nil)) (pe_int) (nomark _)) ((E.k_MOST_DEEDS).elim fun t e => pe_glob (v := .int 600) (by rfl) e ⟨t, rfl⟩) ((E.k_MOST_DEEDS_EACH).elim fun t e => pe_glob (v := .int 24) (by rfl) e ⟨t, rfl⟩)))
  (pss_cut (ps_if (PW.pt (pw_or (pt_cmpR op_gt (pe_callB (kLen K) (by rfl) E.f_len (by decide +kernel) (pa_cons (pv 2) pa_nil)) ((E.k_MOST_DEEDS).elim fun t e => pe_glob (v := .int 600) (by rfl) e ⟨t, rfl⟩) (nomark _)) (pw_or1 (kTru K (pe_callB (kAny K rfl) (by rfl) E.f_any (by decide +kernel) (pa_cons (pe_lc (own := [("way", 5)]) (g := gName 5) (tt := tYes) rfl nd (kSeq K (pv 3)) (blkOk_by (N := N_Maker_init) (sc := defScope s_Maker_init) (by decide +kernel)) (fun _ _ _ _ _ => pg_name (i := 5) nd rfl (Or.inl rfl)) (fun _ _ _ _ _ => pts_nil) (fun _ _ _ _ _ => pe_cmpR op_gt (pe_callB (kLen K) (by rfl) E.f_len (by decide +kernel) (pa_cons (pv 5) pa_nil)) (pv 4) (nomark _))) pa_nil)) (by intro _; rfl)))))
   (pss_one (ps_never))
   pss_nil)
  (pss_cons (kFldS K (ps_fld (pv 0) (pv 1) rfl))
  (pss_cons (kFldS K (ps_fld (pv 0) (pc (ok_deep E) hr (by decide) pass0 rfl (pa_cons (pv 2) pa_nil)) rfl))
  (pss_one (kFldS K (ps_fld (pv 0) (pc (ok_deep E) hr (by decide) pass0 rfl (pa_cons (pv 3) pa_nil)) rfl)))))))))), ?_⟩
  change (_ : TS) _ [some v0, some v1, some v2, some v3, none, none] H
  try dsimp only [cxOf, Cx.nox, Cx.blk]
  obtain ⟨p, dx, k0, pb, pw, bs, xs, ws, rfl, hp, rfl, rfl, rfl, sb, sw, hw, ok, k⟩ := h
  obtain ⟨k1, k3, ob, zb, w1, w4, ow, zw⟩ := id ok
  have z6 := ok.z6
  have zl := ws_len hw
  walk_at "w"
  refine ⟨.int k0, .int k0, fun v H1 e1 d1 => ?_⟩
  obtain rfl := dp_toBl d1
  walk_at "w"
  refine ⟨k0, pb, bs, rfl, rfl, ex_e e1 sb, by omega, ob, fun H2 e2 => ?_⟩
  walk_at "w"
  have E2 := e1.trans e2
  refine ⟨k0, pw, xs, ws, rfl, rfl, ex_e E2 sw, ws_ex E2 hw, w1, w4, fun w h => ⟨(ow w h).1, by have := z6 w h; omega, (ow w h).2⟩, fun H3 e3 => ?_⟩
  have E3 := E2.trans e3
  have sw3 := ex_e E3 sw
  walk_at "w"
  refine w_cut (M := fun σ' H' => ∃ m : Int, σ' = [some (.ref p), some (.int k0), some (.ref pb), some (.ref pw), some (.int m), none] ∧ H' = H3 ∧ ∀ w ∈ ws, (w.length : Int) ≤ m) ?_ ?_
  · walk_at "w"
    refine r_lenE sw3 ?_
    by_cases c : ws.length = 1
    · walk_at "w"
      exact ⟨_, rfl, rfl, fun w h => by have := zw w h; rw [if_pos c] at this; omega⟩
    · walk_at "w"
      exact ⟨_, rfl, rfl, fun w h => by have := zw w h; rw [if_neg c] at this; omega⟩
  rintro σ' H' ⟨m, rfl, rfl, hm⟩
  have sb3 := ex_e E3 sb
  have hw3 := ws_ex E3 hw
  have key : ∀ (x : V) (H2 : Hp), Ex H' H2 → x ∈ xs → ∃ (p : Addr) (w : List Dd), x = .ref p ∧ SqE K H2 p (w.map gV) ∧ (w.length : Int) ≤ m := fun x H2 e2 hx => by
    obtain ⟨q, w, e1, hm2, s⟩ := ws_mem hw3 hx
    exact ⟨q, w, e1, ex_e e2 s, hm w hm2⟩
  have any0 : (xs.map fun _ => false).any id = false := by simp
  have sE : ∀ {H2 : Hp} {b : Bool}, b = false → b = false := fun h => h
  refine w_cut (M := fun σ' H2 => σ' = [some (.ref p), some (.int k0), some (.ref pb), some (.ref pw), some (.int m), none] ∧ Ex H' H2) ?_ ?_
  · walk_at "w"
    refine r_lenE sb3 ?_
    rw [List.length_map]
    walk_at "w"
    have sw4 := ex_e E3 sw
    rcases sw4 with s | s
    · refine i_seqL ?_
      walk_at "w"
      refine lcJ_list (v := fun _ => .bl false) s (by omega) (fun x => [_, _, _, _, _, some x]) (fun x => rfl) (fun x => rfl) (fun x H2 Q' e2 hx hq => ?_) (fun pl H2 n2 e2 hp => ?_)
      · obtain ⟨q, w, rfl, sq, hl⟩ := key x H2 e2 hx
        walk_at "w"
        refine r_lenE sq ?_
        rw [List.length_map]
        walk_at "w"
        rw [decide_eq_false (show ¬ m < (w.length : Int) by omega)]
        exact hq _ (Ex.refl _)
      · walk_at "w"
        refine r_any (bs := xs.map fun _ => false) (sq_of hp) (by simp [Function.comp]) ?_
        rw [any0]
        walk_at "w"
        exact ⟨rfl, e2⟩
    · refine i_seqT ?_
      walk_at "w"
      refine lcJ_tup (v := fun _ => .bl false) s (by omega) (fun x => [_, _, _, _, _, some x]) (fun x => rfl) (fun x => rfl) (fun x H2 Q' e2 hx hq => ?_) (fun pl H2 n2 e2 hp => ?_)
      · obtain ⟨q, w, rfl, sq, hl⟩ := key x H2 e2 hx
        walk_at "w"
        refine r_lenE sq ?_
        rw [List.length_map]
        walk_at "w"
        rw [decide_eq_false (show ¬ m < (w.length : Int) by omega)]
        exact hq _ (Ex.refl _)
      · walk_at "w"
        refine r_any (bs := xs.map fun _ => false) (sq_of hp) (by simp [Function.comp]) ?_
        rw [any0]
        walk_at "w"
        exact ⟨rfl, e2⟩
  rintro σ' G ⟨rfl, e4⟩
  have E4 := E3.trans e4
  have hpG := E4 _ _ hp
  have sbG := ex_e E4 sb
  have swG := ex_e E4 sw
  have hwG := ws_ex E4 hw
  clear key any0 sb3 hw3 sw3 e1 e2 e3 e4 E2 E3
  walk_at "w"
  refine r_putF hpG E.c_Maker E.na_Maker_inlets (by decide) ?_
  have F1 : Fr p G (upd G p (.ins (He.ga K "Maker") dx (putF "inlets" (.int k0) []))) := Fr.upd
  have hp1 : upd G p (.ins (He.ga K "Maker") dx (putF "inlets" (.int k0) [])) p = some (.ins (He.ga K "Maker") dx (putF "inlets" (.int k0) [])) := upd_same
  generalize upd G p (.ins (He.ga K "Maker") dx (putF "inlets" (.int k0) [])) = G1 at *
  have sb1 := sqE_fri hpG F1 sbG
  have sw1 := sqE_fri hpG F1 swG
  have hw1 := ws_fri hpG F1 hwG
  obtain ⟨d1, hd1, _, hq1, hs1⟩ := sqE_d sb1 (by omega)
  walk_at "w"
  refine ⟨d1, hd1, hs1 5, fun v2 G2 e2 t2 => ?_⟩
  rw [hq1] at t2
  have hp2 := e2 _ _ hp1
  walk_at "w"
  refine r_putF hp2 E.c_Maker E.na_Maker_begin (Nat.lt_of_le_of_lt (putF_len _ _ _) (by decide)) ?_
  have F3 : Fr p G2 (upd G2 p (.ins (He.ga K "Maker") dx (putF "begin" v2 (putF "inlets" (.int k0) [])))) := Fr.upd
  have hp3 : upd G2 p (.ins (He.ga K "Maker") dx (putF "begin" v2 (putF "inlets" (.int k0) []))) p = some (.ins (He.ga K "Maker") dx (putF "begin" v2 (putF "inlets" (.int k0) []))) := upd_same
  generalize upd G2 p (.ins (He.ga K "Maker") dx (putF "begin" v2 (putF "inlets" (.int k0) []))) = G3 at *
  have t3 := dp_tex (tex_fri hp2 F3) (imm_dW bs) t2
  have sw3 := sqE_fri hp2 F3 (ex_e e2 sw1)
  have hw3 := ws_fri hp2 F3 (ws_ex e2 hw1)
  obtain ⟨d2, hd2, _, hq2, hs2⟩ := sqW_d sw3 hw3 (fun w h => by have := z6 w h; omega) (by omega)
  walk_at "w"
  refine ⟨d2, hd2, hs2, fun v4 G4 e4 t4 => ?_⟩
  rw [hq2] at t4
  have hp4 := e4 _ _ hp3
  walk_at "w"
  refine r_putF hp4 E.c_Maker E.na_Maker_ways (Nat.lt_of_le_of_lt (Nat.le_trans (putF_len _ _ _) (Nat.succ_le_succ (putF_len _ _ _))) (by decide)) ?_
  have F5 : Fr p G4 (upd G4 p (.ins (He.ga K "Maker") dx (kF (.int k0) v2 v4))) := Fr.upd
  refine k _ ⟨dx, v2, v4, upd_same, dp_tex (tex_fri hp4 F5) (imm_dW bs) (dp_ex e4 t3), dp_tex (tex_fri hp4 F5) (imm_dWs ws) t4⟩ ?_
  exact (((((Fr.of E4).trans F1).trans (Fr.of e2)).trans F3).trans (Fr.of e4)).trans F5
section
variable {P : Program} {w : World} {K : PySem.W.Frag} {mg : Str → Option Value} {base : Heap}
theorem ok_Maker3 (E : Env P K mg) : Mkc P w K mg base CX0 9 "Maker" (He.ga K "Maker") (spMaker K) [] := by
  obtain ⟨fd, F, k⟩ := fx_Maker_init (P := P) (w := w) (base := base) E
  exact ⟨_, fd, _, [], E.mk_Maker, k, E.g_Maker, F.bindsN (fun _ _ _ _ _ _ us hl => match us, hl with | [_, _, _, _], _ => rfl), .nil⟩
end
/-- Maker(..) made -/
theorem mk_mak {K : PySem.W.Frag} {H : Hp} {Q : VK} {k : Int} {pb pw : Addr} {bs : List Dd} {xs : List V} {ws : List (List Dd)} (sb : SqE K H pb (bs.map gV)) (sw : SqE K H pw xs) (hw : WsAt K H xs ws) (ok : MkOk k bs ws)
    (q : ∀ x H2, Ex H H2 → MakAt K H2 x k bs ws → Q (.ref x) H2) : MakeI (He.ga K "Maker") (spMaker K) [] E0 [.int k, .ref pb, .ref pw] H Q := by
  intro x dx nx ndx ne
  have ex : Ex H (upd (upd H dx (.own x)) x (.ins (He.ga K "Maker") dx [])) := fun b o e => by
    rw [upd_ne (ne_of_none e nx), upd_ne (ne_of_none e ndx)]
    exact e
  refine ⟨_, _, _, _, rfl, x, dx, k, pb, pw, bs, xs, ws, rfl, upd_same, rfl, rfl, rfl, ex_e ex sb, ex_e ex sw, ws_ex ex hw, ok, fun H' t f => ⟨rfl, q x H' (fun b o e => ?_) t⟩⟩
  exact f b o (ne_of_none e nx) (ex b o e)
theorem mak_mine {K : PySem.W.Frag} {H : Hp} {x : Addr} {k : Int} {b : List Dd} {ws : List (List Dd)} (t : MakAt K H x k b ws) : ∃ dx fl, H x = some (.ins (He.ga K "Maker") dx fl) := by
  obtain ⟨dx, a, b, h1, _⟩ := t
  exact ⟨dx, _, h1⟩
theorem eqv_gD (d e : Dd) : PyData.eqv (gD d) (gD e) = decide (d = e) := by
  cases d with
  | none => cases e with
    | none => rw [decide_eq_true rfl]; show (("give" : Str) == "give") = true; exact beq_self_eq_true _
    | some j => rfl
  | some i => cases e with
    | none => rfl
    | some j =>
      show (i == j) = _
      by_cases h : i = j <;> simp [h]
theorem eqv_gDs : ∀ xs ys : List Dd, PyData.eqvAll (xs.map gD) (ys.map gD) = decide (xs = ys)
  | [], [] => rfl
  | [], _ :: _ => rfl
  | _ :: _, [] => rfl
  | x :: xs, y :: ys => by
    show (PyData.eqv (gD x) (gD y) && PyData.eqvAll (xs.map gD) (ys.map gD)) = _
    rw [eqv_gDs xs ys, eqv_gD]
    by_cases h : x = y
    · subst h; simp
    · simp [h]
theorem eqv_dW (x y : List Dd) : PyData.eqv (dW x) (dW y) = decide (x = y) := eqv_gDs x y
theorem eqv_dWs : ∀ xs ys : List (List Dd), PyData.eqvAll (xs.map dW) (ys.map dW) = decide (xs = ys)
  | [], [] => rfl
  | [], _ :: _ => rfl
  | _ :: _, [] => rfl
  | x :: xs, y :: ys => by
    show (PyData.eqv (dW x) (dW y) && PyData.eqvAll (xs.map dW) (ys.map dW)) = _
    rw [eqv_dWs xs ys, eqv_dW]
    by_cases h : x = y
    · subst h; simp
    · simp [h]
theorem lay_gD (d : Dd) : (gD d).canLay0 = true ∧ (gD d).depth = 0 := by
  cases d
  · exact ⟨by decide +kernel, rfl⟩
  · exact ⟨rfl, rfl⟩
theorem lay_gDs : ∀ w : List Dd, PyData.canLayAll0 (w.map gD) = true ∧ PyData.depthAll (w.map gD) = 0
  | [] => ⟨rfl, rfl⟩
  | d :: w => by
    obtain ⟨a, b⟩ := lay_gDs w
    obtain ⟨c, e⟩ := lay_gD d
    refine ⟨?_, ?_⟩
    · show ((gD d).canLay0 && PyData.canLayAll0 (w.map gD)) = true
      rw [a, c]; rfl
    · show max (gD d).depth (PyData.depthAll (w.map gD)) = 0
      rw [b, e]; rfl
theorem shaped_dW (w : List Dd) : SeqAt.shaped (dW w) = true := by
  show (PyData.canLayAll0 (w.map gD) && decide (PyData.depthAll (w.map gD) + 1 ≤ 64)) = true
  rw [(lay_gDs w).1, (lay_gDs w).2]
  rfl
theorem lay_dWs : ∀ ws : List (List Dd), PyData.canLayAll0 (ws.map dW) = true ∧ PyData.depthAll (ws.map dW) ≤ 1
  | [] => ⟨rfl, Nat.zero_le _⟩
  | w :: ws => by
    obtain ⟨a, b⟩ := lay_dWs ws
    refine ⟨?_, ?_⟩
    · show (PyData.canLayAll0 (w.map gD) && PyData.canLayAll0 (ws.map dW)) = true
      rw [a, (lay_gDs w).1]; rfl
    · show max (PyData.depthAll (w.map gD) + 1) (PyData.depthAll (ws.map dW)) ≤ 1
      rw [(lay_gDs w).2]; omega
theorem shaped_dWs (ws : List (List Dd)) : SeqAt.shaped (.tuple (ws.map dW)) = true := by
  show (PyData.canLayAll0 (ws.map dW) && decide (PyData.depthAll (ws.map dW) + 1 ≤ 64)) = true
  rw [(lay_dWs ws).1, decide_eq_true (show PyData.depthAll (ws.map dW) + 1 ≤ 64 by have := (lay_dWs ws).2; omega)]
  rfl
abbrev N_Maker_eq : List Str := ["self", "other"]
theorem sc_Maker_eq : FnScope N_Maker_eq ["self", "other"] (defScope s_Maker_eq) := ⟨rfl, rfl, rfl, by decide +kernel, rfl, by decide +kernel, by decide +kernel⟩
theorem fx_Maker_eq {P : Program} {w : World} {K : PySem.W.Frag} {mg : Str → Option Value} {base : Heap} (E : Env P K mg) : ∃ fd, FunD K "__eq__" "Maker.__eq__" (defArgs s_Maker_eq) (defBody s_Maker_eq) (defScope s_Maker_eq) (d_Maker_eq.dvs K) [] (d_Maker_eq.adr K) fd ∧ FnOk P w K mg base CX0 1 (d_Maker_eq.adr K) fd ["self", "other"] (sp2 fun x y H Q _ => ∃ p k b ws, x = .ref p ∧ MakAt K H p k b ws ∧ ((∃ q k' b' ws', y = .ref q ∧ MakAt K H q k' b' ws' ∧ RetD K (.bool (decide (k = k' ∧ b = b' ∧ ws = ws'))) H Q) ∨ (∃ n ∈ ["tuple", "int"], TyX K H y (.type n) ∧ RetD K (.bool false) H Q))) := by
  obtain ⟨fd, F⟩ := E.dd_Maker_eq
  refine ⟨fd, F, fnok0 F sc_Maker_eq sp2_len (fun cdv A outer s H vs Q X hr h => ?_)⟩
  have nd := sc_Maker_eq.nd
  obtain ⟨v0, v1, rfl, h⟩ := h
  refine ⟨_, (pss_one (ps_ret (pe_and (pe_callB (kIsi K) (by rfl) E.f_isinstance (by decide +kernel) (pa_cons (pv 1) (pa_cons (pe_glob (v := .ref (He.ga K "Maker")) (by rfl) E.g_Maker rfl) pa_nil))) (pe_and (pe_cmpR (kEq K hr) (kFld K (pv 0) rfl) (kFld K (pv 1) rfl) (nomark _)) (pe_and (pe_cmpR (kEq K hr) (kFld K (pv 0) rfl) (kFld K (pv 1) rfl) (nomark _)) (pe_one (pe_cmpR (kEq K hr) (kFld K (pv 0) rfl) (kFld K (pv 1) rfl) (nomark _)))))))), ?_⟩
  change (_ : TS) _ [some v0, some v1] H
  try dsimp only [cxOf, Cx.nox, Cx.blk]
  obtain ⟨p, k0, b, ws, rfl, ht, h2⟩ := h
  rcases h2 with ⟨q, k', b', ws', rfl, hu, k⟩ | ⟨n, hn, ty, k⟩
  · walk_at "w"
    refine r_isiC (insB_ok E.ins_Maker E.c_Maker (mak_mine hu).choose_spec.choose_spec) E.kit_Maker_self ?_
    walk_at "w"
    refine r_makIn E ht ?_
    walk_at "w"
    refine r_makIn E hu ?_
    walk_at "w"
    by_cases c1 : k0 = k'
    · walk_at "w"
      refine r_makBe E ht fun a sa => ?_
      walk_at "w"
      refine r_makBe E hu fun a' sa' => ?_
      refine r_eqD (dp_of_dW sa) (dp_of_dW sa') (shaped_dW _) (shaped_dW _) ?_
      rw [eqv_dW]
      walk_at "w"
      by_cases c2 : b = b'
      · walk_at "w"
        refine r_makWa E ht fun a2 xs sx dx => ?_
        walk_at "w"
        refine r_makWa E hu fun a3 ys sy dy => ?_
        refine r_eqD (.tup sx dx) (.tup sy dy) (shaped_dWs _) (shaped_dWs _) ?_
        rw [show PyData.eqv (.tuple (ws.map dW)) (.tuple (ws'.map dW)) = decide (ws = ws') from eqv_dWs ws ws']
        rw [show decide (k0 = k' ∧ b = b' ∧ ws = ws') = decide (ws = ws') by simp [c1, c2]] at k
        exact k.bl (Ex.refl _)
      · walk_at "w"
        rw [show decide (k0 = k' ∧ b = b' ∧ ws = ws') = false by simp [c2]] at k
        exact k.bl (Ex.refl _)
    · walk_at "w"
      rw [show decide (k0 = k' ∧ b = b' ∧ ws = ws') = false by simp [c1]] at k
      exact k.bl (Ex.refl _)
  · walk_at "w"
    refine r_isiC (b := false) ty ?_ ?_
    · simp at hn
      rcases hn with rfl | rfl
      · exact E.kit_Maker_tuple
      · exact E.kit_Maker_int
    walk_at "w"
    exact k.bl (Ex.refl _)
theorem ok_Maker_eq {P : Program} {w : World} {K : PySem.W.Frag} {mg : Str → Option Value} {base : Heap} (E : Env P K mg) : EqOf P w K mg base 1 (He.ga K "Maker") (sp2 fun x y H Q _ => ∃ p k b ws, x = .ref p ∧ MakAt K H p k b ws ∧ ((∃ q k' b' ws', y = .ref q ∧ MakAt K H q k' b' ws' ∧ RetD K (.bool (decide (k = k' ∧ b = b' ∧ ws = ws'))) H Q) ∨ (∃ n ∈ ["tuple", "int"], TyX K H y (.type n) ∧ RetD K (.bool false) H Q))) := by
  obtain ⟨fd, F, k⟩ := fx_Maker_eq (P := P) (w := w) (base := base) E
  exact ⟨_, fd, _, E.m_Maker_eq.at_, E.m_Maker_eq.fn, k, F.bindsN (fun _ _ _ _ _ _ us hl => match us, hl with | [_, _], _ => rfl)⟩

end
section
/-- all but lists stand -/
def Ls (H H' : Hp) : Prop := ∀ a o, H a = some o → (∀ zs, o ≠ .lst zs) → H' a = some o
section
variable {K : PySem.W.Frag} {H H' H2 : Hp} {a p x : Addr} {xs ys : List V}
theorem Ls.of (e : Ex H H') : Ls H H' := fun a o h _ => e a o h
theorem Ls.trans (l : Ls H H') (m : Ls H' H2) : Ls H H2 := fun a o h n => m a o (l a o h n) n
theorem Ls.upd (h : H p = some (.lst xs)) : Ls H (upd H p (.lst ys)) := fun a o ha hn => by
  have : a ≠ p := by
    rintro rfl
    rw [h] at ha
    exact hn xs (Option.some.inj ha).symm
  rw [upd_ne this]
  exact ha
theorem Ls.fr (f : Fr a H H') (s : SrcAt H a) : Ls H H' := fun b o hb hn => by
  obtain ⟨d, s, c, h1, _⟩ := s
  have : b ≠ a := by
    rintro rfl
    rw [h1] at hb
    exact hn _ (Option.some.inj hb).symm
  exact f b o this hb
theorem Ls.tex (l : Ls H H') : TEx H H' := fun b ys q => by
  rcases q with q | ⟨o', q⟩
  · exact .inl (l _ _ q fun _ e => nomatch e)
  · exact .inr ⟨o', l _ _ q fun _ e => nomatch e⟩
theorem ls_t (l : Ls H H') (s : SqT K H a xs) : SqT K H' a xs := tex_t l.tex s
end
/-- a comprehension over a range, whose element draws from the source at s -/
theorem lcS_range {K : PySem.W.Frag} {H : Hp} {Q : VK} {n j : Nat} {te : TE} {vs : List Nat} {σ : L2.St} {s : Addr} (P : V → Prop) (hn : n ≤ 100000) (hs : SrcAt H s) (σ' : V → L2.St) (hσ : ∀ x, (wipe σ vs).set j (some x) = σ' x) (hw : ∀ x, wipe ((wipe σ vs).set j (some x)) vs = wipe σ vs)
    (he : ∀ (i : Nat) (H1 : Hp) (Q' : VK), Fr s H H1 → SrcAt H1 s → i < n → (∀ v H2, P v → Fr s H1 H2 → SrcAt H2 s → Q' v H2) → te (σ' (.int (i : Int))) H1 Q')
    (hq : ∀ p H2 ys, H p = none → Fr s H H2 → SrcAt H2 s → H2 p = some (.lst ys) → ys.length = n → (∀ y ∈ ys, P y) → Q (.ref p) H2) : LcJ (Itr 0 n) (gName j) tYes te vs σ H Q := fun D hD =>
  lc_range (Pv := fun i H' => Fr s H H' ∧ SrcAt H' s ∧ ∃ ys, H' D = some (.lst ys) ∧ ys.length = i ∧ ∀ y ∈ ys, P y) ⟨Fr.of (Ex.new hD), hs.ex (Ex.new hD), [], upd_same, rfl, fun y hy => absurd hy List.not_mem_nil⟩ (fun i H' hi ⟨f, q, ys, g, hl, hp⟩ => ⟨hw _, by
    show te ((wipe σ vs).set j _) H' _
    rw [hσ, Int.zero_add]
    refine he i H' _ f q hi fun v H2 pv f2 q2 => ?_
    have hne : D ≠ s := hs.ne hD
    refine ⟨ys, f2 D _ hne g, sz_lt (by omega), fun b o nb hb => ?_, ?_, ys ++ [v], upd_same, by rw [List.length_append, hl]; rfl, fun y hy => ?_⟩
    · rw [upd_ne (ne_of_none hb hD)]
      exact f2 b o nb (f b o nb hb)
    · obtain ⟨d, s2, c, w1, w2⟩ := q2
      exact ⟨d, s2, c, by rw [upd_ne hne.symm]; exact w1, w2⟩
    · rcases List.mem_append.mp hy with hy | hy
      · exact hp y hy
      · rw [List.mem_singleton.mp hy]
        exact pv⟩) fun H' ⟨f, q, ys, g, hl, hp⟩ => hq D H' ys hD f q g hl hp
theorem src_fr {x y : Addr} {H H' : Hp} (n : x ≠ y) (f : Fr y H H') (q : SrcAt H x) : SrcAt H' x := by
  obtain ⟨d, s, c, w1, w2⟩ := q
  exact ⟨d, s, c, f _ _ n w1, w2⟩
theorem l_fr {K : PySem.W.Frag} {a x : Addr} {H0 H H' : Hp} {xs : List V} (f : Fr x H H') (s0 : SqL K H0 a xs) (n : H0 x = none) (s : SqL K H a xs) : SqL K H' a xs := by
  rcases s0 with s0 | s0
  · have hne : a ≠ x := by
      rintro rfl
      rcases s0 with q | ⟨o', q⟩ <;> rw [n] at q <;> cases q
    rcases s with s | s
    · rcases s with q | ⟨o', q⟩
      · exact .inl (.inl (f _ _ hne q))
      · exact .inl (.inr ⟨o', f _ _ hne q⟩)
    · exact .inr s
  · exact .inr s0
theorem dp_toOpt {K : PySem.W.Frag} {H : Hp} {v : V} {o : Option Int} (h : Dp K H v (dOpt o)) : v = optV o := by
  cases o with
  | none => exact dp_toNon h
  | some i => exact dp_toInt h
theorem r_neB {K : PySem.W.Frag} {i j : Bool} {H : Hp} {Q : VK} (h : Q (.bl (!decide (i = j))) H) : rNeU K (.bl i) (.bl j) H Q := .inl ⟨rfl, by
  rw [show decide (V.bl i = V.bl j) = decide (i = j) from decide_eq_decide.mpr ⟨V.bl.inj, congrArg _⟩]
  exact h⟩
theorem r_neSS {K : PySem.W.Frag} {x : Str} {H : Hp} {Q : VK} (h : Q (.bl false) H) : rNeU K (.str x) (.str x) H Q := .inl ⟨rfl, by
  rw [decide_eq_true rfl]
  exact h⟩
theorem r_repL {K : PySem.W.Frag} {l : Addr} {k : Int} {xs : List V} {H : Hp} {Q : VK} (h : H l = some (.lst xs)) (h1 : 0 ≤ k) (h2 : k < 1000) (hz : xs.length * k.toNat ≤ sizeLine) (q : ∀ p H1, H p = none → Ex H H1 → H1 p = some (.lst (List.replicate k.toNat xs).flatten) → Q (.ref p) H1) : rMul K (.ref l) (.int k) H Q :=
  .inr (.inl ⟨l, k, xs, rfl, rfl, h, by omega, by omega, hz, fun p hp => q p _ hp (Ex.new hp) upd_same⟩)

end
section
--@import PyProof.AutoSeq1
/-! list.extend of a tuple -/
open PySem.AutoSeq1 in
theorem list_extend_tup (l : Addr) (items : Array Value) (n : Nat) (b : Addr) (items2 : Array Value) (n2 : Nat) (dd : Option Addr) (sl : Array (Option Value)) (hs0 : ¬(!items.isEmpty && Builtin.List.listTooLong (items.size + items2.size)) = true) (hs1 : items.size ≤ sizeLine) (hs2 : items.size + items2.size ≤ sizeLine + 1) :
    Meets (Builtin.«list.extend» ⟨[.ref l, .ref b], []⟩) (fun _ R s => s.heap.get? l = some { cls := .type "list", dict := none, data := .seq items n, slots := #[] } ∧ s.heap.get? b = some { cls := .type "tuple", dict := dd, data := .seq items2 n2, slots := sl } ∧ R (.ok (.ret Value.none)) { s with heap := s.heap.update l (Obj.mapSeq fun x => x ++ items2), toks := s.toks }) :=
  .of_wp fun prog w A R s h => by
    obtain ⟨hp, g, d, tk, os⟩ := s
    obtain ⟨hl, hb, h⟩ := h
    have f1 := PySem.AutoSeq1.idx_int
    have f2 := PySem.AutoSeq1.sub_tuple_tuple
    have f3 := PySem.AutoSeq1.sub_list_list
    have f4 := PySem.AutoSeq1.sub_tuple_list
    have f5 := PySem.AutoSeq1.sub_list_tuple
    have hz' : (items ++ items2).size ≤ sizeLine + 1 := by rw [Array.size_append]; exact hs2
    wp_walk using (wpAny_updateSeq hl rfl (hz := hs1) (_hz' := hz')), wpAny_loadPart' hl, wpAny_loadPart' hb
    exact ⟨_, rfl, h⟩
def rExtT (K : PySem.W.Frag) : V → List V → Hp → VK → Prop := fun x vs H Q => ∃ l b xs zs, x = .ref l ∧ vs = [.ref b] ∧ H l = some (.lst xs) ∧ SqT K H b zs ∧ xs.length + zs.length ≤ sizeLine ∧ Q .non (upd H l (.lst (xs ++ zs)))
theorem mt_extT {X : Cx} : MtM X "list.extend" (rExtT X.K) := by
  intro pins s σ H x vs v us Q I rx rv h
  obtain ⟨l, b, xs, zs, rfl, rfl, hH, hB, hz, q⟩ := h
  cases rx
  obtain ⟨u, rfl, ru⟩ := rv.one
  cases ru
  obtain ⟨z, its, n, r, hl, e⟩ := I.lstM hH
  obtain ⟨its2, r2, ⟨o2, e2, c2, n2, d2⟩, hl2⟩ := I.tuple hB
  have hl3 := r2.length
  obtain ⟨oc, od, odt, osl⟩ := o2
  dsimp only at c2 d2
  subst c2 d2
  have hsz : its.toArray.size + its2.toArray.size ≤ sizeLine := by rw [List.size_toArray, List.size_toArray]; omega
  have hlong : ¬ (!its.toArray.isEmpty && Builtin.List.listTooLong (its.toArray.size + its2.toArray.size)) = true := by
    rw [notLongL hsz, Bool.and_false]
    exact Bool.false_ne_true
  refine call_meets F.slot_list_extend ⟨_, e, rfl⟩ F.entry_list_extend (F.args_list_extend_2 _ _)
    (list_extend_tup l its.toArray n b its2.toArray n2 od osl hlong (by rw [List.size_toArray]; omega) (by omega)) ⟨e, e2, ?_⟩
  refine ⟨.non, _, I.lset (its' := its ++ its2) hH e (by simp) (r.append r2) ?_, rfl, q⟩
  rw [List.length_append]
  omega
theorem kExtT (K : PySem.W.Frag) {X : Cx} (h : X.K = K := by rfl) : MtM X "list.extend" (rExtT K) := by subst h; exact mt_extT
theorem r_extT {K : PySem.W.Frag} {l b : Addr} {xs zs : List V} {H : Hp} {Q : VK} (h : H l = some (.lst xs)) (hb : SqT K H b zs) (hz : xs.length + zs.length ≤ sizeLine) (q : Q .non (upd H l (.lst (xs ++ zs)))) : rExtT K (.ref l) [.ref b] H Q := ⟨l, b, xs, zs, rfl, rfl, h, hb, hz, q⟩
/-! x in, not in a list or a tuple of flat values -/
theorem kInF (K : PySem.W.Frag) {X : Cx} (h : X.K = K := by rfl) : OpR X (compareOp .In) (rIn K false) := by subst h; exact op_in_seq
theorem kNotInF (K : PySem.W.Frag) {X : Cx} (h : X.K = K := by rfl) : OpR X (compareOp .NotIn) (rIn K true) := by subst h; exact op_notIn_seq
theorem r_inF {K : PySem.W.Frag} {x : V} {p : Addr} {xs : List V} {H : Hp} {Q : VK} (h : SqE K H p xs) (fx : flatV x = true) (fs : xs.all flatV = true) (q : Q (.bl (inV x xs)) H) : rIn K false x (.ref p) H Q := ⟨p, xs, rfl, h, fx, fs, q⟩
theorem r_notInF {K : PySem.W.Frag} {x : V} {p : Addr} {xs : List V} {H : Hp} {Q : VK} (h : SqE K H p xs) (fx : flatV x = true) (fs : xs.all flatV = true) (q : Q (.bl (!inV x xs)) H) : rIn K true x (.ref p) H Q := ⟨p, xs, rfl, h, fx, fs, q⟩

end
section
abbrev spDeeds (K : PySem.W.Frag) : Sp := sp4 fun s a b c H Q _ => ∃ (x : Addr) (k : Int) (n : Nat) (g : Int), s = .ref x ∧ a = .int k ∧ b = .int n ∧ c = .int g ∧ 1 ≤ k ∧ k ≤ 3 ∧ n ≤ 1000 ∧ SrcAt H x ∧ ∀ (p : Addr) (ds : List Dd) (H' : Hp), H p = none → Fr x H H' → SrcAt H' x → H' p = some (.lst (ds.map gV)) → ds.length = n → (∀ d ∈ ds, okD k d) → Q (.ref p) H'
theorem gV_app (ds : List Dd) (d : Dd) : ds.map gV ++ [gV d] = (ds ++ [d]).map gV := by rw [List.map_append]; rfl
abbrev N__law_deeds : List Str := ["source", "inlets", "many", "gives", "told", "k"]
theorem sc__law_deeds : FnScope N__law_deeds ["source", "inlets", "many", "gives"] (defScope s__law_deeds) := ⟨rfl, rfl, rfl, by decide +kernel, rfl, by decide +kernel, by decide +kernel⟩
theorem ok__law_deeds {P : Program} {w : World} {K : PySem.W.Frag} {mg : Str → Option Value} {base : Heap} (E : Env P K mg) : Fn P w K mg base CX0 2 "_law_deeds" (spDeeds K) := by
  obtain ⟨fd, F⟩ := E.dd__law_deeds
  refine Fn.mk0 F E.g__law_deeds sc__law_deeds sp4_len (fun _ _ _ _ _ _ us hl => match us, hl with | [_, _, _, _], _ => rfl) (fun cdv A outer s H vs Q X hr h => ?_)
  have nd := sc__law_deeds.nd
  obtain ⟨v0, v1, v2, v3, rfl, h⟩ := h
  refine ⟨_, (pss_cons (ps_set (i := 4) nd rfl (.inl rfl) (pe_lst (pa_nil)))
  (pss_cons (ps_for PassesOwn.never rfl (pi_range1 (by rfl) E.f_range (pa_cons (pv 2) pa_nil)) (pg_name (i := 5) nd rfl (.inl rfl))
   (pss_one (ps_if (pt_cmpR op_lt (pc (ok__law_pick E) hr (by decide) pass0 rfl (pa_cons (pv 0) (pa_cons (pe_int) pa_nil))) (pv 3) (nomark _))
   (pss_one (ps_expr (kBM K (pe_bm PySem.F.plainAttrs_list PySem.F.slot_list_append PySem.F.type_list_append mt_append (pv 4) (pa_cons (pe_str) pa_nil)))))
   (pss_one (ps_expr (kBM K (pe_bm PySem.F.plainAttrs_list PySem.F.slot_list_append PySem.F.type_list_append mt_append (pv 4) (pa_cons (pc (ok__law_pick E) hr (by decide) pass0 rfl (pa_cons (pv 0) (pa_cons (pv 1) pa_nil))) pa_nil))))))))
  (pss_one (ps_ret (pv 4))))), ?_⟩
  change (_ : TS) _ [some v0, some v1, some v2, some v3, none, none] H
  try dsimp only [cxOf, Cx.nox, Cx.blk]
  obtain ⟨x, k0, n, g, rfl, rfl, rfl, rfl, k1, k3, hn, hsrc, k⟩ := h
  walk_at "w"
  intro p H1 n1 e1 h1
  have hpx := hsrc.ne n1
  walk_at "w"
  refine for_range (lo := 0) (Pv := fun i σ' H' => ∃ (ds : List Dd) (o : Option V), σ' = [some (.ref x), some (.int k0), some (.int n), some (.int g), some (.ref p), o] ∧ Fr x H H' ∧ SrcAt H' x ∧ H' p = some (.lst (ds.map gV)) ∧ ds.length = i ∧ ∀ d ∈ ds, okD k0 d)
    ⟨[], none, rfl, Fr.of e1, hsrc.ex e1, h1, rfl, fun d hd => absurd hd List.not_mem_nil⟩ ?_ ?_
  · rintro i σ' H' hi ⟨ds, o, rfl, f1, q1, g1, hl, od⟩
    have fin : ∀ (d : Dd) (H2 : Hp), Fr x H' H2 → SrcAt H2 x → okD k0 d → Fr x H (upd H2 p (.lst (ds.map gV ++ [gV d]))) ∧ SrcAt (upd H2 p (.lst (ds.map gV ++ [gV d]))) x ∧ upd H2 p (.lst (ds.map gV ++ [gV d])) p = some (.lst ((ds ++ [d]).map gV)) ∧ (ds ++ [d]).length = i + 1 ∧ ∀ e ∈ ds ++ [d], okD k0 e := fun d H2 f2 q2 hd => by
      refine ⟨fun b o nb hb => ?_, ?_, by rw [upd_same, gV_app], by rw [List.length_append, hl]; rfl, fun e he => ?_⟩
      · rw [upd_ne (ne_of_none hb n1)]
        exact f2 b o nb (f1 b o nb hb)
      · obtain ⟨d, s, c, w1, w2⟩ := q2
        exact ⟨d, s, c, by rw [upd_ne hpx.symm]; exact w1, w2⟩
      · rcases List.mem_append.mp he with he | he
        · exact od e he
        · rw [List.mem_singleton.mp he]
          exact hd
    walk_at "w"
    refine ⟨x, 4, rfl, rfl, by decide, by decide, q1, fun r H2 r0 r1 q2 f2 => ?_⟩
    have g2 := f2 p _ hpx g1
    walk_at "w"
    by_cases c : r < g
    · have hsl : SqL K H2 p (ds.map gV) := sq_of g2
      walk_at "w"
      refine r_app (K := K) g2 (sz_lt (by rw [List.length_map]; omega)) ?_
      obtain ⟨a1, a2, a3, a4, a5⟩ := fin none H2 f2 q2 (fun i e => nomatch e)
      walk_at "w"
      exact ⟨_, _, rfl, a1, a2, a3, a4, a5⟩
    · have hsl : SqL K H2 p (ds.map gV) := sq_of g2
      walk_at "w"
      refine ⟨x, k0, rfl, rfl, by omega, by omega, q2, fun r2 H3 r20 r21 q3 f3 => ?_⟩
      have g3 := f3 p _ hpx g2
      walk_at "w"
      refine r_app (K := K) g3 (sz_lt (by rw [List.length_map]; omega)) ?_
      obtain ⟨a1, a2, a3, a4, a5⟩ := fin (some r2) H3 (f2.trans f3) q3 (fun i e => by cases e; exact ⟨r20, r21⟩)
      walk_at "w"
      exact ⟨_, _, rfl, a1, a2, a3, a4, a5⟩
  · rintro σ' H' ⟨ds, o, rfl, f1, q1, g1, hl, od⟩
    walk_at "w"
    exact k p ds H' n1 f1 q1 g1 (by rw [hl]; exact Int.toNat_natCast n) od
theorem dp_mk {K : PySem.W.Frag} {H : Hp} {v : V} {k : Int} {b : List Dd} {ws : List (List Dd)} (h : Dp K H v (dMk k b ws)) : ∃ a pb pw xs, v = .ref a ∧ SqT K H a [.int k, .ref pb, .ref pw] ∧ SqT K H pb (b.map gV) ∧ SqT K H pw xs ∧ DpAll K H xs (ws.map dW) := by
  obtain ⟨a, x, y, z, rfl, s, h1, h2, h3⟩ := dp_t3 h
  obtain rfl := dp_toInt h1
  obtain ⟨pb, rfl, s1⟩ := dp_dW h2
  obtain ⟨pw, xs, rfl, s2, d⟩ := dp_ways h3
  exact ⟨a, pb, pw, xs, rfl, s, s1, s2, d⟩
theorem dp_of_mk {K : PySem.W.Frag} {H : Hp} {a pb pw : Addr} {xs : List V} {k : Int} {b : List Dd} {ws : List (List Dd)} (s : SqT K H a [.int k, .ref pb, .ref pw]) (s1 : SqT K H pb (b.map gV)) (s2 : SqT K H pw xs) (d : DpAll K H xs (ws.map dW)) : Dp K H (.ref a) (dMk k b ws) :=
  .tup s (.cons (.int k) (.cons (dp_of_dW s1) (.cons (.tup s2 d) .nil)))
theorem imm_dMk (k : Int) (b : List Dd) (ws : List (List Dd)) : imm (dMk k b ws) = true := by
  show (true && (imm (dW b) && (imm (.tuple (ws.map dW)) && true))) = true
  rw [imm_dW, imm_dWs]
  rfl
abbrev N__law_made : List Str := ["maker"]
theorem sc__law_made : FnScope N__law_made ["maker"] (defScope s__law_made) := ⟨rfl, rfl, rfl, by decide +kernel, rfl, by decide +kernel, by decide +kernel⟩
theorem ok__law_made {P : Program} {w : World} {K : PySem.W.Frag} {mg : Str → Option Value} {base : Heap} (E : Env P K mg) : Fn P w K mg base CX0 11 "_law_made" (sp1 fun v H Q _ => ∃ k b ws, Dp K H v (dMk k b ws) ∧ MkOk k b ws ∧ ∀ x H2, Ex H H2 → MakAt K H2 x k b ws → Q (.ref x) H2) := by
  obtain ⟨fd, F⟩ := E.dd__law_made
  refine Fn.mk0 F E.g__law_made sc__law_made sp1_len (fun _ _ _ _ _ _ us hl => match us, hl with | [_], _ => rfl) (fun cdv A outer s H vs Q X hr h => ?_)
  have nd := sc__law_made.nd
  obtain ⟨v0, rfl, h⟩ := h
  refine ⟨_, (pss_one (ps_ret (pmk (ok_Maker3 E) hr (by decide) pass0 rfl (pa_cons (pe_ix (kIx K) (pv 0) (pe_int) (fun _ _ => rfl)) (pa_cons (pe_ix (kIx K) (pv 0) (pe_int) (fun _ _ => rfl)) (pa_cons (pe_ix (kIx K) (pv 0) (pe_int) (fun _ _ => rfl)) pa_nil)))))), ?_⟩
  change (_ : TS) _ [some v0] H
  try dsimp only [cxOf, Cx.nox, Cx.blk]
  obtain ⟨k0, b, ws, hd, ok, k⟩ := h
  obtain ⟨a, pb, pw, xs, rfl, s, s1, s2, d⟩ := dp_mk hd
  walk_at "w"
  exact mk_mak (.inr s1) (.inr s2) (ws_of d) ok k

end
section
theorem gI_lit {ns : List Int} {r lo hi : Int} (h : ns.all (fun n => decide (lo ≤ n) && decide (n ≤ hi)) = true) (r0 : 0 ≤ r) (r1 : r < ns.length) : lo ≤ gI ns r ∧ gI ns r ≤ hi := by
  have hl : r.toNat < ns.length := by omega
  have hm : gI ns r ∈ ns := by
    unfold gI
    rw [List.getD_eq_getElem?_getD, List.getElem?_eq_getElem hl]
    exact List.getElem_mem _
  have := List.all_eq_true.mp h _ hm
  simpa using this

end
section
theorem gV_flat (ds : List Dd) : (ds.map gV).all flatV = true := by
  rw [List.all_map, List.all_eq_true]
  intro d _
  cases d <;> rfl
theorem giveIn (ds : List Dd) : inV (.str "give") (ds.map gV) = decide (none ∈ ds) := by
  unfold inV
  induction ds with
  | nil => rfl
  | cons d ds ih =>
    rw [List.map_cons, List.any_cons, ih]
    cases d with
    | none =>
      rw [decide_eq_true (List.mem_cons_self)]
      show ((("give" : Str) == "give") || _) = true
      rw [beq_self_eq_true]
      rfl
    | some i =>
      show (false || _) = _
      rw [Bool.false_or]
      exact decide_eq_decide.mpr ⟨fun h => List.mem_cons_of_mem _ h, fun h => (List.mem_cons.mp h).elim (fun e => nomatch e) id⟩
theorem ins_map (ds : List Dd) (i : Int) : (ds.map gV).take i.toNat ++ [V.str "give"] ++ (ds.map gV).drop i.toNat = (ds.take i.toNat ++ [none] ++ ds.drop i.toNat).map gV := by
  rw [List.map_append, List.map_append, List.map_take, List.map_drop]
  rfl
theorem ins_len (ds : List Dd) (i : Int) : (ds.take i.toNat ++ [none] ++ ds.drop i.toNat).length = ds.length + 1 := by
  rw [List.length_append, List.length_append, List.length_take, List.length_drop, List.length_singleton]
  omega
theorem ins_ok {k : Int} {ds : List Dd} {i : Int} (h : ∀ d ∈ ds, okD k d) : ∀ d ∈ ds.take i.toNat ++ [none] ++ ds.drop i.toNat, okD k d := fun d hd => by
  rcases List.mem_append.mp hd with hd | hd
  · rcases List.mem_append.mp hd with hd | hd
    · exact h d (List.mem_of_mem_take hd)
    · rw [List.mem_singleton.mp hd]
      exact fun i e => nomatch e
  · exact h d (List.mem_of_mem_drop hd)
/-- a row of ways that was found -/
structure Fnd (K : PySem.W.Frag) (H : Hp) (p : Addr) (k : Int) (n : Nat) (m : Nat) (ws : List (List Dd)) : Prop where
  at_ : ∃ xs, H p = some (.lst xs) ∧ DpAll K H xs (ws.map dW)
  len : ws.length = n
  ok : ∀ w ∈ ws, w ≠ [] ∧ w.length ≤ m ∧ ∀ d ∈ w, okD k d
theorem imm_all (ws : List (List Dd)) : immAll (ws.map dW) = true := imm_dWs ws
theorem fr_updN {x p : Addr} {H A A' : Hp} {o : HO} (f : Fr x H A) (n : A p = none) (g : Fr x H A') : Fr x H (upd A' p o) := fun b u nb hb => by
  rw [upd_ne (ne_of_none (f b u nb hb) n)]
  exact g b u nb hb
theorem Fnd.mv {K : PySem.W.Frag} {H H' : Hp} {p : Addr} {k : Int} {n m : Nat} {ws : List (List Dd)} (h : Fnd K H p k n m ws) (t : TEx H H') (e : ∀ xs, H p = some (.lst xs) → H' p = some (.lst xs)) : Fnd K H' p k n m ws := by
  obtain ⟨⟨xs, h1, h2⟩, h3, h4⟩ := h
  exact ⟨⟨xs, e xs h1, dpAll_tex t (imm_all ws) h2⟩, h3, h4⟩
theorem Fnd.add {K : PySem.W.Frag} {H : Hp} {p q : Addr} {k : Int} {n m : Nat} {ws : List (List Dd)} {w : List Dd} {xs : List V} (h : Fnd K H p k n m ws) (e : H p = some (.lst xs)) (s : SqT K H q (w.map gV)) (hw : w ≠ [] ∧ w.length ≤ m ∧ ∀ d ∈ w, okD k d) : Fnd K (upd H p (.lst (xs ++ [.ref q]))) p k (n + 1) m (ws ++ [w]) := by
  obtain ⟨⟨ys, h1, h2⟩, h3, h4⟩ := h
  obtain rfl : xs = ys := by rw [e] at h1; cases h1; rfl
  refine ⟨⟨_, upd_same, ?_⟩, by rw [List.length_append, h3]; rfl, fun u hu => ?_⟩
  · rw [List.map_append]
    have t := TEx.upd (o := .lst (xs ++ [V.ref q])) e
    exact dpAll_app (dpAll_tex t (imm_all ws) h2) (.cons (dp_tex t (imm_dW w) (dp_of_dW s)) .nil)
  · rcases List.mem_append.mp hu with hu | hu
    · exact h4 u hu
    · rw [List.mem_singleton.mp hu]
      exact hw
abbrev spLMaker (K : PySem.W.Frag) : Sp := sp4 fun s a b c H Q _ => ∃ (x : Addr) (k : Int), s = .ref x ∧ a = .int k ∧ b = .int 4 ∧ c = .bl true ∧ 1 ≤ k ∧ k ≤ 3 ∧ SrcAt H x ∧ ∀ v bs ws H', Fr x H H' → SrcAt H' x → Dp K H' v (dMk k bs ws) → MkOk k bs ws → bs.length ≤ 599 → Q v H'
abbrev N__law_maker : List Str := ["source", "inlets", "most", "stops", "begin", "found", "k", "way"]
theorem sc__law_maker : FnScope N__law_maker ["source", "inlets", "most", "stops"] (defScope s__law_maker) := ⟨rfl, rfl, rfl, by decide +kernel, rfl, by decide +kernel, by decide +kernel⟩
theorem ok__law_maker {P : Program} {w : World} {K : PySem.W.Frag} {mg : Str → Option Value} {base : Heap} (E : Env P K mg) : Fn P w K mg base CX0 3 "_law_maker" (spLMaker K) := by
  obtain ⟨fd, F⟩ := E.dd__law_maker
  refine Fn.mk0 F E.g__law_maker sc__law_maker sp4_len (fun _ _ _ _ _ _ us hl => match us, hl with | [_, _, _, _], _ => rfl) (fun cdv A outer s H vs Q X hr h => ?_)
  have nd := sc__law_maker.nd
  obtain ⟨v0, v1, v2, v3, rfl, h⟩ := h
  refine ⟨_, (pss_cons (ps_set (i := 4) nd rfl (.inl rfl) (pc (ok__law_deeds E) hr (by decide) pass0 rfl (pa_cons (pv 0) (pa_cons (pv 1) (pa_cons (pe_ix (kIx K) (pe_lst (pa_cons (pe_int) (pa_cons (pe_int) (pa_cons (pe_int) (pa_cons (pe_int) (pa_cons (pe_int) (pa_cons (pe_int) (pa_cons (pe_int) (pa_cons (pe_int) pa_nil))))))))) (pc (ok__law_pick E) hr (by decide) pass0 rfl (pa_cons (pv 0) (pa_cons (pe_int) pa_nil))) (fun _ _ => rfl)) (pa_cons (pe_int) pa_nil))))))
  (pss_cons (ps_set (i := 5) nd rfl (.inl rfl) (pe_lst (pa_nil)))
  (pss_cons (ps_for PassesOwn.never rfl (pi_range1 (by rfl) E.f_range (pa_cons (pe_op (kAdd K) (pe_int) (pc (ok__law_pick E) hr (by decide) pass0 rfl (pa_cons (pv 0) (pa_cons (pv 2) pa_nil)))) pa_nil)) (pg_name (i := 6) nd rfl (.inl rfl))
   (pss_cons (ps_set (i := 7) nd rfl (.inl rfl) (pc (ok__law_deeds E) hr (by decide) pass0 rfl (pa_cons (pv 0) (pa_cons (pv 1) (pa_cons (pe_op (kAdd K) (pe_int) (pc (ok__law_pick E) hr (by decide) pass0 rfl (pa_cons (pv 0) (pa_cons (pe_int) pa_nil)))) (pa_cons (pe_ix (kIx K) (pe_lst (pa_cons (pe_int) (pa_cons (pe_int) (pa_cons (pe_int) (pa_cons (pe_int) pa_nil))))) (pc (ok__law_pick E) hr (by decide) pass0 rfl (pa_cons (pv 0) (pa_cons (pe_int) pa_nil))) (fun _ _ => rfl)) pa_nil))))))
  (pss_cut (ps_if (PW.pt (pw_and (pt_cmpR (kNotInF K) (pe_str) (pv 7) rfl) (pw_and1 (pt_not (PW.pt (pw_and (kTru K (pv 3) (by intro _; rfl)) (pw_and1 (pt_cmpR (kEq K hr) (pc (ok__law_pick E) hr (by decide) pass0 rfl (pa_cons (pv 0) (pa_cons (pe_int) pa_nil))) (pe_int) (nomark _)))))))))
   (pss_one (ps_expr (kBM K (pe_bm PySem.F.plainAttrs_list PySem.F.slot_list_insert PySem.F.type_list_insert mt_insert (pv 7) (pa_cons (pc (ok__law_pick E) hr (by decide) pass0 rfl (pa_cons (pv 0) (pa_cons (pe_op (kAdd K) (pe_callB (kLen K) (by rfl) E.f_len (by decide +kernel) (pa_cons (pv 7) pa_nil)) (pe_int)) pa_nil))) (pa_cons (pe_str) pa_nil))))))
   pss_nil)
  (pss_one (ps_expr (kBM K (pe_bm PySem.F.plainAttrs_list PySem.F.slot_list_append PySem.F.type_list_append mt_append (pv 5) (pa_cons (pe_callTy (kTup K) (by rfl) E.f_tuple (by decide +kernel) (pa_cons (pv 7) pa_nil)) pa_nil))))))))
  (pss_one (ps_ret (pe_tup (pa_cons (pv 1) (pa_cons (pe_callTy (kTup K) (by rfl) E.f_tuple (by decide +kernel) (pa_cons (pv 4) pa_nil)) (pa_cons (pe_callTy (kTup K) (by rfl) E.f_tuple (by decide +kernel) (pa_cons (pv 5) pa_nil)) pa_nil))))))))), ?_⟩
  change (_ : TS) _ [some v0, some v1, some v2, some v3, none, none, none, none] H
  try dsimp only [cxOf, Cx.nox, Cx.blk]
  obtain ⟨x, k0, rfl, rfl, rfl, rfl, k1, k3, hsrc, k⟩ := h
  walk_at "w"
  intro p1 H1 n1 e1 h1
  walk_at "w"
  refine ⟨x, 8, rfl, rfl, by decide, by decide, hsrc.ex e1, fun r1 H2 r10 r18 q2 f2 => ?_⟩
  have g1 : H2 p1 = some (.lst (vI [0, 1, 2, 0, 3, 1, 4, 2])) := f2 p1 _ (hsrc.ne n1) h1
  have b1 := gI_lit (ns := [0, 1, 2, 0, 3, 1, 4, 2]) (lo := 0) (hi := 4) (by decide) r10 r18
  have F2 : Fr x H H2 := (Fr.of e1).trans f2
  walk_at "w"
  obtain ⟨m1, hm1⟩ := Int.eq_ofNat_of_zero_le b1.1
  rw [hm1] at b1 ⊢
  refine ⟨x, k0, m1, 2, rfl, rfl, rfl, rfl, k1, k3, by omega, q2, fun pb bs H3 n3 f3 q3 h3 hl3 ob => ?_⟩
  have pbx : pb ≠ x := q2.ne n3
  have F3 : Fr x H H3 := F2.trans f3
  walk_at "w"
  intro pf H4 n4 e4 h4
  have pfx : pf ≠ x := q3.ne n4
  have n4f := n4
  have h4b := e4 _ _ h3
  have pbf : pb ≠ pf := ne_of_none h3 n4
  walk_at "w"
  refine ⟨x, 4, rfl, rfl, by decide, by decide, q3.ex e4, fun rn H5 rn0 rn1 q5 f5 => ?_⟩
  have F5 : Fr x H H5 := (F3.trans (Fr.of e4)).trans f5
  have h5 := f5 _ _ pfx h4
  have h5b := f5 _ _ pbx h4b
  walk_at "w"
  refine for_range (lo := 0) (Pv := fun i σ' H' => ∃ (ws : List (List Dd)) (u v : Option V), σ' = [some (.ref x), some (.int k0), some (.int 4), some (.bl true), some (.ref pb), some (.ref pf), u, v] ∧ Fr x H H' ∧ SrcAt H' x ∧ H' pb = some (.lst (bs.map gV)) ∧ Fnd K H' pf k0 i 24 ws)
    ⟨[], _, _, rfl, F5, q5, h5b, ⟨[], h5, .nil⟩, rfl, fun w hw => absurd hw List.not_mem_nil⟩ ?_ ?_
  · rintro i σ' A0 hi ⟨ws, u, v, rfl, fA, qA, gb, fd⟩
    walk_at "w"
    refine ⟨x, 3, rfl, rfl, by decide, by decide, qA, fun r2 A1 r20 r21 qA1 fA1 => ?_⟩
    walk_at "w"
    intro p2 A2 n2 e2 g2
    walk_at "w"
    refine ⟨x, 4, rfl, rfl, by decide, by decide, qA1.ex e2, fun r3 A3 r30 r31 q3 f3 => ?_⟩
    have g3 : A3 p2 = some (.lst (vI [2, 2, 1, 3])) := f3 p2 _ (qA1.ne n2) g2
    walk_at "w"
    obtain ⟨m, hm⟩ := Int.eq_ofNat_of_zero_le (show 0 ≤ 1 + r2 by omega)
    rw [hm]
    have F3' : Fr x A0 A3 := (fA1.trans (Fr.of e2)).trans f3
    refine ⟨x, k0, m, _, rfl, rfl, rfl, rfl, k1, k3, by omega, q3, fun pw ds A4 n4 f4 q4 g4 hl4 od => ?_⟩
    have F4 : Fr x A0 A4 := F3'.trans f4
    have pwx : pw ≠ x := q3.ne n4
    have F3H : Fr x H A3 := fA.trans F3'
    have gb4 := F4 _ _ pbx gb
    have fd4 : Fnd K A4 pf k0 i 24 ws := fd.mv (Fr.tex F4 qA) fun xs e => F4 _ _ pfx e
    have pbw : pb ≠ pw := ne_of_none (F3' _ _ pbx gb) n4
    have pfw : pf ≠ pw := by
      obtain ⟨⟨xs, e, _⟩, _, _⟩ := fd
      exact ne_of_none (F3' _ _ pfx e) n4
    refine w_cut (M := fun σ' H' => ∃ ds' : List Dd, σ' = [some (.ref x), some (.int k0), some (.int 4), some (.bl true), some (.ref pb), some (.ref pf), some (.int (0 + (i : Int))), some (.ref pw)] ∧ Fr x H H' ∧ SrcAt H' x ∧ H' pb = some (.lst (bs.map gV)) ∧ Fnd K H' pf k0 i 24 ws ∧ H' pw = some (.lst (ds'.map gV)) ∧ ds' ≠ [] ∧ ds'.length ≤ m + 1 ∧ ∀ d ∈ ds', okD k0 d) ?_ ?_
    · dsimp only [List.set]
      walk_at "w"
      refine r_notInF (.inl (sq_of g4)) rfl (gV_flat ds) ?_
      rw [giveIn]
      have skip : ∀ A5, Fr x A4 A5 → SrcAt A5 x → Fr x H A5 ∧ SrcAt A5 x ∧ A5 pb = some (.lst (bs.map gV)) ∧ Fnd K A5 pf k0 i 24 ws ∧ A5 pw = some (.lst (ds.map gV)) ∧ ds ≠ [] ∧ ds.length ≤ m + 1 ∧ ∀ d ∈ ds, okD k0 d := fun A5 f5 q5 =>
        ⟨(fA.trans F4).trans f5, q5, f5 _ _ pbx gb4, fd4.mv (Fr.tex f5 q4) fun xs e => f5 _ _ pfx e, f5 _ _ pwx g4, fun e => by rw [e] at hl4; simp at hl4; omega, by omega, od⟩
      by_cases c : none ∈ ds
      · rw [decide_eq_true c]
        walk_at "w"
        exact ⟨_, rfl, skip A4 (Fr.refl _ _) q4⟩
      · rw [decide_eq_false c]
        walk_at "w"
        refine ⟨x, 3, rfl, rfl, by decide, by decide, q4, fun r4 A5 r40 r41 q5 f5 => ?_⟩
        walk_at "w"
        by_cases c2 : r4 = 1
        · walk_at "w"
          exact ⟨_, rfl, skip A5 f5 q5⟩
        · have g5 := f5 _ _ pwx g4
          have sl5 : SqL K A5 pw (ds.map gV) := sq_of g5
          walk_at "w"
          rw [List.length_map]
          refine ⟨x, _, rfl, rfl, by omega, by omega, q5, fun r5 A6 r50 r51 q6 f6 => ?_⟩
          have g6 := f6 _ _ pwx g5
          walk_at "w"
          refine ⟨pw, ds.map gV, r5, .str "give", rfl, rfl, g6, (by rw [List.length_map]; exact sz_lt (by omega)), r50, by omega, ?_⟩
          rw [ins_map]
          have F6 : Fr x H A6 := ((fA.trans F4).trans f5).trans f6
          have t6 : TEx A4 A6 := (Fr.tex f5 q4).trans (Fr.tex f6 q5)
          walk_at "w"
          refine ⟨_, rfl, fr_updN F3H n4 F6, src_fr pwx.symm Fr.upd q6, ?_, ?_, upd_same, fun e => ?_, by rw [ins_len]; omega, ins_ok od⟩
          · rw [upd_ne pbw]
            exact f6 _ _ pbx (f5 _ _ pbx gb4)
          · exact fd4.mv (t6.trans (TEx.upd g6)) fun xs e => by rw [upd_ne pfw]; exact f6 _ _ pfx (f5 _ _ pfx e)
          · have := ins_len ds r5
            rw [e] at this
            simp at this
    rintro σ' A7 ⟨ds', rfl, F7, q7, gb7, fd7, g7, ne7, zl7, od7⟩
    have sl7 : SqL K A7 pw (ds'.map gV) := sq_of g7
    obtain ⟨⟨xs, ex, dx⟩, hlen, hok⟩ := id fd7
    have slf : SqL K A7 pf xs := sq_of ex
    walk_at "w"
    intro pt A8 e8 s8
    have ex8 := e8 _ _ ex
    have fd8 := fd7.mv (TEx.of e8) fun ys e => e8 _ _ e
    walk_at "w"
    refine r_app (K := K) ex8 (sz_lt (by have := (dpAll_len dx).trans (List.length_map ..); omega)) ?_
    walk_at "w"
    refine ⟨_, _, _, rfl, ?_, ?_, ?_, fd8.add ex8 s8 ⟨ne7, by omega, od7⟩⟩
    · exact fr_updN F3 n4f (F7.trans (Fr.of e8))
    · exact src_fr pfx.symm Fr.upd (q7.ex e8)
    · rw [upd_ne pbf]
      exact e8 _ _ gb7
  · rintro σ' A0 ⟨ws, u, v, rfl, fA, qA, gb, fd⟩
    obtain ⟨⟨xs, ex, dx⟩, hlen, hok⟩ := id fd
    have slb : SqL K A0 pb (bs.map gV) := sq_of gb
    have slf : SqL K A0 pf xs := sq_of ex
    walk_at "w"
    intro t1 A1 e1' s1
    walk_at "w"
    intro t2 A2 e2' s2
    walk_at "w"
    intro t3 A3 n3' e3' g3'
    have E3 := (e1'.trans e2').trans e3'
    refine k _ bs ws A3 (fA.trans (Fr.of E3)) (qA.ex E3) (dp_of_mk (st_of g3') (ex_t (e2'.trans e3') s1) (ex_t e3' s2) (dpAll_ex E3 dx)) ⟨k1, k3, ob, by omega, by omega, by omega, fun w hw => ⟨(hok w hw).1, (hok w hw).2.2⟩, fun w hw => ?_⟩ (by omega)
    have := (hok w hw).2.1
    split <;> omega

end
section
/-- whether a value is an unknown's name -/
def unkV : V → Bool
  | .str w => (decide (1 ≤ (w.length : Int)) && decide ((w.length : Int) ≤ 2)) && w.cps.toList.all lwr
  | _ => false
theorem unkV_D {K : PySem.W.Frag} {H : Hp} {v : V} {d : PyData} (h : Dp K H v d) : wordD 1 2 d = unkV v := by cases h <;> rfl
abbrev N_is_unknown_name : List Str := ["thing"]
theorem sc_is_unknown_name : FnScope N_is_unknown_name ["thing"] (defScope s_is_unknown_name) := ⟨rfl, rfl, rfl, by decide +kernel, rfl, by decide +kernel, by decide +kernel⟩
theorem ok_is_unknown_name {P : Program} {w : World} {K : PySem.W.Frag} {mg : Str → Option Value} {base : Heap} (E : Env P K mg) : Fn P w K mg base CX0 2 "is_unknown_name" (sp1 fun v H Q _ => ∃ d, Dp K H v d ∧ SmS d ∧ ∀ H', Ex H H' → Q (.bl (unkV v)) H') := by
  obtain ⟨fd, F⟩ := E.dd_is_unknown_name
  refine Fn.mk0 F E.g_is_unknown_name sc_is_unknown_name sp1_len (fun _ _ _ _ _ _ us hl => match us, hl with | [_], _ => rfl) (fun cdv A outer s H vs Q X hr h => ?_)
  have nd := sc_is_unknown_name.nd
  obtain ⟨v0, rfl, h⟩ := h
  refine ⟨_, (pss_one (ps_ret (pcD (ok_is_word3 E) hr (by decide) pass0 rfl (pa_cons (pv 0) (pa_cons (pe_int) (pa_cons (pe_int) pa_nil)))))), ?_⟩
  change (_ : TS) _ [some v0] H
  try dsimp only [cxOf, Cx.nox, Cx.blk]
  obtain ⟨d, hd, sm, k⟩ := h
  walk_at "w"
  refine w_callD ?_
  walk_at "w"
  refine ⟨_, _, _, _, rfl, d, 1, 2, hd, rfl, rfl, rfl, by decide, sm, fun H' e => ?_⟩
  rw [unkV_D hd]
  exact k _ e

end
section
--@import HandS.Small
--@import HandS.Dict
section
variable {X : Cx} {j : Nat} {o i : Expr} {pos : Pos} {td ty : TE}
theorem kDIn (hr : Room j X.A) (hi : PE X i ty) (ho : PE X o td) : PC X .In i o (tDIn ty td) := pc_din (by have := hr.un; omega) hi ho
theorem kDNi (hr : Room j X.A) (hi : PE X i ty) (ho : PE X o td) : PC X .NotIn i o (tDNotIn ty td) := pc_dnotin (by have := hr.un; omega) hi ho
theorem kDGet (hr : Room j X.A) (ho : PE X o td) (hi : PE X i ty) (hs : NoSl i) : PE X (.Subscript o i pos) (tDGet td ty) := pe_dget (by have := hr.un; omega) ho hi hs
theorem kSetD (hr : Room j X.A) : PSet X rSetD := set_dict (by have := hr.un; omega)
end

end
section
def okW (w : Str) : Bool := wordV (.str w)
theorem okW_len {w : Str} (h : okW w = true) : w.length ≤ 8 := by
  have h1 := (Bool.and_eq_true_iff.mp (show ((decide (1 ≤ (w.length : Int)) && decide ((w.length : Int) ≤ 8)) && w.cps.toList.all lwr) = true from h)).1
  have := of_decide_eq_true (Bool.and_eq_true_iff.mp h1).2
  omega
section
variable {K : PySem.W.Frag} {H H' : Hp} {v : V} {ws : List Str} {b : Bool}
theorem dpAll_of_strs : ∀ {ws : List Str}, DpAll K H (ws.map V.str) (ws.map .str)
  | [] => .nil
  | w :: _ => .cons (.str w) dpAll_of_strs
theorem dpAll_strs : ∀ {ws : List Str} {vs : List V}, DpAll K H vs (ws.map .str) → vs = ws.map V.str
  | [], _, .nil => rfl
  | _ :: _, _, .cons (.str _) r => by rw [dpAll_strs r]; rfl
theorem dp_strs (h : Dp K H v (.tuple (ws.map .str))) : ∃ a, v = .ref a ∧ SqT K H a (ws.map V.str) := by
  cases h with
  | tup h a => rw [dpAll_strs a] at h; exact ⟨_, rfl, h⟩
theorem dDeep_strs (ws : List Str) : dDeepAll (ws.map .str) = ws.map .str := by
  rw [dDeepAll_eq, List.map_map]; rfl
theorem shpAll_strs {n : Nat} : ∀ ws : List Str, shpAll n (ws.map .str) = true
  | [] => by unfold shpAll; rfl
  | w :: ws => by
    rw [List.map_cons]
    unfold shpAll
    rw [shpAll_strs ws, show shp n (.str w) = true by cases n <;> rfl]
    rfl
end
theorem okW_ok {w : Str} (h : okW w = true) : (PyData.str w).canLay0 = true := by
  have h1 := (Bool.and_eq_true_iff.mp (show ((decide (1 ≤ (w.length : Int)) && decide ((w.length : Int) ≤ 8)) && w.cps.toList.all lwr) = true from h)).2
  show w.cps.all (· < 0x110000) = true
  rw [← Array.all_toList, List.all_eq_true]
  intro c hc
  have := List.all_eq_true.mp h1 c hc
  unfold lwr at this
  simp at this
  simp
  omega
theorem okW_sh {w : Str} (h : okW w = true) : SeqAt.shaped (.str w) = true := by
  show ((PyData.str w).canLay0 && decide (0 ≤ 64)) = true
  rw [okW_ok h]
  rfl
theorem strs_lay {ws : List Str} (h : ∀ w ∈ ws, okW w = true) : PyData.canLayAll0 (ws.map .str) = true ∧ PyData.depthAll (ws.map .str) = 0 := by
  induction ws with
  | nil => exact ⟨rfl, rfl⟩
  | cons w ws ih =>
    obtain ⟨a, b⟩ := ih fun x hx => h x (List.mem_cons_of_mem _ hx)
    refine ⟨?_, ?_⟩
    · show ((PyData.str w).canLay0 && PyData.canLayAll0 (ws.map .str)) = true
      rw [a, okW_ok (h w List.mem_cons_self)]
      rfl
    · show max 0 (PyData.depthAll (ws.map .str)) = 0
      rw [b]
      rfl
theorem shaped_strs {ws : List Str} (h : ∀ w ∈ ws, okW w = true) : SeqAt.shaped (.tuple (ws.map .str)) = true := by
  show (PyData.canLayAll0 (ws.map .str) && decide (PyData.depthAll (ws.map .str) + 1 ≤ 64)) = true
  rw [(strs_lay h).1, (strs_lay h).2]
  rfl
theorem eqv_str (x y : Str) : PyData.eqv (.str x) (.str y) = decide (x = y) := by
  show (x == y) = _
  by_cases c : x = y <;> simp [c]
theorem eqv_strs : ∀ xs ys : List Str, PyData.eqvAll (xs.map .str) (ys.map .str) = decide (xs = ys)
  | [], [] => rfl
  | [], _ :: _ => rfl
  | _ :: _, [] => rfl
  | x :: xs, y :: ys => by
    show (PyData.eqv (.str x) (.str y) && PyData.eqvAll (xs.map .str) (ys.map .str)) = _
    rw [eqv_strs xs ys, eqv_str]
    by_cases h : x = y
    · subst h; simp
    · simp [h]
section
variable {K : PySem.W.Frag} {H : Hp} {a b : Addr} {xs ys : List Str} {Q : VK}
theorem dp_of_strs (h : SqT K H a (xs.map V.str)) : Dp K H (.ref a) (.tuple (xs.map .str)) := .tup h dpAll_of_strs
theorem r_eqTS (ha : SqT K H a (xs.map V.str)) (hb : SqT K H b (ys.map V.str)) (ox : ∀ w ∈ xs, okW w = true) (oy : ∀ w ∈ ys, okW w = true) (h : Q (.bl (decide (xs = ys))) H) : rEqU K (.ref a) (.ref b) H Q :=
  r_eqD (dp_of_strs ha) (dp_of_strs hb) (shaped_strs ox) (shaped_strs oy) (by rw [show PyData.eqv (.tuple (xs.map .str)) (.tuple (ys.map .str)) = decide (xs = ys) from eqv_strs xs ys]; exact h)
theorem r_neTS (ha : SqT K H a (xs.map V.str)) (hb : SqT K H b (ys.map V.str)) (ox : ∀ w ∈ xs, okW w = true) (oy : ∀ w ∈ ys, okW w = true) (h : Q (.bl (!decide (xs = ys))) H) : rNeU K (.ref a) (.ref b) H Q :=
  r_neD (dp_of_strs ha) (dp_of_strs hb) (shaped_strs ox) (shaped_strs oy) (by rw [show PyData.eqv (.tuple (xs.map .str)) (.tuple (ys.map .str)) = decide (xs = ys) from eqv_strs xs ys]; exact h)
end
theorem i_enumE {K : PySem.W.Frag} {ta : TA} {σ : L2.St} {H : Hp} {R : It → Hp → Prop} (h : ta σ H fun vs H1 => ∃ a xs, vs = [.ref a] ∧ ((SqL K H1 a xs ∧ R (Ite K a) H1) ∨ (SqT K H1 a xs ∧ R (IteT K a) H1))) : iEnumE K ta σ H R := h
theorem for_enumL {K : PySem.W.Frag} {a : Addr} {xs : List V} {g : TG} {tb : TS} {D : Ends} {σ : L2.St} {H : Hp} (Pv : Nat → L2.St → Hp → Prop) (h0 : Pv 0 σ H) (hl : ∀ i σ H, i ≤ xs.length → Pv i σ H → SqL K H a xs)
    (hs : ∀ i x σ H T, xs[i]? = some x → Pv i σ H → H T = none → g (.ref T) σ (upd H T (.tup [.int (i : Nat), x])) fun σ2 H2 => tb { D with nx := Pv (i + 1), ct := Pv (i + 1), bk := D.nx } σ2 H2) (hd : ∀ σ H, Pv xs.length σ H → D.nx σ H) : ForJ (Ite K a) g tb D σ H := by
  refine for_it (walk_enum (K := K) (a := a) (xs := xs)) Pv h0 hl ?_ hd
  rintro i v σ H H' hi p ⟨T, x, y, rfl, hT, rfl, hx, hy⟩
  cases hx
  exact hs i y σ H T hy p hT

end
section
/-- what stands in the maker's place -/
inductive Mu where
  | mk (k : Int) (b : List Dd) (ws : List (List Dd))
  | un (u : Str)
  deriving DecidableEq
structure Rw where
  nm : Str
  mu : Mu
  src : List Str
  deriving DecidableEq
def vS (l : List Str) : List V := l.map V.str
def dS (l : List Str) : PyData := .tuple (l.map .str)
def dMu : Mu → PyData
  | .mk k b ws => dMk k b ws
  | .un u => .str u
def dRw (r : Rw) : PyData := .tuple [.str r.nm, dMu r.mu, dS r.src]
def dWb (gs : List Str) (rs : List Rw) : PyData := .tuple [dS gs, .tuple (rs.map dRw)]
/-- the one number of inlets of an unknown's name -/
def unkN (u : Str) : Int := if u = "f" ∨ u = "by" then 1 else if u = "k" ∨ u = "ab" then 2 else 3
def okU (u : Str) : Bool := unkV (.str u)
def MuOk (n : Nat) : Mu → Prop
  | .mk k b ws => MkOk k b ws ∧ k = n
  | .un u => okU u = true ∧ 1 ≤ n ∧ unkN u = n
structure RwOk (r : Rw) : Prop where
  nm : okW r.nm = true
  src : ∀ s ∈ r.src, okW s = true
  s3 : r.src.length ≤ 3
  mu : MuOk r.src.length r.mu
structure WbOk (gs : List Str) (rs : List Rw) : Prop where
  g3 : gs.length ≤ 3
  r1 : 1 ≤ rs.length
  r6 : rs.length ≤ 6
  gok : ∀ g ∈ gs, okW g = true
  rok : ∀ r ∈ rs, RwOk r
  nd : (gs ++ rs.map Rw.nm).Nodup
  mem : ∀ r ∈ rs, ∀ s ∈ r.src, s ∈ gs ++ rs.map Rw.nm
section
variable {K : PySem.W.Frag} {H H' : Hp} {v : V}
def MuAt (K : PySem.W.Frag) (H : Hp) (v : V) : Mu → Prop
  | .mk k b ws => ∃ x, v = .ref x ∧ MakAt K H x k b ws
  | .un u => v = .str u
theorem ex_mu (e : Ex H H') {m : Mu} (h : MuAt K H v m) : MuAt K H' v m := by
  cases m with
  | mk k b ws => obtain ⟨x, rfl, h⟩ := h; exact ⟨x, rfl, ex_mak e h⟩
  | un u => exact h
def RowAt (K : PySem.W.Frag) (H : Hp) (v : V) (r : Rw) : Prop := ∃ p vm q, v = .ref p ∧ SqT K H p [.str r.nm, vm, .ref q] ∧ MuAt K H vm r.mu ∧ SqT K H q (vS r.src)
theorem ex_row (e : Ex H H') {r : Rw} (h : RowAt K H v r) : RowAt K H' v r := by
  obtain ⟨p, vm, q, rfl, h1, h2, h3⟩ := h
  exact ⟨p, vm, q, rfl, ex_t e h1, ex_mu e h2, ex_t e h3⟩
/-- rows -/
inductive RowsAt (K : PySem.W.Frag) (H : Hp) : List V → List Rw → Prop
  | nil : RowsAt K H [] []
  | cons {v : V} {r : Rw} {vs : List V} {rs : List Rw} (h : RowAt K H v r) (t : RowsAt K H vs rs) : RowsAt K H (v :: vs) (r :: rs)
theorem ex_rows (e : Ex H H') : ∀ {vs : List V} {rs : List Rw}, RowsAt K H vs rs → RowsAt K H' vs rs
  | _, _, .nil => .nil
  | _, _, .cons h t => .cons (ex_row e h) (ex_rows e t)
theorem rows_len : ∀ {vs : List V} {rs : List Rw}, RowsAt K H vs rs → vs.length = rs.length
  | _, _, .nil => rfl
  | _, _, .cons _ t => congrArg Nat.succ (rows_len t)
theorem rows_get : ∀ {vs : List V} {rs : List Rw} {i : Nat} {x : V}, RowsAt K H vs rs → vs[i]? = some x → ∃ r, rs[i]? = some r ∧ RowAt K H x r
  | _, _, 0, _, .cons h _, e => by simp at e; subst e; exact ⟨_, rfl, h⟩
  | _, _, i + 1, x, .cons _ t, e => by
    obtain ⟨r, h1, h2⟩ := rows_get (i := i) (x := x) t (by simpa using e)
    exact ⟨r, by simpa using h1, h2⟩
theorem rows_get2 : ∀ {vs : List V} {rs : List Rw} {i : Nat} {r : Rw}, RowsAt K H vs rs → rs[i]? = some r → ∃ x, vs[i]? = some x ∧ RowAt K H x r
  | _, _, 0, _, .cons h _, e => by simp at e; subst e; exact ⟨_, rfl, h⟩
  | _, _, i + 1, r, .cons _ t, e => by
    obtain ⟨x, h1, h2⟩ := rows_get2 (i := i) (r := r) t (by simpa using e)
    exact ⟨x, by simpa using h1, h2⟩
theorem rows_app : ∀ {vs ws : List V} {rs ts : List Rw}, RowsAt K H vs rs → RowsAt K H ws ts → RowsAt K H (vs ++ ws) (rs ++ ts)
  | _, _, _, _, .nil, h => h
  | _, _, _, _, .cons h t, g => .cons h (rows_app t g)
theorem rows_snoc {vs : List V} {rs : List Rw} {r : Rw} (t : RowsAt K H vs rs) (h : RowAt K H v r) : RowsAt K H (vs ++ [v]) (rs ++ [r]) := rows_app t (.cons h .nil)
theorem flat_vS (l : List Str) : (vS l).all flatV = true := by
  rw [List.all_eq_true]
  intro x hx
  obtain ⟨w, _, rfl⟩ := List.mem_map.mp hx
  rfl
theorem inV_strs (w : Str) : ∀ l : List Str, inV (.str w) (vS l) = decide (w ∈ l)
  | [] => rfl
  | x :: l => by
    have ih := inV_strs w l
    unfold inV vS at ih ⊢
    rw [List.map_cons, List.any_cons, ih]
    show ((x == w) || _) = _
    by_cases c : w = x
    · subst c; simp
    · rw [show (x == w) = false from beq_false_of_ne fun e => c e.symm, Bool.false_or]
      exact decide_eq_decide.mpr ⟨fun h => List.mem_cons_of_mem _ h, fun h => (List.mem_cons.mp h).elim (fun e => absurd e c) id⟩
theorem atI_vS0 {a b c : V} : atI [a, b, c] 0 = some a := rfl
theorem atI_vS1 {a b c : V} : atI [a, b, c] 1 = some b := rfl
theorem atI_vS2 {a b c : V} : atI [a, b, c] 2 = some c := rfl
theorem sm_W {w : Str} (h : okW w = true) : SmS (.str w) := fun w' e => by cases e; have := okW_len h; omega
theorem okU_len {w : Str} (h : okU w = true) : 1 ≤ w.length ∧ w.length ≤ 2 := by
  have h1 := (Bool.and_eq_true_iff.mp (show ((decide (1 ≤ (w.length : Int)) && decide ((w.length : Int) ≤ 2)) && w.cps.toList.all lwr) = true from h)).1
  have a := of_decide_eq_true (Bool.and_eq_true_iff.mp h1).1
  have b := of_decide_eq_true (Bool.and_eq_true_iff.mp h1).2
  omega
theorem sm_U {w : Str} (h : okU w = true) : SmS (.str w) := fun w' e => by cases e; have := okU_len h; omega
/-- the table of inlets by unknown -/
def IlAt (H : Hp) (a : Addr) : Prop := ∃ kvs : List (Key × V), H a = some (.dK kvs) ∧ kvs.length ≤ 100 ∧ ∀ u o, valV kvs (.inr u) = some o → o = .int (unkN u)
theorem il_put {a : Addr} {kvs : List (Key × V)} {u : Str} (h : ∀ w o, valV kvs (.inr w) = some o → o = .int (unkN w)) : ∀ w o, valV (putK kvs (.inr u) (.int (unkN u))) (.inr w) = some o → o = .int (unkN w) := fun w o e => by
  rw [valV_put] at e
  split at e
  · rename_i q
    cases q
    cases e
    rfl
  · exact h w o e
theorem ex_il {a : Addr} (e : Ex H H') (h : IlAt H a) : IlAt H' a := by
  obtain ⟨kvs, g, z, h⟩ := h
  exact ⟨kvs, e _ _ g, z, h⟩
end

end
section
abbrev spLi (K : PySem.W.Frag) : Sp := sp1 fun v H Q _ => (∃ a xs, v = .ref a ∧ SqE K H a xs ∧ ∀ H', Ex H H' → Q (.bl true) H') ∨ (∃ d, Dp K H v d ∧ dIsSeq d = false ∧ ∀ H', Ex H H' → Q (.bl false) H')
--derivation of is_listed:
theorem ok_is_listedE {P : Program} {w : World} {K : PySem.W.Frag} {mg : Str → Option Value} {base : Heap} (E : Env P K mg) : Fn P w K mg base CX0 1 "is_listed" (spLi K) := by
  obtain ⟨fd, F⟩ := E.dd_is_listed
  refine Fn.mk0 F E.g_is_listed sc_is_listed sp1_len (fun _ _ _ _ _ _ us hl => match us, hl with | [_], _ => rfl) (fun cdv A outer s H vs Q X hr h => ?_)
  have nd := sc_is_listed.nd
  obtain ⟨v0, rfl, h⟩ := h
  refine ⟨_, (pss_one (ps_ret (pe_callB (kIsiT K) (by rfl) E.f_isinstance (by decide +kernel) (pa_cons (pv 0) (pa_cons (pe_tup (pa_cons (pe_bltn (v := .ty "tuple") (by rfl) E.f_tuple (by decide +kernel) rfl) (pa_cons (pe_bltn (v := .ty "list") (by rfl) E.f_list (by decide +kernel) rfl) pa_nil))) pa_nil))))), ?_⟩
  change (_ : TS) _ [some v0] H
  rcases h with ⟨a, xs, rfl, s | s, k⟩ | ⟨d, hd, hn, k⟩
  · walk_at "w"
    intro p H1 n1 e1 h1
    refine r_isiT (b := true) h1 (SqL.ty (ex_l e1 s)) rfl ?_
    exact k _ e1
  · walk_at "w"
    intro p H1 n1 e1 h1
    refine r_isiT (b := true) h1 (SqT.ty (ex_t e1 s)) rfl ?_
    exact k _ e1
  · cases d with
    | dict x => exact (dp_nodict hd).elim
    | list x => cases hn
    | tuple x => cases hn
    | _ => cases hd <;> (walk_at "w"; intro p H1 n1 e1 h1; walk_at "w"; exact k _ (by walk_at "ex"))

end
section
/-- tuples and instances stand -/
def KEx (H H' : Hp) : Prop := TEx H H' ∧ ∀ a C dx fs, H a = some (.ins C dx fs) → H' a = some (.ins C dx fs)
theorem KEx.of {H H' : Hp} (e : Ex H H') : KEx H H' := ⟨TEx.of e, fun _ _ _ _ h => e _ _ h⟩
theorem KEx.refl (H : Hp) : KEx H H := KEx.of (Ex.refl _)
theorem KEx.trans {H H1 H2 : Hp} (a : KEx H H1) (b : KEx H1 H2) : KEx H H2 := ⟨a.1.trans b.1, fun x C d f h => b.2 x C d f (a.2 x C d f h)⟩
theorem KEx.upd {H : Hp} {p : Addr} {xs : List V} {o : HO} (h : H p = some (.lst xs)) : KEx H (L2.upd H p o) := ⟨TEx.upd h, fun a C dx fs q => by
  rw [upd_ne (by rintro rfl; rw [h] at q; cases q)]
  exact q⟩
theorem KEx.updD {H : Hp} {p : Addr} {kvs : List (Key × V)} {o : HO} (h : H p = some (.dK kvs)) : KEx H (L2.upd H p o) := ⟨fun a ys q => by
  have hne : a ≠ p := by
    rintro rfl
    rcases q with q | ⟨o', q⟩ <;> rw [h] at q <;> cases q
  rcases q with q | ⟨o', q⟩
  · exact .inl (by rw [upd_ne hne]; exact q)
  · exact .inr ⟨o', by rw [upd_ne hne]; exact q⟩, fun a C dx fs q => by
  rw [upd_ne (by rintro rfl; rw [h] at q; cases q)]
  exact q⟩
theorem KEx.fr {H H' : Hp} {x : Addr} (f : Fr x H H') (q : SrcAt H x) : KEx H H' := ⟨Fr.tex f q, fun a C dx fs h => f a _ (by
  rintro rfl
  obtain ⟨d, s, c, w1, w2⟩ := q
  first
    | (rw [w1] at h; cases h)
    | (rw [w2] at h; cases h)) h⟩
theorem KEx.frL {H H' : Hp} {x : Addr} {xs : List V} (f : Fr x H H') (q : H x = some (.lst xs)) : KEx H H' := ⟨fun a ys h => by
  have hne : a ≠ x := by
    rintro rfl
    rcases h with h | ⟨o', h⟩ <;> rw [q] at h <;> cases h
  exact h.imp (fun h => f _ _ hne h) fun ⟨o', h⟩ => ⟨o', f _ _ hne h⟩, fun a C dx fs h => f a _ (by rintro rfl; rw [q] at h; cases h) h⟩
section
variable {K : PySem.W.Frag} {H H' : Hp} {v : V} {σ : L2.St} {Q : VK}
theorem mak_k (e : KEx H H') {x : Addr} {k : Int} {b : List Dd} {ws : List (List Dd)} (t : MakAt K H x k b ws) : MakAt K H' x k b ws := by
  obtain ⟨dx, vb, vw, h1, h2, h3⟩ := t
  exact ⟨dx, vb, vw, e.2 _ _ _ _ h1, dp_tex e.1 (imm_dW b) h2, dp_tex e.1 (imm_dWs ws) h3⟩
theorem mu_k (e : KEx H H') {m : Mu} (h : MuAt K H v m) : MuAt K H' v m := by
  cases m with
  | mk k b ws => obtain ⟨x, rfl, h⟩ := h; exact ⟨x, rfl, mak_k e h⟩
  | un u => exact h
theorem row_k (e : KEx H H') {r : Rw} (h : RowAt K H v r) : RowAt K H' v r := by
  obtain ⟨p, vm, q, rfl, h1, h2, h3⟩ := h
  exact ⟨p, vm, q, rfl, tex_t e.1 h1, mu_k e h2, tex_t e.1 h3⟩
theorem rows_k (e : KEx H H') : ∀ {vs : List V} {rs : List Rw}, RowsAt K H vs rs → RowsAt K H' vs rs
  | _, _, .nil => .nil
  | _, _, .cons h t => .cons (row_k e h) (rows_k e t)
theorem w_dnewK (h : ∀ p H1, H p = none → Ex H H1 → H1 p = some (.dK []) → Q (.ref p) H1) : tDNewK σ H Q := fun p n => h p _ n (Ex.new n) upd_same
theorem w_dni {td ty : TE} (h : ty σ H fun y H1 => td σ H1 fun x H2 => ∃ a o, x = .ref a ∧ DGet H2 a y o ∧ Q (.bl (!o.isSome)) H2) : tDNotIn ty td σ H Q := h
theorem w_din {td ty : TE} (h : ty σ H fun y H1 => td σ H1 fun x H2 => ∃ a o, x = .ref a ∧ DGet H2 a y o ∧ Q (.bl o.isSome) H2) : tDIn ty td σ H Q := h
theorem w_dget {td ty : TE} (h : td σ H fun x H1 => ty σ H1 fun y H2 => ∃ a v, x = .ref a ∧ DGet H2 a y (some v) ∧ Q v H2) : tDGet td ty σ H Q := h
/-- comprehensions, item by item -/
theorem lcY_tup {a : Addr} {xs ys : List V} {j : Nat} {te : TE} {vs : List Nat} (hx : SqT K H a xs) (hy : ys.length = xs.length) (hn : xs.length ≤ 100000) (σ' : V → L2.St) (hσ : ∀ x, (wipe σ vs).set j (some x) = σ' x) (hw : ∀ x, wipe ((wipe σ vs).set j (some x)) vs = wipe σ vs)
    (he : ∀ (i : Nat) (x y : V) (H1 : Hp) (Q' : VK), Ex H H1 → xs[i]? = some x → ys[i]? = some y → (∀ H2, Ex H1 H2 → Q' y H2) → te (σ' x) H1 Q')
    (hq : ∀ p H2, H p = none → Ex H H2 → H2 p = some (.lst ys) → Q (.ref p) H2) : LcJ (Itt K a) (gName j) tYes te vs σ H Q := fun D hD =>
  lc_tup (xs := xs) (Pv := fun i H' => Ex H H' ∧ H' D = some (.lst (ys.take i))) ⟨Ex.new hD, upd_same⟩ (fun i H' _ p => ex_t p.1 hx) (fun i x H' hi p => ⟨hw _, by
    show te ((wipe σ vs).set j _) H' _
    rw [hσ]
    have hlt := (List.getElem?_eq_some_iff.mp hi).1
    have hyi : ys[i]? = some (ys[i]'(by omega)) := List.getElem?_eq_getElem _
    refine he i x _ H' _ p.1 hi hyi fun H2 e2 => ⟨ys.take i, e2 D _ p.2, sz_lt (by rw [List.length_take]; omega), Ex.mut (p.1.trans e2) hD, ?_⟩
    rw [List.take_add_one, hyi]
    exact upd_same⟩) fun H' p => hq D H' hD p.1 (by rw [← hy, List.take_length] at p; exact p.2)
theorem lcY_list {a : Addr} {xs ys : List V} {j : Nat} {te : TE} {vs : List Nat} (hx : SqL K H a xs) (hy : ys.length = xs.length) (hn : xs.length ≤ 100000) (σ' : V → L2.St) (hσ : ∀ x, (wipe σ vs).set j (some x) = σ' x) (hw : ∀ x, wipe ((wipe σ vs).set j (some x)) vs = wipe σ vs)
    (he : ∀ (i : Nat) (x y : V) (H1 : Hp) (Q' : VK), Ex H H1 → xs[i]? = some x → ys[i]? = some y → (∀ H2, Ex H1 H2 → Q' y H2) → te (σ' x) H1 Q')
    (hq : ∀ p H2, H p = none → Ex H H2 → H2 p = some (.lst ys) → Q (.ref p) H2) : LcJ (Itl K a) (gName j) tYes te vs σ H Q := fun D hD =>
  lc_list (xs := xs) (Pv := fun i H' => Ex H H' ∧ H' D = some (.lst (ys.take i))) ⟨Ex.new hD, upd_same⟩ (fun i H' _ p => ex_l p.1 hx) (fun i x H' hi p => ⟨hw _, by
    show te ((wipe σ vs).set j _) H' _
    rw [hσ]
    have hlt := (List.getElem?_eq_some_iff.mp hi).1
    have hyi : ys[i]? = some (ys[i]'(by omega)) := List.getElem?_eq_getElem _
    refine he i x _ H' _ p.1 hi hyi fun H2 e2 => ⟨ys.take i, e2 D _ p.2, sz_lt (by rw [List.length_take]; omega), Ex.mut (p.1.trans e2) hD, ?_⟩
    rw [List.take_add_one, hyi]
    exact upd_same⟩) fun H' p => hq D H' hD p.1 (by rw [← hy, List.take_length] at p; exact p.2)
theorem mak_mine2 {x : Addr} {k : Int} {b : List Dd} {ws : List (List Dd)} (t : MakAt K H x k b ws) : ∃ dx fs, H x = some (.ins (He.ga K "Maker") dx fs) := by
  obtain ⟨dx, _, _, h1, _⟩ := t
  exact ⟨dx, _, h1⟩
theorem getElem?_vS {l : List Str} {i : Nat} {v : V} (h : (vS l)[i]? = some v) : ∃ w, l[i]? = some w ∧ v = .str w := by
  unfold vS at h
  rw [List.getElem?_map] at h
  cases q : l[i]? with
  | none => rw [q] at h; cases h
  | some w => rw [q] at h; cases h; exact ⟨w, rfl, rfl⟩
end
theorem okW_shp {l : List Str} (z : l.length ≤ 50000) : shp 6 (dS l) = true := by
  show (decide ((l.map PyData.str).length ≤ 50000) && shpAll 5 (l.map .str)) = true
  rw [List.length_map, decide_eq_true z, shpAll_strs]
  rfl
theorem deep_dS (l : List Str) : dDeep (dS l) = dS l := by
  show PyData.tuple (dDeepAll (l.map .str)) = _
  rw [dDeep_strs]
  rfl
theorem dp_toS {K : PySem.W.Frag} {H : Hp} {v : V} {l : List Str} (h : Dp K H v (dS l)) : ∃ a, v = .ref a ∧ SqT K H a (vS l) := dp_strs h

end
section
abbrev spIsRow (K : PySem.W.Frag) : Sp := sp2 fun v d H Q _ => ∃ (r : Rw) (a : Addr), RowAt K H v r ∧ RwOk r ∧ d = .ref a ∧ IlAt H a ∧ ∀ H', Ex H H' → Q (.bl true) H'
abbrev N_is_row : List Str := ["thing", "inlets", "one"]
theorem sc_is_row : FnScope N_is_row ["thing", "inlets"] (defScope s_is_row) := ⟨rfl, rfl, rfl, by decide +kernel, rfl, by decide +kernel, by decide +kernel⟩
theorem ok_is_row {P : Program} {w : World} {K : PySem.W.Frag} {mg : Str → Option Value} {base : Heap} (E : Env P K mg) : Fn P w K mg base CX0 3 "is_row" (spIsRow K) := by
  obtain ⟨fd, F⟩ := E.dd_is_row
  refine Fn.mk0 F E.g_is_row sc_is_row sp2_len (fun _ _ _ _ _ _ us hl => match us, hl with | [_, _], _ => rfl) (fun cdv A outer s H vs Q X hr h => ?_)
  have nd := sc_is_row.nd
  obtain ⟨v0, v1, rfl, h⟩ := h
  refine ⟨_, (pss_cons (ps_if (PW.pt (pw_or (pt_not (kTru K (pc (ok_is_listedE E) hr (by decide) pass0 rfl (pa_cons (pv 0) pa_nil)) (by intro _; rfl))) (pw_or (pt_cmpR (kNe K hr) (pe_callB (kLen K) (by rfl) E.f_len (by decide +kernel) (pa_cons (pv 0) pa_nil)) (pe_int) (nomark _)) (pw_or1 (pt_not (kTru K (pc (ok_is_row_name E) hr (by decide) pass0 rfl (pa_cons (pe_ix (kIx K) (pv 0) (pe_int) (fun _ _ => rfl)) pa_nil)) (by intro _; rfl)))))))
   (pss_one (ps_ret (pe_bl)))
   pss_nil)
  (pss_cons (ps_if (PW.pt (pw_or (pt_not (kTru K (pc (ok_is_listedE E) hr (by decide) pass0 rfl (pa_cons (pe_ix (kIx K) (pv 0) (pe_int) (fun _ _ => rfl)) pa_nil)) (by intro _; rfl))) (pw_or1 (pt_not (kTru K (pe_callB (kAll K rfl) (by rfl) E.f_all (by decide +kernel) (pa_cons (pe_lc (own := [("one", 2)]) (g := gName 2) (tt := tYes) rfl nd (kSeq K (pe_ix (kIx K) (pv 0) (pe_int) (fun _ _ => rfl))) (blkOk_by (N := N_is_row) (sc := defScope s_is_row) (by decide +kernel)) (fun _ _ _ _ _ => pg_name (i := 2) nd rfl (Or.inl rfl)) (fun _ _ _ _ _ => pts_nil) (fun _ _ _ _ _ => pc (ok_is_row_name E) hr (by decide) pass0 rfl (pa_cons (pv 2) pa_nil))) pa_nil)) (by intro _; rfl))))))
   (pss_one (ps_ret (pe_bl)))
   pss_nil)
  (pss_cons (ps_if (kTru K (pe_callB (kIsi K) (by rfl) E.f_isinstance (by decide +kernel) (pa_cons (pe_ix (kIx K) (pv 0) (pe_int) (fun _ _ => rfl)) (pa_cons (pe_glob (v := .ref (He.ga K "Maker")) (by rfl) E.g_Maker rfl) pa_nil))) (by intro _; rfl))
   (pss_one (ps_ret (pe_cmpR (kEq K hr) (pe_callB (kLen K) (by rfl) E.f_len (by decide +kernel) (pa_cons (pe_ix (kIx K) (pv 0) (pe_int) (fun _ _ => rfl)) pa_nil)) (kFld K (pe_ix (kIx K) (pv 0) (pe_int) (fun _ _ => rfl)) rfl) (nomark _))))
   pss_nil)
  (pss_cons (ps_if (PW.pt (pw_or (pt_not (kTru K (pc (ok_is_unknown_name E) hr (by decide) pass0 rfl (pa_cons (pe_ix (kIx K) (pv 0) (pe_int) (fun _ _ => rfl)) pa_nil)) (by intro _; rfl))) (pw_or1 (pt_not (pt_chain op_le op_le (pe_int) (pe_callB (kLen K) (by rfl) E.f_len (by decide +kernel) (pa_cons (pe_ix (kIx K) (pv 0) (pe_int) (fun _ _ => rfl)) pa_nil)) (pe_int))))))
   (pss_one (ps_ret (pe_bl)))
   pss_nil)
  (pss_one (ps_ret (pe_or (pe_cmp (kDNi hr (pe_ix (kIx K) (pv 0) (pe_int) (fun _ _ => rfl)) (pv 1)) rfl) (pe_one (pe_cmpR (kEq K hr) (kDGet hr (pv 1) (pe_ix (kIx K) (pv 0) (pe_int) (fun _ _ => rfl)) (fun _ _ => rfl)) (pe_callB (kLen K) (by rfl) E.f_len (by decide +kernel) (pa_cons (pe_ix (kIx K) (pv 0) (pe_int) (fun _ _ => rfl)) pa_nil)) (nomark _)))))))))), ?_⟩
  change (_ : TS) _ [some v0, some v1, none] H
  try dsimp only [cxOf, Cx.nox, Cx.blk]
  obtain ⟨r, a, ⟨p, vm, q, rfl, s, mu, sq⟩, ok, rfl, il, k⟩ := h
  obtain ⟨nm, mu0, src⟩ := r
  obtain ⟨o1, o2, o3, o4⟩ := ok
  dsimp only at *
  have zl : (vS src).length = src.length := List.length_map ..
  walk_at "w"
  refine .inl ⟨p, _, rfl, .inr s, fun H1 e1 => ?_⟩
  walk_at "w"
  refine ⟨.str nm, .str nm, sm_W o1, fun H2 e2 => ?_⟩
  rw [show wordV (.str nm) = true from o1]
  have E2 := e1.trans e2
  walk_at "w"
  refine .inl ⟨q, _, rfl, .inr (ex_t E2 sq), fun H3 e3 => ?_⟩
  have E3 := E2.trans e3
  walk_at "w"
  refine i_seqT ?_
  walk_at "w"
  refine lcJ_tup (v := fun _ => .bl true) (ex_t E3 sq) (by omega) (fun x => [_, _, some x]) (fun x => rfl) (fun x => rfl) (fun x H4 Q' e4 hx hq => ?_) (fun p2 H4 n4 e4 hp => ?_)
  · obtain ⟨w, hw, rfl⟩ := List.mem_map.mp hx
    walk_at "w"
    refine ⟨.str w, .str w, sm_W (o2 w hw), ?_⟩
    rw [show wordV (.str w) = true from o2 w hw]
    exact hq
  walk_at "w"
  refine r_all (bs := (vS src).map fun _ => true) (sq_of hp) (by simp [Function.comp]) ?_
  rw [show ((vS src).map fun _ => true).all id = true by simp]
  have E4 := E3.trans e4
  have mu4 := ex_mu E4 mu
  have s4 := ex_t E4 s
  have sq4 := ex_t E4 sq
  have il4 := ex_il E4 il
  walk_at "w"
  cases mu0 with
  | mk k0 b ws =>
    obtain ⟨x, rfl, hm⟩ := mu4
    refine r_isiC (insB_ok E.ins_Maker E.c_Maker (mak_mine2 hm).choose_spec.choose_spec) E.kit_Maker_self ?_
    walk_at "w"
    refine r_makIn E hm ?_
    walk_at "w"
    rw [zl, decide_eq_true o4.2.symm]
    exact k _ E4
  | un u =>
    obtain ⟨u1, u2, u3⟩ := o4
    cases mu4
    refine r_isiC (b := false) (.base (.str u)) E.kit_Maker_str ?_
    walk_at "w"
    refine ⟨.str u, .str u, sm_U u1, fun H5 e5 => ?_⟩
    rw [show unkV (.str u) = true from u1]
    have E5 := E4.trans e5
    have s5 := ex_t E5 s
    have sq5 := ex_t E5 sq
    obtain ⟨kvs, g, _, hk⟩ := ex_il e5 il4
    walk_at "w"
    refine w_dni ?_
    walk_at "w"
    refine ⟨a, valV kvs (.inr u), rfl, DGet.k (k := .inr u) g, ?_⟩
    cases c : valV kvs (.inr u) with
    | none =>
      walk_at "w"
      exact k _ E5
    | some o =>
      obtain rfl := hk u o c
      walk_at "w"
      refine w_dget ?_
      walk_at "w"
      refine ⟨a, .int (unkN u), rfl, by rw [← c]; exact DGet.k (k := .inr u) g, ?_⟩
      walk_at "w"
      rw [zl, decide_eq_true u3]
      exact k _ E5
abbrev N_check_givens : List Str := ["givens", "number", "given"]
theorem sc_check_givens : FnScope N_check_givens ["givens"] (defScope s_check_givens) := ⟨rfl, rfl, rfl, by decide +kernel, rfl, by decide +kernel, by decide +kernel⟩
theorem ok_check_givens {P : Program} {w : World} {K : PySem.W.Frag} {mg : Str → Option Value} {base : Heap} (E : Env P K mg) : Fn P w K mg base CX0 9 "check_givens" (sp1 fun v H Q _ => ∃ (p : Addr) (gs : List Str), v = .ref p ∧ SqE K H p (vS gs) ∧ gs.length ≤ 3 ∧ (∀ g ∈ gs, okW g = true) ∧ ∀ t H', Ex H H' → SqT K H' t (vS gs) → Q (.ref t) H') := by
  obtain ⟨fd, F⟩ := E.dd_check_givens
  refine Fn.mk0 F E.g_check_givens sc_check_givens sp1_len (fun _ _ _ _ _ _ us hl => match us, hl with | [_], _ => rfl) (fun cdv A outer s H vs Q X hr h => ?_)
  have nd := sc_check_givens.nd
  obtain ⟨v0, rfl, h⟩ := h
  refine ⟨_, (pss_cons (ps_if (PW.pt (pw_or (pt_not (kTru K (pc (ok_is_listedE E) hr (by decide) pass0 rfl (pa_cons (pv 0) pa_nil)) (by intro _; rfl))) (pw_or1 (pt_cmpR op_gt (pe_callB (kLen K) (by rfl) E.f_len (by decide +kernel) (pa_cons (pv 0) pa_nil)) ((E.k_MOST_GIVENS).elim fun t e => pe_glob (v := .int 3) (by rfl) e ⟨t, rfl⟩) (nomark _)))))
   (pss_one (ps_never))
   pss_nil)
  (pss_cons (ps_for PassesOwn.never rfl (pi_enumE K (by rfl) E.f_enumerate (pa_cons (pv 0) pa_nil)) (kGtup K rfl (pgs_cons (pg_name (i := 1) nd rfl (.inl rfl)) (pgs_cons (pg_name (i := 2) nd rfl (.inl rfl)) (pgs_nil))))
   (pss_one (ps_if (pt_not (kTru K (pc (ok_is_row_name E) hr (by decide) pass0 rfl (pa_cons (pv 2) pa_nil)) (by intro _; rfl)))
   (pss_one (ps_never))
   pss_nil)))
  (pss_one (ps_ret (pc (ok_deep E) hr (by decide) pass0 rfl (pa_cons (pv 0) pa_nil)))))), ?_⟩
  change (_ : TS) _ [some v0, none, none] H
  try dsimp only [cxOf, Cx.nox, Cx.blk]
  obtain ⟨p, gs, rfl, s, z, ok, k⟩ := h
  have zl : (vS gs).length = gs.length := List.length_map ..
  walk_at "w"
  refine .inl ⟨p, _, rfl, s, fun H1 e1 => ?_⟩
  walk_at "w"
  refine r_lenE (ex_e e1 s) ?_
  walk_at "w"
  refine i_enumE ?_
  walk_at "w"
  have s1 := ex_e e1 s
  have fin : ∀ H', Ex H H' → tRet (tCall (spDeep K 6) [] E0 (tCons (tVar 0) tNil)) { nx := fun x H' => Q V.non H', rt := Q } [some (.ref p), none, none] H' := fun H' e => by
    have se := ex_e e s
    walk_at "w"
    rcases se with se | se
    · exact ⟨.list (gs.map .str), .lst se dpAll_of_strs, by
        show (decide ((gs.map PyData.str).length ≤ 50000) && shpAll 5 (gs.map .str)) = true
        rw [List.length_map, decide_eq_true (by omega), shpAll_strs]; rfl, fun v H2 e2 d2 => by
        rw [show dDeep (.list (gs.map .str)) = dS gs from deep_dS gs] at d2
        obtain ⟨t, rfl, st⟩ := dp_toS d2
        exact k t H2 (e.trans e2) st⟩
    · exact ⟨dS gs, dp_of_strs se, okW_shp (by omega), fun v H2 e2 d2 => by
        rw [deep_dS] at d2
        obtain ⟨t, rfl, st⟩ := dp_toS d2
        exact k t H2 (e.trans e2) st⟩
  have fin2 : ∀ (u v : Option V) H', Ex H H' → tRet (tCall (spDeep K 6) [] E0 (tCons (tVar 0) tNil)) { nx := fun x H' => Q V.non H', rt := Q } [some (.ref p), u, v] H' := fun u v H' e => fin H' e
  rcases s1 with s1 | s1
  · refine ⟨p, _, rfl, .inl ⟨s1, ?_⟩⟩
    refine for_enumL (xs := vS gs) (Pv := fun i σ' H' => ∃ u v : Option V, σ' = [some (.ref p), u, v] ∧ Ex H1 H') ⟨_, _, rfl, Ex.refl _⟩ (fun i σ' H' _ h => by obtain ⟨_, _, _, e⟩ := h; exact ex_l e s1) ?_ ?_
    · rintro i x σ' H' T hi ⟨u, v, rfl, e⟩ nT
      have eT : Ex H' (upd H' T (.tup [.int (i : Nat), x])) := Ex.new nT
      have sT : SqT K (upd H' T (.tup [.int (i : Nat), x])) T [.int (i : Nat), x] := st_of upd_same
      obtain ⟨w, hw, rfl⟩ := getElem?_vS hi
      have okw := ok w (List.mem_of_getElem? hw)
      generalize upd H' T (.tup [.int (i : Nat), .str w]) = HA at *
      walk_at "w"
      refine ⟨.str w, .str w, sm_W okw, fun H5 e5 => ?_⟩
      rw [show wordV (.str w) = true from okw]
      walk_at "w"
      exact ⟨_, _, rfl, (e.trans eT).trans e5⟩
    · rintro σ' H' ⟨u, v, rfl, e⟩
      exact fin2 u v H' (e1.trans e)
  · refine ⟨p, _, rfl, .inr ⟨s1, ?_⟩⟩
    refine for_enumT (xs := vS gs) (Pv := fun i σ' H' => ∃ u v : Option V, σ' = [some (.ref p), u, v] ∧ Ex H1 H') ⟨_, _, rfl, Ex.refl _⟩ (fun i σ' H' _ h => by obtain ⟨_, _, _, e⟩ := h; exact ex_t e s1) ?_ ?_
    · rintro i x σ' H' T hi ⟨u, v, rfl, e⟩ nT
      have eT : Ex H' (upd H' T (.tup [.int (i : Nat), x])) := Ex.new nT
      have sT : SqT K (upd H' T (.tup [.int (i : Nat), x])) T [.int (i : Nat), x] := st_of upd_same
      obtain ⟨w, hw, rfl⟩ := getElem?_vS hi
      have okw := ok w (List.mem_of_getElem? hw)
      generalize upd H' T (.tup [.int (i : Nat), .str w]) = HA at *
      walk_at "w"
      refine ⟨.str w, .str w, sm_W okw, fun H5 e5 => ?_⟩
      rw [show wordV (.str w) = true from okw]
      walk_at "w"
      exact ⟨_, _, rfl, (e.trans eT).trans e5⟩
    · rintro σ' H' ⟨u, v, rfl, e⟩
      exact fin2 u v H' (e1.trans e)
abbrev spCkRows (K : PySem.W.Frag) : Sp := sp1 fun v H Q _ => ∃ (p : Addr) (xs : List V) (rs : List Rw), v = .ref p ∧ SqL K H p xs ∧ RowsAt K H xs rs ∧ 1 ≤ rs.length ∧ rs.length ≤ 6 ∧ (∀ r ∈ rs, RwOk r) ∧ ∀ t ys H', Ex H H' → SqT K H' t ys → RowsAt K H' ys rs → Q (.ref t) H'
abbrev N_check_rows : List Str := ["rows", "inlets", "told", "number", "row"]
theorem sc_check_rows : FnScope N_check_rows ["rows"] (defScope s_check_rows) := ⟨rfl, rfl, rfl, by decide +kernel, rfl, by decide +kernel, by decide +kernel⟩
theorem ok_check_rows {P : Program} {w : World} {K : PySem.W.Frag} {mg : Str → Option Value} {base : Heap} (E : Env P K mg) : Fn P w K mg base CX0 9 "check_rows" (spCkRows K) := by
  obtain ⟨fd, F⟩ := E.dd_check_rows
  refine Fn.mk0 F E.g_check_rows sc_check_rows sp1_len (fun _ _ _ _ _ _ us hl => match us, hl with | [_], _ => rfl) (fun cdv A outer s H vs Q X hr h => ?_)
  have nd := sc_check_rows.nd
  obtain ⟨v0, rfl, h⟩ := h
  refine ⟨_, (pss_cons (ps_if (PW.pt (pw_or (pt_not (kTru K (pc (ok_is_listedE E) hr (by decide) pass0 rfl (pa_cons (pv 0) pa_nil)) (by intro _; rfl))) (pw_or1 (pt_not (pt_chain op_le op_le (pe_int) (pe_callB (kLen K) (by rfl) E.f_len (by decide +kernel) (pa_cons (pv 0) pa_nil)) ((E.k_MOST_ROWS).elim fun t e => pe_glob (v := .int 6) (by rfl) e ⟨t, rfl⟩))))))
   (pss_one (ps_never))
   pss_nil)
  (pss_cons (ps_set (i := 1) nd rfl (.inl rfl) (pe_dnewK))
  (pss_cons (ps_set (i := 2) nd rfl (.inl rfl) (pe_lst (pa_nil)))
  (pss_cons (ps_for PassesOwn.never rfl (pi_enumE K (by rfl) E.f_enumerate (pa_cons (pv 0) pa_nil)) (kGtup K rfl (pgs_cons (pg_name (i := 3) nd rfl (.inl rfl)) (pgs_cons (pg_name (i := 4) nd rfl (.inl rfl)) (pgs_nil))))
   (pss_cons (ps_if (pt_not (kTru K (pc (ok_is_row E) hr (by decide) pass0 rfl (pa_cons (pv 4) (pa_cons (pv 1) pa_nil))) (by intro _; rfl)))
   (pss_one (ps_never))
   pss_nil)
  (pss_cut (ps_if (kTru K (pe_callB (kIsi K) (by rfl) E.f_isinstance (by decide +kernel) (pa_cons (pe_ix (kIx K) (pv 4) (pe_int) (fun _ _ => rfl)) (pa_cons (pe_bltn (v := .ty "str") (by rfl) E.f_str (by decide +kernel) rfl) pa_nil))) (by intro _; rfl))
   (pss_one (ps_asg (pe_callB (kLen K) (by rfl) E.f_len (by decide +kernel) (pa_cons (pe_ix (kIx K) (pv 4) (pe_int) (fun _ _ => rfl)) pa_nil)) (pg_sub (pv 1) (pe_ix (kIx K) (pv 4) (pe_int) (fun _ _ => rfl)) (kSetD hr))))
   pss_nil)
  (pss_one (ps_expr (kBM K (pe_bm PySem.F.plainAttrs_list PySem.F.slot_list_append PySem.F.type_list_append mt_append (pv 2) (pa_cons (pe_tup (pa_cons (pe_ix (kIx K) (pv 4) (pe_int) (fun _ _ => rfl)) (pa_cons (pe_ix (kIx K) (pv 4) (pe_int) (fun _ _ => rfl)) (pa_cons (pc (ok_deep E) hr (by decide) pass0 rfl (pa_cons (pe_ix (kIx K) (pv 4) (pe_int) (fun _ _ => rfl)) pa_nil)) pa_nil)))) pa_nil))))))))
  (pss_one (ps_ret (pe_callTy (kTup K) (by rfl) E.f_tuple (by decide +kernel) (pa_cons (pv 2) pa_nil)))))))), ?_⟩
  change (_ : TS) _ [some v0, none, none, none, none] H
  try dsimp only [cxOf, Cx.nox, Cx.blk]
  obtain ⟨p, xs, rs, rfl, s, hr', z1, z6, ok, k⟩ := h
  have zl := rows_len hr'
  walk_at "w"
  refine .inl ⟨p, _, rfl, .inl s, fun H1 e1 => ?_⟩
  walk_at "w"
  refine w_dnewK fun il H2 n2 e2 g2 => ?_
  walk_at "w"
  intro tl H3 n3 e3 g3
  have s3 := ex_l (e1.trans (e2.trans e3)) s
  have n2' : H il = none := by
    cases q : H il with
    | none => rfl
    | some o => rw [e1 _ _ q] at n2; cases n2
  have n3' : H tl = none := by
    cases q : H tl with
    | none => rfl
    | some o => rw [(e1.trans e2) _ _ q] at n3; cases n3
  have hne : il ≠ tl := ne_of_none g2 n3
  walk_at "w"
  refine i_enumE ?_
  walk_at "w"
  refine ⟨p, xs, rfl, .inl ⟨s3, ?_⟩⟩
  refine for_enumL (xs := xs) (Pv := fun i σ' H' => ∃ (u v : Option V) (ys : List V) (kvs : List (Key × V)), σ' = [some (.ref p), some (.ref il), some (.ref tl), u, v] ∧ Ex H H' ∧ H' il = some (.dK kvs) ∧ kvs.length ≤ i ∧ (∀ w o, valV kvs (.inr w) = some o → o = .int (unkN w)) ∧ H' tl = some (.lst ys) ∧ RowsAt K H' ys (rs.take i))
    ⟨_, _, [], [], rfl, e1.trans (e2.trans e3), e3 _ _ g2, Nat.zero_le _, (fun u o h => by cases h), g3, .nil⟩ (fun i σ' H' _ h => by obtain ⟨_, _, _, _, _, e, _⟩ := h; exact ex_l e s) ?_ ?_
  · rintro i x σ' H' T hi ⟨u, v, ys, kvs, rfl, e, gk, kl, kh, gt, hy⟩ nT
    have eT : Ex H' (upd H' T (.tup [.int (i : Nat), x])) := Ex.new nT
    have sT : SqT K (upd H' T (.tup [.int (i : Nat), x])) T [.int (i : Nat), x] := st_of upd_same
    obtain ⟨r, hri, hrow⟩ := rows_get hr' hi
    have hrm := List.mem_of_getElem? hri
    have okr := ok r hrm
    have eA := e.trans eT
    have hyl := rows_len hy
    rw [List.length_take] at hyl
    have hi6 := (List.getElem?_eq_some_iff.mp hi).1
    have htk : rs.take (i + 1) = rs.take i ++ [r] := by rw [List.take_add_one, hri]; rfl
    rw [htk]
    have gt' := eT _ _ gt
    have gk' := eT _ _ gk
    have hy' := ex_rows eT hy
    generalize upd H' T (.tup [.int (i : Nat), x]) = HA at *
    walk_at "w"
    refine ⟨r, il, ex_row eA hrow, okr, rfl, ⟨kvs, gk', by omega, kh⟩, fun H5 e5 => ?_⟩
    have E5 := eA.trans e5
    have gk5 := e5 _ _ gk'
    have gt5 := e5 _ _ gt'
    have hy5 := ex_rows e5 hy'
    walk_at "w"
    refine w_cut (M := fun σ' H' => ∃ (kvs : List (Key × V)), σ' = [some (.ref p), some (.ref il), some (.ref tl), some (.int (i : Nat)), some x] ∧ Ex H H' ∧ H' il = some (.dK kvs) ∧ kvs.length ≤ i + 1 ∧ (∀ w o, valV kvs (.inr w) = some o → o = .int (unkN w)) ∧ H' tl = some (.lst ys) ∧ RowsAt K H' ys (rs.take i)) ?_ ?_
    · dsimp only [List.set]
      obtain ⟨pr, vm, q, rfl, sp, mu, sq⟩ := ex_row E5 hrow
      have zq : (vS r.src).length = r.src.length := List.length_map ..
      obtain ⟨nm, mu0, src⟩ := r
      dsimp only at *
      walk_at "w"
      cases mu0 with
      | mk k0 b ws =>
        obtain ⟨xm, rfl, hm⟩ := mu
        refine r_isi (insB_ok E.ins_Maker E.c_Maker (mak_mine2 hm).choose_spec.choose_spec) E.kitb_Maker_str ?_
        walk_at "w"
        exact ⟨kvs, rfl, E5, gk5, by omega, kh, gt5, hy5⟩
      | un u =>
        cases mu
        walk_at "w"
        refine ⟨il, _, rfl, DPut.k (k := .inr u) gk5 (sz_lt (by omega)), ?_⟩
        rw [zq, show ((src.length : Nat) : Int) = unkN u from okr.mu.2.2.symm]
        refine ⟨_, rfl, Ex.mut E5 n2', upd_same, ?_, il_put (a := il) kh, by rw [upd_ne hne.symm]; exact gt5, rows_k (KEx.updD gk5) hy5⟩
        have := length_putK kvs (.inr u) (V.int (unkN u))
        omega
    · rintro σ' H6 ⟨kvs, rfl, E6, gk6, kl6, kh6, gt6, hy6⟩
      obtain ⟨pr, vm, q, rfl, sp, mu, sq⟩ := ex_row E6 hrow
      have zq : (vS r.src).length = r.src.length := List.length_map ..
      have z3 := okr.s3
      walk_at "w"
      refine ⟨dS r.src, dp_of_strs sq, okW_shp (by omega), fun v H7 e7 d7 => ?_⟩
      rw [deep_dS] at d7
      obtain ⟨t, rfl, st⟩ := dp_toS d7
      walk_at "w"
      intro pt H8 n8 e8 g8
      have e68 := e7.trans e8
      have gt8 := e68 _ _ gt6
      walk_at "w"
      refine r_app (K := K) gt8 (sz_lt (by omega)) ?_
      walk_at "w"
      have nhe : il ≠ tl := hne
      refine ⟨_, _, ys ++ [.ref pt], kvs, rfl, Ex.mut (E6.trans e68) n3', by rw [upd_ne nhe]; exact e68 _ _ gk6, kl6, kh6, upd_same, rows_k (KEx.upd gt8) (rows_snoc (ex_rows e68 hy6) ⟨pt, vm, t, rfl, st_of g8, ex_mu e68 mu, ex_t e8 st⟩)⟩
  · rintro σ' H' ⟨u, v, ys, kvs, rfl, e, gk, kl, kh, gt, hy⟩
    rw [zl, List.take_length] at hy
    walk_at "w"
    intro t H8 e8 s8
    exact k t ys H8 (e.trans e8) s8 (ex_rows e8 hy)
abbrev spCkNm (K : PySem.W.Frag) : Sp := sp2 fun v w H Q _ => ∃ (p q : Addr) (xs : List V) (gs : List Str) (rs : List Rw), v = .ref p ∧ SqT K H p (vS gs) ∧ w = .ref q ∧ SqT K H q xs ∧ RowsAt K H xs rs ∧ gs.length ≤ 3 ∧ rs.length ≤ 6 ∧ (∀ r ∈ rs, r.src.length ≤ 3) ∧ (gs ++ rs.map Rw.nm).Nodup ∧ (∀ r ∈ rs, ∀ s ∈ r.src, s ∈ gs ++ rs.map Rw.nm) ∧ ∀ H', Ex H H' → Q .non H'
abbrev N_check_names : List Str := ["givens", "rows", "names", "name", "row", "source"]
theorem sc_check_names : FnScope N_check_names ["givens", "rows"] (defScope s_check_names) := ⟨rfl, rfl, rfl, by decide +kernel, rfl, by decide +kernel, by decide +kernel⟩
theorem ok_check_names {P : Program} {w : World} {K : PySem.W.Frag} {mg : Str → Option Value} {base : Heap} (E : Env P K mg) : Fn P w K mg base CX0 1 "check_names" (spCkNm K) := by
  obtain ⟨fd, F⟩ := E.dd_check_names
  refine Fn.mk0 F E.g_check_names sc_check_names sp2_len (fun _ _ _ _ _ _ us hl => match us, hl with | [_, _], _ => rfl) (fun cdv A outer s H vs Q X hr h => ?_)
  have nd := sc_check_names.nd
  obtain ⟨v0, v1, rfl, h⟩ := h
  refine ⟨_, (pss_cons (ps_set (i := 2) nd rfl (.inl rfl) (pe_lst (pa_nil)))
  (pss_cons (ps_for PassesOwn.never rfl (kSeq K (pe_op (kAdd K) (pe_callTy (kLst K) (by rfl) E.f_list (by decide +kernel) (pa_cons (pv 0) pa_nil)) (pe_lc (own := [("row", 4)]) (g := gName 4) (tt := tYes) rfl nd (kSeq K (pv 1)) (blkOk_by (N := N_check_names) (sc := defScope s_check_names) (by decide +kernel)) (fun _ _ _ _ _ => pg_name (i := 4) nd rfl (Or.inl rfl)) (fun _ _ _ _ _ => pts_nil) (fun _ _ _ _ _ => pe_ix (kIx K) (pv 4) (pe_int) (fun _ _ => rfl))))) (pg_name (i := 3) nd rfl (.inl rfl))
   (pss_cons (ps_if (pt_cmpR (kInF K) (pv 3) (pv 2) rfl)
   (pss_one (ps_never))
   pss_nil)
  (pss_one (ps_expr (kBM K (pe_bm PySem.F.plainAttrs_list PySem.F.slot_list_append PySem.F.type_list_append mt_append (pv 2) (pa_cons (pv 3) pa_nil)))))))
  (pss_one (ps_for PassesOwn.never rfl (kSeq K (pv 1)) (pg_name (i := 4) nd rfl (.inl rfl))
   (pss_one (ps_for PassesOwn.never rfl (kSeq K (pe_ix (kIx K) (pv 4) (pe_int) (fun _ _ => rfl))) (pg_name (i := 5) nd rfl (.inl rfl))
   (pss_one (ps_if (pt_cmpR (kNotInF K) (pv 5) (pv 2) rfl)
   (pss_one (ps_never))
   pss_nil)))))))), ?_⟩
  change (_ : TS) _ [some v0, some v1, none, none, none, none] H
  try dsimp only [cxOf, Cx.nox, Cx.blk]
  obtain ⟨p, q, xs, gs, rs, rfl, sp, rfl, sq, hr', z3, z6, zs, nd', hm, k⟩ := h
  have zx := rows_len hr'
  have zg : (vS gs).length = gs.length := List.length_map ..
  walk_at "w"
  intro nl H1 n1 e1 g1
  walk_at "w"
  refine i_seqL ?_
  walk_at "w"
  intro l2 H2 n2 e2 g2
  walk_at "w"
  refine i_seqT ?_
  walk_at "w"
  refine lcY_tup (ys := vS (rs.map Rw.nm)) (ex_t (e1.trans e2) sq) (by unfold vS; rw [List.length_map, List.length_map, zx]) (by omega) (fun x => [_, _, _, _, some x, _]) (fun x => rfl) (fun x => rfl) (fun i x y H3 Q' e3 hx hy hq => ?_) (fun l3 H3 n3 e3 g3 => ?_)
  · obtain ⟨r, hri, hrow⟩ := rows_get hr' hx
    obtain ⟨pr, vm, qs, rfl, sp', mu, sq'⟩ := ex_row ((e1.trans e2).trans e3) hrow
    obtain ⟨w, hw, rfl⟩ := getElem?_vS hy
    rw [List.getElem?_map, hri] at hw
    cases hw
    walk_at "w"
    exact hq _ (Ex.refl _)
  have gl2 := e3 _ _ g2
  walk_at "w"
  refine r_addL gl2 g3 (sz_of (by unfold vS; simp only [List.length_map]; omega)) fun l4 H4 n4 e4 g4 => ?_
  walk_at "w"
  have E4 := e1.trans (e2.trans (e3.trans e4))
  have gn4 := (e2.trans (e3.trans e4)) _ _ g1
  have hne : l4 ≠ nl := (ne_of_none ((e2.trans e3) _ _ g1) n4).symm
  have eall : vS gs ++ vS (rs.map Rw.nm) = vS (gs ++ rs.map Rw.nm) := (List.map_append ..).symm
  rw [eall] at g4
  have zall : (gs ++ rs.map Rw.nm).length ≤ 9 := by rw [List.length_append, List.length_map]; omega
  refine for_list (xs := vS (gs ++ rs.map Rw.nm)) (Pv := fun i σ' H' => ∃ u : Option V, σ' = [some (.ref p), some (.ref q), some (.ref nl), u, none, none] ∧ Ex H H' ∧ Fr nl H4 H' ∧ H' nl = some (.lst (vS ((gs ++ rs.map Rw.nm).take i)))) ⟨_, rfl, E4, Fr.refl _ _, gn4⟩ (fun i σ' H' _ h => by
    obtain ⟨_, _, _, f, _⟩ := h
    exact sq_of (f _ _ hne g4)) ?_ ?_
  · rintro i x σ' H' hi ⟨u, rfl, e, f, g⟩
    obtain ⟨w, hw, rfl⟩ := getElem?_vS hi
    walk_at "w"
    refine r_inF (.inl (sq_of g)) rfl (flat_vS _) ?_
    rw [inV_strs]
    obtain ⟨hlt, hwe⟩ := List.getElem?_eq_some_iff.mp hw
    rw [decide_eq_false (show ¬ w ∈ (gs ++ rs.map Rw.nm).take i by
      intro hm'
      obtain ⟨j, hj, e⟩ := List.getElem_of_mem hm'
      rw [List.length_take] at hj
      rw [List.getElem_take] at e
      have := (List.getElem_inj nd').mp (e.trans hwe.symm)
      omega)]
    have hsl : SqL K H' nl (vS ((gs ++ rs.map Rw.nm).take i)) := sq_of g
    walk_at "w"
    refine r_app (K := K) g (sz_lt (by unfold vS; rw [List.length_map, List.length_take]; omega)) ?_
    walk_at "w"
    refine ⟨_, rfl, Ex.mut e n1, fun b o nb hb => by rw [upd_ne nb]; exact f b o nb hb, ?_⟩
    rw [upd_same, List.take_add_one, hw]
    show _ = some (HO.lst (List.map V.str _))
    rw [List.map_append]
    rfl
  · rintro σ' H' ⟨u, rfl, e, f, g⟩
    rw [show (vS (gs ++ rs.map Rw.nm)).length = (gs ++ rs.map Rw.nm).length from List.length_map .., List.take_length] at g
    have sq' := ex_t e sq
    dsimp only
    refine w_forJ ?_
    refine i_seqT ?_
    walk_at "w"
    refine for_tup (xs := xs) (Pv := fun i σ' A => ∃ u v w : Option V, σ' = [some (.ref p), some (.ref q), some (.ref nl), u, v, w] ∧ Ex H' A) ⟨_, _, _, rfl, Ex.refl _⟩ (fun i σ' A _ h => by obtain ⟨_, _, _, _, e⟩ := h; exact ex_t e sq') ?_ ?_
    · rintro i x σ' A hi ⟨u, v, w, rfl, eA⟩
      obtain ⟨r, hri, hrow⟩ := rows_get hr' hi
      have hrm := List.mem_of_getElem? hri
      obtain ⟨pr, vm, qs, rfl, sp', mu, sq2⟩ := ex_row (e.trans eA) hrow
      walk_at "w"
      refine i_seqT ?_
      walk_at "w"
      refine for_tup (xs := vS r.src) (Pv := fun i σ' A' => ∃ w : Option V, σ' = [some (.ref p), some (.ref q), some (.ref nl), u, some (.ref pr), w] ∧ Ex A A') ⟨_, rfl, Ex.refl _⟩ (fun i σ' A _ h => by obtain ⟨_, _, e⟩ := h; exact ex_t e sq2) ?_ ?_
      · rintro j y σ' A' hj ⟨w, rfl, eA'⟩
        obtain ⟨s, hs, rfl⟩ := getElem?_vS hj
        walk_at "w"
        refine r_notInF (.inl (sq_of (eA' _ _ (eA _ _ g)))) rfl (flat_vS _) ?_
        rw [inV_strs, decide_eq_true (hm r hrm s (List.mem_of_getElem? hs))]
        walk_at "w"
        exact ⟨_, rfl, eA'⟩
      · rintro σ' A' ⟨w, rfl, eA'⟩
        exact ⟨_, _, _, rfl, eA.trans eA'⟩
    · rintro σ' A ⟨u, v, w, rfl, eA⟩
      exact k _ (e.trans eA)

end
section
--@import HandS.OwnEq
--@import PyProof.P3Eq
--@import PyProof.EqLayable
/-! == of tuples that hold instances with an own ==: true or false -/
section
open PySem PySem.SeqAt
open MeetsSeq MeetsSeq2 MeetsSeq3 SeqRoads2
section
variable {prog : Program} {w : World} {A : Around} {R : Result → Shared → Prop}
theorem tuple_eqB (l b : Addr) (items items2 : Array Value) (n n2 : Nat) (dd dd2 : Option Addr) (sl sl2 : Array (Option Value)) (hsz : items.size = items2.size) (I : Nat → Shared → Prop)
    (turn : ∀ i (h1 : i < items.size) (h2 : i < items2.size) s, I i s → wpAny (model prog w) A.in1 (eqBool items[i] items2[i]) (fun r s' => (r = true ∧ I (i + 1) s') ∨ (r = false ∧ R (.ok (.ret (.bool false))) s')) (fun e s' => R (.error e) s') s)
    (fin : ∀ s, I items.size s → R (.ok (.ret (.bool true))) s) {s : Shared} (hl1 : s.heap.get? l = some { cls := .type "tuple", dict := dd, data := .seq items n, slots := sl }) (hb1 : s.heap.get? b = some { cls := .type "tuple", dict := dd2, data := .seq items2 n2, slots := sl2 }) (h : I 0 s) :
    wpAny (model prog w) A.in1 (Builtin.«tuple.__eq__» ⟨[.ref l, .ref b], []⟩) (GQ.FinOf prog w A R) (fun e s' => R (.error e) s') s := by
  have f2 := AutoSeq1.sub_tuple_tuple
  have hZ : (items.toList.zip items2.toList).length = items.size := by simp [hsz]
  have h0 := h
  obtain ⟨hp, g, d, tk, os⟩ := s
  wp_walk using AutoSeq1.wpAny_loadPart' hl1, AutoSeq1.wpAny_loadPart' hb1, wpAny_forIn_list _ (fun rest b s' => b.1 = none ∧ ∃ i, rest = (items.toList.zip items2.toList).drop i ∧ i ≤ items.size ∧ I i s') _
  case turn =>
    rintro ⟨y, x⟩ rest b s' ⟨hb', i, hz, hi, hI⟩
    have hlt : i < (items.toList.zip items2.toList).length := by
      rcases Nat.lt_or_ge i (items.toList.zip items2.toList).length with h' | h'
      · exact h'
      · rw [List.drop_of_length_le h'] at hz; cases hz
    have h1 : i < items.size := hZ ▸ hlt
    have h2 : i < items2.size := hsz ▸ h1
    rw [List.drop_eq_getElem_cons hlt] at hz
    injection hz with hyx hrest
    have hy : y = items[i] := by have := congrArg Prod.fst hyx; simpa using this
    have hx : x = items2[i] := by have := congrArg Prod.snd hyx; simpa using this
    subst hy hx
    refine wpAny_bind (wpAny_mono (turn i h1 h2 s' hI) (fun r s2 q2 => ?_) fun _ _ x => x)
    rcases q2 with ⟨hr, q2⟩ | ⟨hr, q2⟩
    · subst hr
      wp_walk
      exact ⟨rfl, i + 1, hrest, h1, q2⟩
    · subst hr
      wp_walk
      exact q2
  case fin =>
    rintro ⟨b1, b2⟩ s' ⟨hb', i, hz, hi, hI⟩
    simp only at hb'
    subst hb'
    have hge : items.size ≤ i := by
      rcases Nat.lt_or_ge i (items.toList.zip items2.toList).length with h' | h'
      · rw [List.drop_eq_getElem_cons h'] at hz; cases hz
      · exact hZ ▸ h'
    have hi' : i = items.size := by omega
    have hR : R (.ok (.ret (.bool true))) s' := fin s' (hi' ▸ hI)
    wp_walk
    simpa [Builtin.Tuple.tupleCompareSizes, hsz] using hR
  case h =>
    exact ⟨rfl, 0, rfl, Nat.zero_le _, h0⟩
end
section
variable {prog : Program} {w : World} {A : Around} {E : Value → Shared → Prop} {s : Shared}
theorem rc_tupB {l b : Addr} {items items2 : Array Value} {Q : Value → Shared → Prop} (hsz : items.size = items2.size) (hu : A.units < cLine) (I : Nat → Shared → Prop)
    (hl : s.heap.IsTuple l items) (hb : s.heap.IsTuple b items2)
    (turn : ∀ i (h1 : i < items.size) (h2 : i < items2.size) s, I i s → wpAny (model prog w) A.in1 (eqBool items[i] items2[i]) (fun r s' => (r = true ∧ I (i + 1) s') ∨ (r = false ∧ Q (.bool false) s')) E s)
    (fin : ∀ s, I items.size s → Q (.bool true) s) (h : I 0 s) : wpAny (model prog w) A (richCompare .Eq (.ref l) (.ref b)) Q E s := by
  obtain ⟨⟨cls, dd, data, sl⟩, ho, hc, n, hd⟩ := id hl
  obtain ⟨⟨cls2, dd2, data2, sl2⟩, ho2, hc2, n2, hd2⟩ := id hb
  simp only at hc hd hc2 hd2
  subst hc hd hc2 hd2
  refine wpAny_richCompare_same_room (op := .Eq) ⟨_, ho, rfl⟩ ⟨_, ho2, rfl⟩ F.slot_tuple_eq (GQ.call_here F.slot_tuple_eq ⟨_, ho, rfl⟩ F.entry_tuple_eq (F.args_tuple_eq_2 _ _) ?_) hu
  exact tuple_eqB (R := wants (fun v s' => v ≠ .notImplemented ∧ Q v s') E) l b items items2 n n2 dd dd2 sl sl2 hsz I (fun i h1 h2 s hI => wpAny_mono (turn i h1 h2 s hI) (fun r s' q => q.imp id fun q => ⟨q.1, (fun x => nomatch x), q.2⟩) fun _ _ x => x) (fun s' q => ⟨(fun x => nomatch x), fin s' q⟩) ho ho2 h
end
end
/-- how two values are seen to be equal or not -/
abbrev EqvB := V → V → Hp → Bool → Prop
def MonB (D : EqvB) : Prop := ∀ x y H H' b, Ex H H' → D x y H b → D x y H' b
/-- == tells what D says, and only makes objects; the same thing is equal to itself -/
structure EqB (X : Cx) (n : Nat) (D : EqvB) : Prop where
  run : ∀ (A : Around) (pins : List (Addr × Obj)) (s : Shared) (σ : L2.St) (H : Hp) (x y : V) (u v : Value) (b : Bool), Sub X n A → Inv X pins σ H s → RelV x u → RelV y v → D x y H b →
    wpAny (model X.prog X.w) A (eqBool u v) (fun r s' => r = b ∧ ∃ H', Inv X pins σ H' s' ∧ Ex H H') X.xe s
  mon : MonB D
  rfl_ : ∀ (pins : List (Addr × Obj)) (s : Shared) (σ : L2.St) (H : Hp) (x : V) (b : Bool), Inv X pins σ H s → D x x H b → b = true
section
variable {X : Cx} {n m : Nat} {D D' : EqvB}
theorem EqB.mono (h : EqB X n D) (hn : n ≤ m) : EqB X m D := ⟨fun A pins s σ H x y u v b sb => h.run A pins s σ H x y u v b (sb.mono hn), h.mon, h.rfl_⟩
theorem EqB.or (h : EqB X n D) (h' : EqB X n D') : EqB X n (fun x y H b => D x y H b ∨ D' x y H b) :=
  ⟨fun A pins s σ H x y u v b sb I rx ry d => d.elim (h.run A pins s σ H x y u v b sb I rx ry) (h'.run A pins s σ H x y u v b sb I rx ry),
   fun x y H H' b e d => d.imp (h.mon x y H H' b e) (h'.mon x y H H' b e), fun pins s σ H x b I d => d.elim (h.rfl_ pins s σ H x b I) (h'.rfl_ pins s σ H x b I)⟩
theorem EqB.imp (h : EqB X n D) (hd : ∀ x y H b, D' x y H b → D x y H b) (hm : MonB D') : EqB X n D' :=
  ⟨fun A pins s σ H x y u v b sb I rx ry d => h.run A pins s σ H x y u v b sb I rx ry (hd x y H b d), hm, fun pins s σ H x b I d => h.rfl_ pins s σ H x b I (hd x x H b d)⟩
/-- flat values -/
def BFlat : EqvB := fun x y _ b => flatV x = true ∧ flatV y = true ∧ eqV x y = b ∧ (x = y → b = true)
theorem eqB_flat : EqB X 0 BFlat := by
  refine ⟨?_, fun _ _ _ _ _ _ d => d, fun _ _ _ _ _ _ _ d => d.2.2.2 rfl⟩
  intro A pins s σ H x y u v b sb I rx ry d
  obtain ⟨fx, fy, e, _⟩ := d
  have q := eqAt_V (A := A) (s := s) rx ry fx fy
  rw [e] at q
  exact q X.prog X.w X.xe _ ⟨rfl, H, I, Ex.refl _⟩
theorem sqT_one {pins : List (Addr × Obj)} {σ : L2.St} {H : Hp} {s : Shared} {a : Addr} {xs ys : List V} (I : Inv X pins σ H s) (h : SqT X.K H a xs) (h2 : SqT X.K H a ys) : xs = ys := by
  obtain ⟨its, r, e, z⟩ := I.tuple h
  obtain ⟨its2, r2, e2, z2⟩ := I.tuple h2
  obtain ⟨o, ho, hc, k, hd⟩ := e
  obtain ⟨o2, ho2, hc2, k2, hd2⟩ := e2
  rw [ho] at ho2
  cases ho2
  rw [hd] at hd2
  injection hd2 with q1 q2
  have q1 : its = its2 := congrArg Array.toList q1
  subst q1
  exact r.inj r2
mutual
theorem dp_one {pins : List (Addr × Obj)} {σ : L2.St} {H : Hp} {s : Shared} (I : Inv X pins σ H s) : ∀ {d d' : PyData} {v : V}, imm d = true → imm d' = true → Dp X.K H v d → Dp X.K H v d' → d = d'
  | _, _, _, _, _, .non, .non => rfl
  | _, _, _, _, _, .bl _, .bl _ => rfl
  | _, _, _, _, _, .int _, .int _ => rfl
  | _, _, _, _, _, .str _, .str _ => rfl
  | _, _, _, h, _, .lst _ _, _ => nomatch h
  | _, _, _, _, h, .tup _ _, .lst _ _ => nomatch h
  | _, _, _, h, h', .tup s a, .tup s' a' => by
    have e := sqT_one I s s'
    subst e
    rw [dpAll_one I h h' a a']
theorem dpAll_one {pins : List (Addr × Obj)} {σ : L2.St} {H : Hp} {s : Shared} (I : Inv X pins σ H s) : ∀ {ds ds' : List PyData} {vs : List V}, immAll ds = true → immAll ds' = true → DpAll X.K H vs ds → DpAll X.K H vs ds' → ds = ds'
  | _, _, _, _, _, .nil, .nil => rfl
  | _, _, _, h, h', .cons a r, .cons a' r' => by
    rw [dp_one I (Bool.and_eq_true_iff.mp h).1 (Bool.and_eq_true_iff.mp h').1 a a', dpAll_one I (Bool.and_eq_true_iff.mp h).2 (Bool.and_eq_true_iff.mp h').2 r r']
end
/-- data -/
def BDat (K : PySem.W.Frag) : EqvB := fun x y H b => ∃ d e, Dp K H x d ∧ Dp K H y e ∧ SeqAt.shaped d = true ∧ SeqAt.shaped e = true ∧ imm d = true ∧ imm e = true ∧ PyData.eqv d e = b ∧ (d = e → b = true)
theorem eqB_dat : EqB X 0 (BDat X.K) := by
  refine ⟨?_, ?_, ?_⟩
  · intro A pins s σ H x y u v b sb I rx ry h
    obtain ⟨d, e, hd, he, sd, se, _, _, hb, _⟩ := h
    obtain ⟨as, r1⟩ := Dp.reads I d x u hd rx
    obtain ⟨bs, r2⟩ := Dp.reads I e y v he ry
    have q := SeqAt.eqAt_reads d e A s u v as bs r1 r2 (SeqAt.canLay_of_shaped sd) (SeqAt.canLay_of_shaped se) (SeqAt.room_of_shaped sd (by have := sb.room.un; omega))
    rw [hb] at q
    exact q X.prog X.w X.xe _ ⟨rfl, H, I, Ex.refl _⟩
  · rintro x y H H' b e ⟨d, e', hd, he, r⟩
    exact ⟨d, e', dp_ex e hd, dp_ex e he, r⟩
  · rintro pins s σ H x b I ⟨d, e, hd, he, _, _, i1, i2, _, hb⟩
    exact hb (dp_one I i1 i2 hd he)
/-- from the rich comparison of references -/
theorem eqB_ref {D : EqvB} (hr : ∀ x y H b, D x y H b → ∃ p q, x = .ref p ∧ y = .ref q) (hm : MonB D)
    (hf : ∀ (pins : List (Addr × Obj)) (s : Shared) (σ : L2.St) (H : Hp) (x : V) (b : Bool), Inv X pins σ H s → D x x H b → b = true)
    (h : ∀ (A : Around) (pins : List (Addr × Obj)) (s : Shared) (σ : L2.St) (H : Hp) (p q : Addr) (b : Bool), Sub X n A → Inv X pins σ H s → D (.ref p) (.ref q) H b →
      wpAny (model X.prog X.w) A (richCompare .Eq (.ref p) (.ref q)) (fun r s' => r = .bool b ∧ ∃ H', Inv X pins σ H' s' ∧ Ex H H') X.xe s) : EqB X n D := by
  refine ⟨?_, hm, hf⟩
  intro A pins s σ H x y u v b sb I rx ry d
  obtain ⟨p, q, rfl, rfl⟩ := hr _ _ _ _ d
  cases rx
  cases ry
  by_cases hab : p = q
  · subst hab
    have e := hf pins s σ H _ b I d
    subst e
    exact SeqAt.EqAt.same (A := A) (s := s) (.ref p) X.prog X.w X.xe _ ⟨rfl, H, I, Ex.refl _⟩
  · refine GQ.eqBool_refG hab (wpAny_mono (h A pins s σ H p q b sb I d) (fun r s' z => ?_) fun _ _ x => x)
    obtain ⟨hr', z⟩ := z
    exact ⟨b, hr', rfl, z⟩
/-- tuples, item by item -/
def BTup (K : PySem.W.Frag) (D : EqvB) : EqvB := fun x y H b => ∃ p q xs ys, ∃ bs : Nat → Bool, x = .ref p ∧ y = .ref q ∧ SqT K H p xs ∧ SqT K H q ys ∧ xs.length = ys.length ∧ (∀ (i : Nat) u v, xs[i]? = some u → ys[i]? = some v → D u v H (bs i)) ∧ b = (List.range xs.length).all bs
theorem mon_tupB {K : PySem.W.Frag} (hD : MonB D) : MonB (BTup K D) := fun x y H H' b e d => by
  obtain ⟨p, q, xs, ys, bs, rfl, rfl, h1, h2, hl, hi, hb⟩ := d
  exact ⟨p, q, xs, ys, bs, rfl, rfl, ex_t e h1, ex_t e h2, hl, fun i u v a c => hD _ _ _ _ _ e (hi i u v a c), hb⟩
theorem rfl_tupB (h : EqB X n D) (pins : List (Addr × Obj)) (s : Shared) (σ : L2.St) (H : Hp) (x : V) (b : Bool) (I : Inv X pins σ H s) (d : BTup X.K D x x H b) : b = true := by
  obtain ⟨p, q, xs, ys, bs, rfl, e, h1, h2, hl, hi, hb⟩ := d
  cases e
  have e := sqT_one I h1 h2
  subst e
  rw [hb, List.all_eq_true]
  intro i hm
  have hlt := List.mem_range.mp hm
  exact h.rfl_ pins s σ H _ _ I (hi i _ _ (List.getElem?_eq_getElem hlt) (List.getElem?_eq_getElem hlt))
theorem rc_tupBX (h : EqB X n D) (A : Around) (pins : List (Addr × Obj)) (s : Shared) (σ : L2.St) (H : Hp) (p q : Addr) (b : Bool) (sb : Sub X (n + 1) A) (I : Inv X pins σ H s) (d : BTup X.K D (.ref p) (.ref q) H b) :
    wpAny (model X.prog X.w) A (richCompare .Eq (.ref p) (.ref q)) (fun r s' => r = .bool b ∧ ∃ H', Inv X pins σ H' s' ∧ Ex H H') X.xe s := by
  obtain ⟨p', q', xs, ys, bs, e1, e2, ha, hb, hl, hi, hbb⟩ := d
  cases e1
  cases e2
  obtain ⟨its, r, e, z⟩ := I.tuple ha
  obtain ⟨its2, r2, e2, z2⟩ := I.tuple hb
  have hsz : its.toArray.size = its2.toArray.size := by rw [List.size_toArray, List.size_toArray, ← r.length, ← r2.length]; exact hl
  refine rc_tupB hsz sb.room.units0 (fun i s' => (∀ j, j < i → bs j = true) ∧ ∃ H', Inv X pins σ H' s' ∧ Ex H H') e e2 (fun i h1 h2 s' L => ?_) (fun s' L => ⟨?_, L.2⟩) ⟨fun j hj => absurd hj (Nat.not_lt_zero _), H, I, Ex.refl _⟩
  · obtain ⟨hj, H1, I1, e1⟩ := L
    have g1 : its[i]? = some its.toArray[i] := by
      have h1' : i < its.length := by simpa using h1
      rw [List.getElem?_eq_getElem h1'] <;> simp
    have g2 : its2[i]? = some its2.toArray[i] := by
      have h2' : i < its2.length := by simpa using h2
      rw [List.getElem?_eq_getElem h2'] <;> simp
    have k1 : i < xs.length := by rw [r.length]; simpa using h1
    have k2 : i < ys.length := by rw [r2.length]; simpa using h2
    obtain ⟨u, hu, ru⟩ := r.get (List.getElem?_eq_getElem k1)
    obtain ⟨v, hv, rv⟩ := r2.get (List.getElem?_eq_getElem k2)
    rw [g1] at hu
    rw [g2] at hv
    rw [Option.some.inj hu, Option.some.inj hv]
    refine wpAny_mono (h.run A.in1 pins s' σ H1 _ _ u v (bs i) sb.in1 I1 ru rv (h.mon _ _ _ _ _ e1 (hi i _ _ (List.getElem?_eq_getElem k1) (List.getElem?_eq_getElem k2)))) (fun r s2 q => ?_) fun _ _ x => x
    obtain ⟨hr, H2, I2, e2⟩ := q
    cases hbi : bs i with
    | true =>
      rw [hbi] at hr
      exact .inl ⟨hr, fun j hj' => by rcases Nat.lt_succ_iff_lt_or_eq.mp hj' with h' | h'; exact hj j h'; rw [h']; exact hbi, H2, I2, e1.trans e2⟩
    | false =>
      rw [hbi] at hr
      refine .inr ⟨hr, ?_, H2, I2, e1.trans e2⟩
      rw [hbb, List.all_eq_false.mpr ⟨i, List.mem_range.mpr k1, by rw [hbi]; exact Bool.false_ne_true⟩]
  · rw [hbb, List.all_eq_true.mpr fun j hj => L.1 j (by rw [List.size_toArray, ← r.length]; exact List.mem_range.mp hj)]
theorem eqB_tup (h : EqB X n D) : EqB X (n + 1) (BTup X.K D) :=
  eqB_ref (fun _ _ _ _ d => let ⟨p, q, _, _, _, hx, hy, _⟩ := d; ⟨p, q, hx, hy⟩) (mon_tupB h.mon) (rfl_tupB h) (rc_tupBX h)
/-- instances of the class at C -/
def BIns (C : Addr) (R : Addr → Addr → Hp → Bool → Prop) : EqvB := fun x y H b => ∃ p q dx dy fs gs, x = .ref p ∧ y = .ref q ∧ H p = some (.ins C dx fs) ∧ H q = some (.ins C dy gs) ∧ R p q H b
theorem rc_insB {C : Addr} {sp : Sp} {R : Addr → Addr → Hp → Bool → Prop} (c : EqOf X.prog X.w X.K X.mg X.base n C sp) (hn : PySem.W.notFirst X.K C (.ref C) = true) (hsp : ∀ p q H b, R p q H b → sp [.ref p, .ref q] H (fun v H' => v = .bl b ∧ Ex H H') E0)
    (A : Around) (pins : List (Addr × Obj)) (s : Shared) (σ : L2.St) (H : Hp) (p q : Addr) (b : Bool) (sb : Sub X n A) (I : Inv X pins σ H s) (d : BIns C R (.ref p) (.ref q) H b) :
    wpAny (model X.prog X.w) A (richCompare .Eq (.ref p) (.ref q)) (fun r s' => r = .bool b ∧ ∃ H', Inv X pins σ H' s' ∧ Ex H H') X.xe s := by
  obtain ⟨g, fd, ps, hs, hf, F, hb⟩ := c.ex
  obtain ⟨p', q', dx, dy, fs, gs, e1, e2, ha, hb', hr⟩ := d
  cases e1
  cases e2
  obtain ⟨mA, J, _⟩ := ins_get I.hok ha
  obtain ⟨mB, J', _⟩ := ins_get I.hok hb'
  obtain ⟨od, J, _⟩ := J.look
  obtain ⟨od', J', _⟩ := J'.look
  obtain ⟨m, hF⟩ := I.fr
  refine PySem.W.cmp_K (op := .Eq) (tb := .ref C) sb.room.units0 hF I.ok.mod.kin J J'.type hn hs hf ?_
  have hsp := hsp p q H b hr
  have e0 : Env0 X.prog X.w X.K X.mg X.base A X.stack s H := by
    have e := I.env0
    exact ⟨by rw [sb.fr]; exact e.frames, e.mod, e.bs, e.bsz, e.funs, e.frf, e.hok, e.bare⟩
  have hl := F.len _ _ _ _ hsp
  have r2 : Vals [V.ref p, V.ref q] [Value.ref p, Value.ref q] := .cons rfl (.cons rfl .nil)
  refine wpAny_call (codeAny_mono (F.run A X.stack s H ⟨[.ref p, .ref q], []⟩ [.ref p, .ref q] [.ref p, .ref q] _ E0 sb.room e0 (by
    have := hb s [.ref p, .ref q] I.kIn (by simpa using hl)
    simpa using this) r2 hsp) fun r s' hq => ?_)
  cases r with
  | error e => exact pass0 pins σ H s e s' I hq
  | ok fl =>
    cases fl with
    | ret w =>
      obtain ⟨z, H', I', rz, ez, ex⟩ := I.after hq
      subst ez
      cases rz
      exact ⟨rfl, H', I', ex⟩
    | next => exact False.elim hq
    | brk => exact False.elim hq
    | cont => exact False.elim hq
theorem eqB_ins {C : Addr} {sp : Sp} {R : Addr → Addr → Hp → Bool → Prop} (c : EqOf X.prog X.w X.K X.mg X.base n C sp) (hn : PySem.W.notFirst X.K C (.ref C) = true) (hsp : ∀ p q H b, R p q H b → sp [.ref p, .ref q] H (fun v H' => v = .bl b ∧ Ex H H') E0)
    (hm : ∀ p q H H' b, Ex H H' → R p q H b → R p q H' b) (hf : ∀ (pins : List (Addr × Obj)) (s : Shared) (σ : L2.St) (H : Hp) (p : Addr) (b : Bool), Inv X pins σ H s → R p p H b → b = true) : EqB X n (BIns C R) :=
  eqB_ref (fun _ _ _ _ d => let ⟨p, q, _, _, _, _, hx, hy, _⟩ := d; ⟨p, q, hx, hy⟩)
    (fun x y H H' b e d => by obtain ⟨p, q, dx, dy, fs, gs, hx, hy, h1, h2, r⟩ := d; exact ⟨p, q, dx, dy, fs, gs, hx, hy, e _ _ h1, e _ _ h2, hm _ _ _ _ _ e r⟩)
    (fun pins s σ H x b I d => by obtain ⟨p, q, dx, dy, fs, gs, rfl, hy, h1, h2, r⟩ := d; cases hy; exact hf pins s σ H p b I r)
    (rc_insB c hn hsp)
/-- x == y as an expression -/
def rEqB (D : EqvB) : R2 := fun x y H Q => ∃ b, D x y H b ∧ ∀ H', Ex H H' → Q (.bl b) H'
theorem op_eqB (h : EqB X n D) (hr : Room (n + 1) X.A) : OpR X (compareOp .Eq) (rEqB (BTup X.K D)) := by
  intro pins s σ H x y v u Q I rx ry hq
  obtain ⟨b, d, q⟩ := hq
  obtain ⟨p, q', _, _, _, e1, e2, _⟩ := id d
  subst e1
  subst e2
  cases rx
  cases ry
  show wpAny (model X.prog X.w) X.A (richCompare .Eq _ _) (EP X pins σ Q) X.xe s
  refine wpAny_mono (rc_tupBX h X.A pins s σ H p q' b ⟨hr, rfl⟩ I d) (fun r s' z => ?_) fun _ _ x => x
  obtain ⟨hr', H', I', e⟩ := z
  subst hr'
  exact ⟨.bl b, H', I', rfl, q H' e⟩
end

end
section
theorem wn_gr : ¬ (("givens" : Str) = "rows") := by decide +kernel
theorem wn_gn : ¬ (("givens" : Str) = "row_names") := by decide +kernel
theorem wn_rn : ¬ (("rows" : Str) = "row_names") := by decide +kernel
theorem wn_ig : ¬ (("inlets" : Str) = "givens") := by decide +kernel
theorem wn_ir : ¬ (("inlets" : Str) = "rows") := by decide +kernel
def wF3 (a b c : V) : List (Str × V) := putF "row_names" c (putF "rows" b (putF "givens" a []))
section
variable {a b c : V}
theorem wF3_gi : (wF3 a b c).lookup ("givens" : Str) = some a := by
  unfold wF3
  rw [lookup_putF, if_neg wn_gn, lookup_putF, if_neg wn_gr, lookup_putF, if_pos rfl]
theorem wF3_ro : (wF3 a b c).lookup ("rows" : Str) = some b := by
  unfold wF3
  rw [lookup_putF, if_neg wn_rn, lookup_putF, if_pos rfl]
theorem wF3_na : (wF3 a b c).lookup ("row_names" : Str) = some c := by
  unfold wF3
  rw [lookup_putF, if_pos rfl]
end
/-- a web stands at x -/
def WebAt (K : PySem.W.Frag) (H : Hp) (x : Addr) (gs : List Str) (rs : List Rw) : Prop := ∃ dx pg pr pn xs, H x = some (.ins (He.ga K "Web") dx (wF3 (.ref pg) (.ref pr) (.ref pn))) ∧ SqT K H pg (vS gs) ∧ SqT K H pr xs ∧ RowsAt K H xs rs ∧ SqT K H pn (vS (rs.map Rw.nm))
section
variable {K : PySem.W.Frag} {H H' : Hp} {x : Addr} {gs : List Str} {rs : List Rw}
theorem web_k (e : KEx H H') (t : WebAt K H x gs rs) : WebAt K H' x gs rs := by
  obtain ⟨dx, pg, pr, pn, xs, h1, h2, h3, h4, h5⟩ := t
  exact ⟨dx, pg, pr, pn, xs, e.2 _ _ _ _ h1, tex_t e.1 h2, tex_t e.1 h3, rows_k e h4, tex_t e.1 h5⟩
theorem ex_web (e : Ex H H') (t : WebAt K H x gs rs) : WebAt K H' x gs rs := web_k (KEx.of e) t
theorem web_mine (t : WebAt K H x gs rs) : ∃ dx fl, H x = some (.ins (He.ga K "Web") dx fl) := by
  obtain ⟨dx, _, _, _, _, h1, _⟩ := t
  exact ⟨dx, _, h1⟩
theorem mak_frP {p C dx : Addr} {fs : List (Str × V)} (hp : H p = some (.ins C dx fs)) (hn : fs.lookup ("inlets" : Str) = none) (f : Fr p H H') {y : Addr} {k : Int} {b : List Dd} {ws : List (List Dd)} (t : MakAt K H y k b ws) : MakAt K H' y k b ws := by
  obtain ⟨dy, vb, vw, h1, h2, h3⟩ := t
  have hne : y ≠ p := by
    rintro rfl
    rw [hp] at h1
    cases h1
    rw [kF_in] at hn
    cases hn
  exact ⟨dy, vb, vw, f _ _ hne h1, dp_tex (tex_fri hp f) (imm_dW b) h2, dp_tex (tex_fri hp f) (imm_dWs ws) h3⟩
theorem rows_frP {p C dx : Addr} {fs : List (Str × V)} (hp : H p = some (.ins C dx fs)) (hn : fs.lookup ("inlets" : Str) = none) (f : Fr p H H') : ∀ {vs : List V} {rs : List Rw}, RowsAt K H vs rs → RowsAt K H' vs rs
  | _, _, .nil => .nil
  | _, _, .cons h t => .cons (by
    obtain ⟨q, vm, s, rfl, h1, h2, h3⟩ := h
    refine ⟨q, vm, s, rfl, tex_t (tex_fri hp f) h1, ?_, tex_t (tex_fri hp f) h3⟩
    rename_i r vs rs
    obtain ⟨nm, mu, src⟩ := r
    cases mu with
    | mk k b ws => obtain ⟨y, rfl, h⟩ := h2; exact ⟨y, rfl, mak_frP hp hn f h⟩
    | un u => exact h2) (rows_frP hp hn f t)
end
section
variable {P : Program} {K : PySem.W.Frag} {mg : Str → Option Value} {H : Hp} {x : Addr} {gs : List Str} {rs : List Rw} {Q : VK}
theorem r_webGi (E : Env P K mg) (t : WebAt K H x gs rs) (q : ∀ a, SqT K H a (vS gs) → Q (.ref a) H) : GetF K "givens" (.ref x) H Q := by
  obtain ⟨dx, pg, pr, pn, xs, h1, h2, h3, h4, h5⟩ := t
  exact r_getF h1 E.c_Web E.na_Web_givens wF3_gi (q _ h2)
theorem r_webRo (E : Env P K mg) (t : WebAt K H x gs rs) (q : ∀ a xs, SqT K H a xs → RowsAt K H xs rs → Q (.ref a) H) : GetF K "rows" (.ref x) H Q := by
  obtain ⟨dx, pg, pr, pn, xs, h1, h2, h3, h4, h5⟩ := t
  exact r_getF h1 E.c_Web E.na_Web_rows wF3_ro (q _ _ h3 h4)
theorem r_webNa (E : Env P K mg) (t : WebAt K H x gs rs) (q : ∀ a, SqT K H a (vS (rs.map Rw.nm)) → Q (.ref a) H) : GetF K "row_names" (.ref x) H Q := by
  obtain ⟨dx, pg, pr, pn, xs, h1, h2, h3, h4, h5⟩ := t
  exact r_getF h1 E.c_Web E.na_Web_row_names wF3_na (q _ h5)
end
abbrev spWeb (K : PySem.W.Frag) : Sp := sp3 fun x a b H Q _ => ∃ (p dx pg pr : Addr) (gs : List Str) (xs : List V) (rs : List Rw), x = .ref p ∧ H p = some (.ins (He.ga K "Web") dx []) ∧ a = .ref pg ∧ SqE K H pg (vS gs) ∧ b = .ref pr ∧ SqL K H pr xs ∧ RowsAt K H xs rs ∧ WbOk gs rs ∧ ∀ H', WebAt K H' p gs rs → Fr p H H' → Q .non H'
abbrev N_Web_init : List Str := ["self", "givens", "rows", "told", "made", "row"]
theorem sc_Web_init : FnScope N_Web_init ["self", "givens", "rows"] (defScope s_Web_init) := ⟨rfl, rfl, rfl, by decide +kernel, rfl, by decide +kernel, by decide +kernel⟩
theorem fx_Web_init {P : Program} {w : World} {K : PySem.W.Frag} {mg : Str → Option Value} {base : Heap} (E : Env P K mg) : ∃ fd, FunD K "__init__" "Web.__init__" (defArgs s_Web_init) (defBody s_Web_init) (defScope s_Web_init) (d_Web_init.dvs K) [] (d_Web_init.adr K) fd ∧ FnOk P w K mg base CX0 10 (d_Web_init.adr K) fd ["self", "givens", "rows"] (spWeb K) := by
  obtain ⟨fd, F⟩ := E.dd_Web_init
  refine ⟨fd, F, fnok0 F sc_Web_init sp3_len (fun cdv A outer s H vs Q X hr h => ?_)⟩
  have nd := sc_Web_init.nd
  obtain ⟨v0, v1, v2, rfl, h⟩ := h
  refine ⟨_, (pss_cons (ps_set (i := 3) nd rfl (.inl rfl) (pc (ok_check_givens E) hr (by decide) pass0 rfl (pa_cons (pv 1) pa_nil)))
  (pss_cons (ps_set (i := 4) nd rfl (.inl rfl) (pc (ok_check_rows E) hr (by decide) pass0 rfl (pa_cons (pv 2) pa_nil)))
  (pss_cons (ps_expr (pc (ok_check_names E) hr (by decide) pass0 rfl (pa_cons (pv 3) (pa_cons (pv 4) pa_nil))))
  (pss_cons (kFldS K (ps_fld (pv 0) (pv 3) rfl))
  (pss_cons (kFldS K (ps_fld (pv 0) (pv 4) rfl))
  (pss_one (kFldS K (ps_fld (pv 0) (pe_callTy (kTup K) (by rfl) E.f_tuple (by decide +kernel) (pa_cons (pe_lc (own := [("row", 5)]) (g := gName 5) (tt := tYes) rfl nd (kSeq K (pv 4)) (blkOk_by (N := N_Web_init) (sc := defScope s_Web_init) (by decide +kernel)) (fun _ _ _ _ _ => pg_name (i := 5) nd rfl (Or.inl rfl)) (fun _ _ _ _ _ => pts_nil) (fun _ _ _ _ _ => pe_ix (kIx K) (pv 5) (pe_int) (fun _ _ => rfl))) pa_nil)) rfl)))))))), ?_⟩
  change (_ : TS) _ [some v0, some v1, some v2, none, none, none] H
  try dsimp only [cxOf, Cx.nox, Cx.blk]
  obtain ⟨p, dx, pg, pr, gs, xs, rs, rfl, hp, rfl, sg, rfl, sr, hr', ok, k⟩ := h
  have zx := rows_len hr'
  have r6 := ok.r6
  walk_at "w"
  refine ⟨pg, gs, rfl, sg, ok.g3, ok.gok, fun t H1 e1 st => ?_⟩
  walk_at "w"
  refine ⟨pr, xs, rs, rfl, ex_l e1 sr, ex_rows e1 hr', ok.r1, ok.r6, ok.rok, fun tm ys H2 e2 sm hy => ?_⟩
  walk_at "w"
  refine ⟨t, tm, ys, gs, rs, rfl, ex_t e2 st, rfl, sm, hy, ok.g3, ok.r6, fun r hr => (ok.rok r hr).s3, ok.nd, ok.mem, fun H3 e3 => ?_⟩
  have E3 := (e1.trans e2).trans e3
  have hp3 := E3 _ _ hp
  have st3 := ex_t (e2.trans e3) st
  have sm3 := ex_t e3 sm
  have hy3 := ex_rows e3 hy
  have zy := rows_len hy
  walk_at "w"
  refine r_putF hp3 E.c_Web E.na_Web_givens (by decide) ?_
  have F1 : Fr p H3 (upd H3 p (.ins (He.ga K "Web") dx (putF "givens" (.ref t) []))) := Fr.upd
  have hp4 : upd H3 p (.ins (He.ga K "Web") dx (putF "givens" (.ref t) [])) p = some (.ins (He.ga K "Web") dx (putF "givens" (.ref t) [])) := upd_same
  generalize upd H3 p (.ins (He.ga K "Web") dx (putF "givens" (.ref t) [])) = G1 at *
  have st4 := tex_t (tex_fri hp3 F1) st3
  have sm4 := tex_t (tex_fri hp3 F1) sm3
  have hy4 := rows_frP hp3 rfl F1 hy3
  have n4 : (putF "givens" (.ref t) ([] : List (Str × V))).lookup ("inlets" : Str) = none := by rw [lookup_putF, if_neg wn_ig]; rfl
  walk_at "w"
  refine r_putF hp4 E.c_Web E.na_Web_rows (Nat.lt_of_le_of_lt (putF_len _ _ _) (by decide)) ?_
  have F2 : Fr p G1 (upd G1 p (.ins (He.ga K "Web") dx (putF "rows" (.ref tm) (putF "givens" (.ref t) [])))) := Fr.upd
  have hp5 : upd G1 p (.ins (He.ga K "Web") dx (putF "rows" (.ref tm) (putF "givens" (.ref t) []))) p = some (.ins (He.ga K "Web") dx (putF "rows" (.ref tm) (putF "givens" (.ref t) []))) := upd_same
  generalize upd G1 p (.ins (He.ga K "Web") dx (putF "rows" (.ref tm) (putF "givens" (.ref t) []))) = G2 at *
  have st5 := tex_t (tex_fri hp4 F2) st4
  have sm5 := tex_t (tex_fri hp4 F2) sm4
  have hy5 := rows_frP hp4 n4 F2 hy4
  have n5 : (putF "rows" (.ref tm) (putF "givens" (.ref t) ([] : List (Str × V)))).lookup ("inlets" : Str) = none := by rw [lookup_putF, if_neg wn_ir]; exact n4
  walk_at "w"
  refine i_seqT ?_
  walk_at "w"
  refine lcY_tup (ys := vS (rs.map Rw.nm)) sm5 (by unfold vS; rw [List.length_map, List.length_map, zy]) (by omega) (fun x => [_, _, _, _, _, some x]) (fun x => rfl) (fun x => rfl) (fun i x y H3 Q' e3 hx hy hq => ?_) (fun l3 G3 n3 e3 g3 => ?_)
  · obtain ⟨r, hri, hrow⟩ := rows_get hy5 hx
    obtain ⟨pr, vm, qs, rfl, sp', mu, sq'⟩ := ex_row e3 hrow
    obtain ⟨w, hw, rfl⟩ := getElem?_vS hy
    rw [List.getElem?_map, hri] at hw
    cases hw
    walk_at "w"
    exact hq _ (Ex.refl _)
  walk_at "w"
  intro tn G4 e4 s4
  have E4 := e3.trans e4
  have hp6 := E4 _ _ hp5
  have st6 := ex_t E4 st5
  have sm6 := ex_t E4 sm5
  have hy6 := ex_rows E4 hy5
  walk_at "w"
  refine r_putF hp6 E.c_Web E.na_Web_row_names (Nat.lt_of_le_of_lt (Nat.le_trans (putF_len _ _ _) (Nat.succ_le_succ (putF_len _ _ _))) (by decide)) ?_
  have F3 : Fr p G4 (upd G4 p (.ins (He.ga K "Web") dx (wF3 (.ref t) (.ref tm) (.ref tn)))) := Fr.upd
  refine k _ ⟨dx, t, tm, tn, ys, upd_same, tex_t (tex_fri hp6 F3) st6, tex_t (tex_fri hp6 F3) sm6, rows_frP hp6 n5 F3 hy6, tex_t (tex_fri hp6 F3) s4⟩ ?_
  exact ((((Fr.of E3).trans F1).trans F2).trans (Fr.of E4)).trans F3
section
variable {P : Program} {w : World} {K : PySem.W.Frag} {mg : Str → Option Value} {base : Heap}
theorem ok_Web2 (E : Env P K mg) : Mkc P w K mg base CX0 10 "Web" (He.ga K "Web") (spWeb K) [] := by
  obtain ⟨fd, F, k⟩ := fx_Web_init (P := P) (w := w) (base := base) E
  exact ⟨_, fd, _, [], E.mk_Web, k, E.g_Web, F.bindsN (fun _ _ _ _ _ _ us hl => match us, hl with | [_, _, _], _ => rfl), .nil⟩
end
/-- Web(..) made -/
theorem mk_web {K : PySem.W.Frag} {H : Hp} {Q : VK} {pg pr : Addr} {gs : List Str} {xs : List V} {rs : List Rw} (sg : SqE K H pg (vS gs)) (sr : SqL K H pr xs) (hr : RowsAt K H xs rs) (ok : WbOk gs rs)
    (q : ∀ x H2, Ex H H2 → WebAt K H2 x gs rs → Q (.ref x) H2) : MakeI (He.ga K "Web") (spWeb K) [] E0 [.ref pg, .ref pr] H Q := by
  intro x dx nx ndx ne
  have ex : Ex H (upd (upd H dx (.own x)) x (.ins (He.ga K "Web") dx [])) := fun b o e => by
    rw [upd_ne (ne_of_none e nx), upd_ne (ne_of_none e ndx)]
    exact e
  refine ⟨_, _, _, rfl, x, dx, pg, pr, gs, xs, rs, rfl, upd_same, rfl, ex_e ex sg, rfl, ex_l ex sr, ex_rows ex hr, ok, fun H' t f => ⟨rfl, q x H' (fun b o e => ?_) t⟩⟩
  exact f b o (ne_of_none e nx) (ex b o e)
/-! == of rows -/
abbrev spMkEq (K : PySem.W.Frag) : Sp := sp2 fun x y H Q _ => ∃ p k b ws, x = .ref p ∧ MakAt K H p k b ws ∧ ((∃ q k' b' ws', y = .ref q ∧ MakAt K H q k' b' ws' ∧ RetD K (.bool (decide (k = k' ∧ b = b' ∧ ws = ws'))) H Q) ∨ (∃ n ∈ ["tuple", "int"], TyX K H y (.type n) ∧ RetD K (.bool false) H Q))
def RMk (K : PySem.W.Frag) (p q : Addr) (H : Hp) (bb : Bool) : Prop := ∃ k b ws k' b' ws', MakAt K H p k b ws ∧ MakAt K H q k' b' ws' ∧ bb = decide (k = k' ∧ b = b' ∧ ws = ws')
def DRow (K : PySem.W.Frag) : EqvB := fun x y H b => BFlat x y H b ∨ BIns (He.ga K "Maker") (RMk K) x y H b ∨ BDat K x y H b
theorem dW_inj {a b : List Dd} (h : dW a = dW b) : a = b := by
  have := eqv_dW a b
  have h2 := eqv_dW b b
  rw [h, h2, decide_eq_true rfl] at this
  exact of_decide_eq_true this.symm
theorem dWs_inj {a b : List (List Dd)} (h : PyData.tuple (a.map dW) = .tuple (b.map dW)) : a = b := by
  have h1 : a.map dW = b.map dW := by injection h
  have := eqv_dWs a b
  rw [h1, eqv_dWs b b, decide_eq_true rfl] at this
  exact of_decide_eq_true this.symm
theorem eqB_row {X : Cx} {n : Nat} (c : EqOf X.prog X.w X.K X.mg X.base n (He.ga X.K "Maker") (spMkEq X.K)) (hnf : PySem.W.notFirst X.K (He.ga X.K "Maker") (.ref (He.ga X.K "Maker")) = true) : EqB X n (DRow X.K) := by
  refine (eqB_flat.mono (Nat.zero_le _)).or ((eqB_ins c hnf (fun p q H b h => ?_) (fun p q H H' b e h => ?_) (fun pins s σ H p b I h => ?_)).or (eqB_dat.mono (Nat.zero_le _)))
  · obtain ⟨k, b, ws, k', b', ws', h1, h2, rfl⟩ := h
    exact ⟨_, _, rfl, p, k, b, ws, rfl, h1, .inl ⟨q, k', b', ws', rfl, h2, fun v H' e d => ⟨dp_toBl d, e⟩⟩⟩
  · obtain ⟨k, b, ws, k', b', ws', h1, h2, r⟩ := h
    exact ⟨k, b, ws, k', b', ws', ex_mak e h1, ex_mak e h2, r⟩
  · obtain ⟨k, b, ws, k', b', ws', ⟨dx, vb, vw, h1, h2, h3⟩, ⟨dx', vb', vw', g1, g2, g3⟩, rfl⟩ := h
    rw [h1] at g1
    have e0 : kF (.int k) vb vw = kF (.int k') vb' vw' := by
      have := Option.some.inj g1
      injection this
    have e1 : V.int k = .int k' := Option.some.inj (by rw [← kF_in (a := .int k) (b := vb) (c := vw), e0, kF_in])
    have e2 : vb = vb' := Option.some.inj (by rw [← kF_be (a := .int k) (b := vb) (c := vw), e0, kF_be])
    have e3 : vw = vw' := Option.some.inj (by rw [← kF_wa (a := .int k) (b := vb) (c := vw), e0, kF_wa])
    subst e2 e3
    cases e1
    exact decide_eq_true ⟨rfl, dW_inj (dp_one I (imm_dW b) (imm_dW b') h2 g2), dWs_inj (dp_one I (imm_dWs ws) (imm_dWs ws') h3 g3)⟩
theorem kEqRw (K : PySem.W.Frag) {X : Cx} {n j : Nat} (c : EqOf X.prog X.w X.K X.mg X.base n (He.ga X.K "Maker") (spMkEq X.K)) (hr : Room j X.A) (hn : n + 2 ≤ j) (hnf : PySem.W.notFirst X.K (He.ga X.K "Maker") (.ref (He.ga X.K "Maker")) = true) (h : X.K = K := by rfl) : OpR X (compareOp .Eq) (rEqB (BTup K (BTup K (DRow K)))) := by
  subst h
  exact op_eqB (eqB_tup (eqB_row c hnf)) (hr.mono hn)
/-- rows of one kind -/
def LikeR : Mu → Mu → Prop
  | .mk .., .mk .. => True
  | .un _, .un _ => True
  | _, _ => False
def Like (rs rs' : List Rw) : Prop := rs.length = rs'.length ∧ ∀ (i : Nat) (r r' : Rw), rs[i]? = some r → rs'[i]? = some r' → LikeR r.mu r'.mu
theorem eqV_strs (a b : Str) : eqV (.str a) (.str b) = decide (a = b) := by
  show (a == b) = _
  by_cases c : a = b <;> simp [c]
theorem eqv_dS (a b : List Str) : PyData.eqv (dS a) (dS b) = decide (a = b) := eqv_strs a b
theorem imm_dS (l : List Str) : imm (dS l) = true := by
  show immAll (l.map .str) = true
  induction l with
  | nil => rfl
  | cons w l ih => exact ih
theorem row_eqB {K : PySem.W.Frag} {H : Hp} {u v : V} {r r' : Rw} (h : RowAt K H u r) (h' : RowAt K H v r') (o : ∀ s ∈ r.src, okW s = true) (o' : ∀ s ∈ r'.src, okW s = true) (l : LikeR r.mu r'.mu) : BTup K (DRow K) u v H (decide (r = r')) := by
  obtain ⟨p, vm, q, rfl, h1, h2, h3⟩ := h
  obtain ⟨p', vm', q', rfl, g1, g2, g3⟩ := h'
  obtain ⟨nm, mu, src⟩ := r
  obtain ⟨nm', mu', src'⟩ := r'
  dsimp only at *
  refine ⟨p, p', _, _, fun i => match i with | 0 => decide (nm = nm') | 1 => decide (mu = mu') | _ => decide (src = src'), rfl, rfl, h1, g1, rfl, fun i a b ha hb => ?_, ?_⟩
  · match i with
    | 0 =>
      cases ha
      cases hb
      exact .inl ⟨rfl, rfl, eqV_strs _ _, fun e => by cases e; exact decide_eq_true rfl⟩
    | 1 =>
      cases ha
      cases hb
      cases mu with
      | mk k b ws => cases mu' with
        | mk k' b' ws' =>
          obtain ⟨x, rfl, m⟩ := h2
          obtain ⟨x', rfl, m'⟩ := g2
          obtain ⟨dx, fs, hx⟩ := mak_mine2 m
          obtain ⟨dx', fs', hx'⟩ := mak_mine2 m'
          exact .inr (.inl ⟨x, x', dx, dx', fs, fs', rfl, rfl, hx, hx', k, b, ws, k', b', ws', m, m', by simp only [Mu.mk.injEq]⟩)
        | un u' => exact l.elim
      | un u => cases mu' with
        | mk k' b' ws' => exact l.elim
        | un u' =>
          cases h2
          cases g2
          exact .inl ⟨rfl, rfl, by rw [eqV_strs]; simp only [Mu.un.injEq], fun e => by cases e; exact decide_eq_true rfl⟩
    | 2 =>
      cases ha
      cases hb
      exact .inr (.inr ⟨dS src, dS src', dp_of_strs h3, dp_of_strs g3, shaped_strs o, shaped_strs o', imm_dS _, imm_dS _, eqv_dS _ _, fun e => by
        have : PyData.eqv (dS src) (dS src') = decide (src = src') := eqv_dS _ _
        rw [e, eqv_dS, decide_eq_true rfl] at this
        exact this.symm⟩)
    | i + 3 => exact nomatch ha
  · show _ = (decide (nm = nm') && (decide (mu = mu') && (decide (src = src') && true)))
    simp only [Rw.mk.injEq, Bool.decide_and, Bool.and_true]
theorem rows_eqB {K : PySem.W.Frag} {H : Hp} {p q : Addr} {xs ys : List V} {rs rs' : List Rw} (sp : SqT K H p xs) (sq : SqT K H q ys) (h : RowsAt K H xs rs) (h' : RowsAt K H ys rs') (o : ∀ r ∈ rs, ∀ s ∈ r.src, okW s = true) (o' : ∀ r ∈ rs', ∀ s ∈ r.src, okW s = true) (l : Like rs rs') : BTup K (BTup K (DRow K)) (.ref p) (.ref q) H (decide (rs = rs')) := by
  have zx := rows_len h
  have zy := rows_len h'
  refine ⟨p, q, xs, ys, fun i => decide (rs[i]? = rs'[i]?), rfl, rfl, sp, sq, by rw [zx, zy, l.1], fun i a b ha hb => ?_, ?_⟩
  · obtain ⟨r, hr, hrow⟩ := rows_get h ha
    obtain ⟨r', hr', hrow'⟩ := rows_get h' hb
    have := row_eqB hrow hrow' (o r (List.mem_of_getElem? hr)) (o' r' (List.mem_of_getElem? hr')) (l.2 i r r' hr hr')
    show BTup K (DRow K) a b H (decide (rs[i]? = rs'[i]?))
    rw [hr, hr']
    simp only [Option.some.injEq]
    exact this
  · rw [Bool.eq_iff_iff]
    simp only [List.all_eq_true, decide_eq_true_eq, List.mem_range]
    constructor
    · rintro rfl i _
      rfl
    · intro hh
      refine List.ext_getElem? fun i => ?_
      by_cases c : i < xs.length
      · exact hh i c
      · rw [List.getElem?_eq_none (by omega), List.getElem?_eq_none (by have := l.1; omega)]
abbrev spWbEq (K : PySem.W.Frag) : Sp := sp2 fun x y H Q _ => ∃ p gs rs, x = .ref p ∧ WebAt K H p gs rs ∧ (∀ g ∈ gs, okW g = true) ∧ (∀ r ∈ rs, ∀ s ∈ r.src, okW s = true) ∧ ((∃ q gs' rs', y = .ref q ∧ WebAt K H q gs' rs' ∧ (∀ g ∈ gs', okW g = true) ∧ (∀ r ∈ rs', ∀ s ∈ r.src, okW s = true) ∧ Like rs rs' ∧ ∀ H', Ex H H' → Q (.bl (decide (gs = gs' ∧ rs = rs'))) H') ∨ (∃ n ∈ ["tuple", "list"], TyX K H y (.type n) ∧ ∀ H', Ex H H' → Q (.bl false) H'))
abbrev N_Web_eq : List Str := ["self", "other"]
theorem sc_Web_eq : FnScope N_Web_eq ["self", "other"] (defScope s_Web_eq) := ⟨rfl, rfl, rfl, by decide +kernel, rfl, by decide +kernel, by decide +kernel⟩
theorem fx_Web_eq {P : Program} {w : World} {K : PySem.W.Frag} {mg : Str → Option Value} {base : Heap} (E : Env P K mg) : ∃ fd, FunD K "__eq__" "Web.__eq__" (defArgs s_Web_eq) (defBody s_Web_eq) (defScope s_Web_eq) (d_Web_eq.dvs K) [] (d_Web_eq.adr K) fd ∧ FnOk P w K mg base CX0 4 (d_Web_eq.adr K) fd ["self", "other"] (spWbEq K) := by
  obtain ⟨fd, F⟩ := E.dd_Web_eq
  refine ⟨fd, F, fnok0 F sc_Web_eq sp2_len (fun cdv A outer s H vs Q X hr h => ?_)⟩
  have nd := sc_Web_eq.nd
  obtain ⟨v0, v1, rfl, h⟩ := h
  refine ⟨_, (pss_one (ps_ret (pe_and (pe_callB (kIsi K) (by rfl) E.f_isinstance (by decide +kernel) (pa_cons (pv 1) (pa_cons (pe_glob (v := .ref (He.ga K "Web")) (by rfl) E.g_Web rfl) pa_nil))) (pe_and (pe_cmpR (kEq K hr) (kFld K (pv 0) rfl) (kFld K (pv 1) rfl) (nomark _)) (pe_one (pe_cmpR (kEqRw K (ok_Maker_eq E) hr (by decide) E.nf_Maker_self) (kFld K (pv 0) rfl) (kFld K (pv 1) rfl) (nomark _))))))), ?_⟩
  change (_ : TS) _ [some v0, some v1] H
  try dsimp only [cxOf, Cx.nox, Cx.blk]
  obtain ⟨p, gs, rs, rfl, ht, og, os, h2⟩ := h
  rcases h2 with ⟨q, gs', rs', rfl, hu, og', os', lk, k⟩ | ⟨n, hn, ty, k⟩
  · walk_at "w"
    refine r_isiC (insB_ok E.ins_Web E.c_Web (web_mine hu).choose_spec.choose_spec) E.kit_Web_self ?_
    walk_at "w"
    refine r_webGi E ht fun a sa => ?_
    walk_at "w"
    refine r_webGi E hu fun a' sa' => ?_
    refine r_eqTS sa sa' og og' ?_
    walk_at "w"
    by_cases c1 : gs = gs'
    · walk_at "w"
      refine r_webRo E ht fun b xs sb hb => ?_
      walk_at "w"
      refine r_webRo E hu fun b' xs' sb' hb' => ?_
      refine ⟨_, rows_eqB sb sb' hb hb' os os' lk, fun H' e => ?_⟩
      rw [show decide (gs = gs' ∧ rs = rs') = decide (rs = rs') by simp [c1]] at k
      walk_at "w"
      exact k _ e
    · walk_at "w"
      rw [show decide (gs = gs' ∧ rs = rs') = false by simp [c1]] at k
      exact k _ (Ex.refl _)
  · walk_at "w"
    refine r_isiC (b := false) ty ?_ ?_
    · simp at hn
      rcases hn with rfl | rfl
      · exact E.kit_Web_tuple
      · exact E.kit_Web_list
    walk_at "w"
    exact k _ (Ex.refl _)
theorem ok_Web_eq {P : Program} {w : World} {K : PySem.W.Frag} {mg : Str → Option Value} {base : Heap} (E : Env P K mg) : EqOf P w K mg base 4 (He.ga K "Web") (spWbEq K) := by
  obtain ⟨fd, F, k⟩ := fx_Web_eq (P := P) (w := w) (base := base) E
  exact ⟨_, fd, _, E.m_Web_eq.at_, E.m_Web_eq.fn, k, F.bindsN (fun _ _ _ _ _ _ us hl => match us, hl with | [_, _], _ => rfl)⟩

end
section
--@import HandS.Text
/-! the lines of a web -/
theorem tl_sp : TL.tl (" " : Str) = [32] := by decide +kernel
theorem tl_sc : TL.tl ("; " : Str) = [59, 32] := by decide +kernel
theorem tl_cl : TL.tl (":" : Str) = [58] := by decide +kernel
theorem joinL_app {s : List Nat} : ∀ {a b : List (List Nat)}, a ≠ [] → b ≠ [] → TL.joinL s (a ++ b) = TL.joinL s a ++ (s ++ TL.joinL s b)
  | [], _, h, _ => absurd rfl h
  | [p], q :: r, _, _ => rfl
  | p :: q :: r, b, _, hb => by
    show p ++ (s ++ TL.joinL s (q :: r ++ b)) = p ++ (s ++ TL.joinL s (q :: r)) ++ (s ++ TL.joinL s b)
    rw [joinL_app (a := q :: r) (List.cons_ne_nil _ _) hb]
    simp only [List.append_assoc]
  | [p], [], _, h => absurd rfl h
theorem mem_joinL {s : List Nat} {c : Nat} : ∀ {ps : List (List Nat)}, c ∈ TL.joinL s ps → c ∈ s ∨ ∃ p ∈ ps, c ∈ p
  | [], h => absurd h List.not_mem_nil
  | [p], h => .inr ⟨p, List.mem_cons_self, h⟩
  | p :: q :: r, h => by
    rcases List.mem_append.mp (show c ∈ p ++ (s ++ TL.joinL s (q :: r)) from h) with h | h
    · exact .inr ⟨p, List.mem_cons_self, h⟩
    · rcases List.mem_append.mp h with h | h
      · exact .inl h
      · exact (mem_joinL h).imp id fun ⟨x, hx, hc⟩ => ⟨x, List.mem_cons_of_mem _ hx, hc⟩
theorem len_joinL (s : List Nat) : ∀ ps : List (List Nat), (TL.joinL s ps).length ≤ (ps.map List.length).sum + ps.length * s.length
  | [] => Nat.zero_le _
  | [p] => by simp [TL.joinL]
  | p :: q :: r => by
    have ih := len_joinL s (q :: r)
    show (p ++ (s ++ TL.joinL s (q :: r))).length ≤ _
    rw [List.length_append, List.length_append, List.map_cons, List.sum_cons, List.length_cons, Nat.succ_mul]
    omega
theorem tl_joinT (a : Str) (ys : List Str) : TL.tl (Txt.join a ys) = TL.joinL (TL.tl a) (ys.map TL.tl) := by rw [TL.join_eq, TL.tl_join]
theorem len_joinT (a : Str) (ys : List Str) : (Txt.join a ys).length ≤ (ys.map (·.length)).sum + ys.length * a.length := by
  rw [TL.len_tl, tl_joinT]
  have := len_joinL (TL.tl a) (ys.map TL.tl)
  rw [List.map_map, List.length_map] at this
  rw [show (ys.map (·.length)) = ys.map (List.length ∘ TL.tl) from List.map_congr_left fun w _ => TL.len_tl w, TL.len_tl a]
  exact this
theorem sapp_len (a b : Str) : (a ++ b).length = a.length + b.length := by rw [TL.len_tl, TL.tl_append, List.length_append, ← TL.len_tl, ← TL.len_tl]
/-- the text of a deed -/
def dSt : Dd → Str
  | none => "give"
  | some i => Str.ofString (toString i)
def dT (w : Str) (ds : List Dd) : Str := Txt.join " " (w :: ds.map dSt)
abbrev stW (nm : Str) (src : List Str) : List Str := ("row" : Str) :: nm :: ("of" : Str) :: src
abbrev unW (nm : Str) (src : List Str) (u : Str) : List Str := ("row" : Str) :: nm :: ("of" : Str) :: (src ++ [("by" : Str), u])
def stR (nm : Str) (src : List Str) : Str := Txt.join " " (stW nm src)
def mkT (b : List Dd) (ws : List (List Dd)) : Str := Txt.join "; " (dT "begin" b :: ws.map (dT "way"))
def linR (r : Rw) : Str := match r.mu with
  | .mk _ b ws => stR r.nm r.src ++ ": " ++ mkT b ws
  | .un u => stR r.nm r.src ++ " by " ++ u
def linG (g : Str) : Str := "given " ++ g
def linW (gs : List Str) (rs : List Rw) : List Str := gs.map linG ++ rs.map linR
theorem okW_free {w : Str} (h : okW w = true) {c : Nat} (hc : c < 97) : c ∉ TL.tl w := fun hm => by
  have h1 := (Bool.and_eq_true_iff.mp (show ((decide (1 ≤ (w.length : Int)) && decide ((w.length : Int) ≤ 8)) && w.cps.toList.all lwr) = true from h)).2
  have := List.all_eq_true.mp h1 c hm
  unfold lwr at this
  simp at this
  omega
theorem okU_free {w : Str} (h : okU w = true) {c : Nat} (hc : c < 97) : c ∉ TL.tl w := fun hm => by
  have h1 := (Bool.and_eq_true_iff.mp (show ((decide (1 ≤ (w.length : Int)) && decide ((w.length : Int) ≤ 2)) && w.cps.toList.all lwr) = true from h)).2
  have := List.all_eq_true.mp h1 c hm
  unfold lwr at this
  simp at this
  omega
theorem dSt_cases {d : Dd} (h : okD 3 d) : d = none ∨ d = some 0 ∨ d = some 1 ∨ d = some 2 := by
  cases d with
  | none => exact .inl rfl
  | some i =>
    obtain ⟨a, b⟩ := h i rfl
    have : i = 0 ∨ i = 1 ∨ i = 2 := by omega
    rcases this with rfl | rfl | rfl
    · exact .inr (.inl rfl)
    · exact .inr (.inr (.inl rfl))
    · exact .inr (.inr (.inr rfl))
theorem tl_d0 : TL.tl (dSt none) = [103, 105, 118, 101] := by decide +kernel
theorem tl_d1 : TL.tl (dSt (some 0)) = [48] := by decide +kernel
theorem tl_d2 : TL.tl (dSt (some 1)) = [49] := by decide +kernel
theorem tl_d3 : TL.tl (dSt (some 2)) = [50] := by decide +kernel
theorem dSt_free {d : Dd} (h : okD 3 d) {c : Nat} (hc : c = 32 ∨ c = 58 ∨ c = 59) : c ∉ TL.tl (dSt d) := by
  rcases dSt_cases h with rfl | rfl | rfl | rfl
  · rw [tl_d0]; rcases hc with rfl | rfl | rfl <;> decide
  · rw [tl_d1]; rcases hc with rfl | rfl | rfl <;> decide
  · rw [tl_d2]; rcases hc with rfl | rfl | rfl <;> decide
  · rw [tl_d3]; rcases hc with rfl | rfl | rfl <;> decide
theorem dSt_len {d : Dd} (h : okD 3 d) : (dSt d).length ≤ 4 := by
  rw [TL.len_tl]
  rcases dSt_cases h with rfl | rfl | rfl | rfl
  · rw [tl_d0]; decide
  · rw [tl_d1]; decide
  · rw [tl_d2]; decide
  · rw [tl_d3]; decide
theorem okD3 {k : Int} (hk : k ≤ 3) {d : Dd} (h : okD k d) : okD 3 d := fun i e => by
  have := h i e
  omega
theorem sum_len4 : ∀ {ds : List Dd}, (∀ d ∈ ds, okD 3 d) → ((ds.map dSt).map (·.length)).sum ≤ 4 * ds.length
  | [], _ => Nat.zero_le _
  | d :: ds, h => by
    have a := dSt_len (h d List.mem_cons_self)
    have b := sum_len4 (ds := ds) fun x hx => h x (List.mem_cons_of_mem _ hx)
    rw [List.map_cons, List.map_cons, List.sum_cons, List.length_cons]
    omega
theorem l_sp : (" " : Str).length = 1 := by decide +kernel
theorem l_sc : ("; " : Str).length = 2 := by decide +kernel
theorem l_way : ("way" : Str).length = 3 := by decide +kernel
theorem l_begin : ("begin" : Str).length = 5 := by decide +kernel
theorem l_row : ("row" : Str).length = 3 := by decide +kernel
theorem l_of : ("of" : Str).length = 2 := by decide +kernel
theorem dT_parts {w : Str} {ds : List Dd} (hw : w.length ≤ 5) (h : ∀ d ∈ ds, okD 3 d) (z : ds.length ≤ 600) : ((w :: ds.map dSt).map (·.length)).sum + (w :: ds.map dSt).length * (" " : Str).length ≤ 3100 := by
  have a := sum_len4 h
  rw [List.map_cons, List.sum_cons, List.length_cons, List.length_map, l_sp]
  omega
theorem dT_len {w : Str} {ds : List Dd} (hw : w.length ≤ 5) (h : ∀ d ∈ ds, okD 3 d) (z : ds.length ≤ 600) : (dT w ds).length ≤ 3100 :=
  Nat.le_trans (len_joinT _ _) (dT_parts hw h z)
theorem split_dT {w : Str} {ds : List Dd} (hw : 32 ∉ TL.tl w) (h : ∀ d ∈ ds, okD 3 d) : Txt.split (dT w ds) " " = w :: ds.map dSt :=
  TL.split_join (s := 32) (S := []) (by decide +kernel) (by decide +kernel) (List.cons_ne_nil _ _) fun p hp => by
    rcases List.mem_cons.mp hp with rfl | hp
    · exact hw
    · obtain ⟨d, hd, rfl⟩ := List.mem_map.mp hp
      exact dSt_free (h d hd) (.inl rfl)
theorem f_row : 32 ∉ TL.tl ("row" : Str) ∧ 58 ∉ TL.tl ("row" : Str) := by decide +kernel
theorem f_of : 32 ∉ TL.tl ("of" : Str) ∧ 58 ∉ TL.tl ("of" : Str) := by decide +kernel
theorem f_by : 32 ∉ TL.tl ("by" : Str) ∧ 58 ∉ TL.tl ("by" : Str) := by decide +kernel
theorem f_way : 32 ∉ TL.tl ("way" : Str) ∧ 59 ∉ TL.tl ("way" : Str) := by decide +kernel
theorem f_begin : 32 ∉ TL.tl ("begin" : Str) ∧ 59 ∉ TL.tl ("begin" : Str) := by decide +kernel
theorem dT_59 {w : Str} {ds : List Dd} (hw : 59 ∉ TL.tl w) (h : ∀ d ∈ ds, okD 3 d) : 59 ∉ TL.tl (dT w ds) := fun hm => by
  unfold dT at hm
  rw [tl_joinT, tl_sp] at hm
  rcases mem_joinL hm with hm | ⟨p, hp, hc⟩
  · simp at hm
  · obtain ⟨q, hq, rfl⟩ := List.mem_map.mp hp
    rcases List.mem_cons.mp hq with rfl | hq
    · exact hw hc
    · obtain ⟨d, hd, rfl⟩ := List.mem_map.mp hq
      exact dSt_free (h d hd) (.inr (.inr rfl)) hc
/-- the deeds of a maker in the lines -/
structure MkT (b : List Dd) (ws : List (List Dd)) : Prop where
  hb : ∀ d ∈ b, okD 3 d
  zb : b.length ≤ 600
  hw : ∀ w ∈ ws, ∀ d ∈ w, okD 3 d
  zw : ∀ w ∈ ws, w.length ≤ 600
  z4 : ws.length ≤ 4
theorem MkOk.t {k : Int} {b : List Dd} {ws : List (List Dd)} (h : MkOk k b ws) : MkT b ws :=
  ⟨fun d hd => okD3 h.k3 (h.ob d hd), h.zb, fun w hw d hd => okD3 h.k3 ((h.ow w hw).2 d hd), h.z6, h.w4⟩
theorem split_mkT {b : List Dd} {ws : List (List Dd)} (h : MkT b ws) : Txt.split (mkT b ws) "; " = dT "begin" b :: ws.map (dT "way") :=
  TL.split_join (s := 59) (S := [32]) (by decide +kernel) (by decide +kernel) (List.cons_ne_nil _ _) fun p hp => by
    rcases List.mem_cons.mp hp with rfl | hp
    · exact dT_59 f_begin.2 h.hb
    · obtain ⟨w, hw, rfl⟩ := List.mem_map.mp hp
      exact dT_59 f_way.2 (h.hw w hw)
theorem sum_ways : ∀ {ws : List (List Dd)}, (∀ w ∈ ws, ∀ d ∈ w, okD 3 d) → (∀ w ∈ ws, w.length ≤ 600) → ((ws.map (dT "way")).map (·.length)).sum ≤ 3100 * ws.length
  | [], _, _ => Nat.zero_le _
  | w :: ws, h, z => by
    have a := dT_len (w := "way") (by rw [l_way]; omega) (h w List.mem_cons_self) (z w List.mem_cons_self)
    have b := sum_ways (ws := ws) (fun x hx => h x (List.mem_cons_of_mem _ hx)) fun x hx => z x (List.mem_cons_of_mem _ hx)
    rw [List.map_cons, List.map_cons, List.sum_cons, List.length_cons]
    omega
theorem mkT_parts {b : List Dd} {ws : List (List Dd)} (h : MkT b ws) : ((dT "begin" b :: ws.map (dT "way")).map (·.length)).sum + (dT "begin" b :: ws.map (dT "way")).length * ("; " : Str).length ≤ 16000 := by
  have a := dT_len (w := "begin") (by rw [l_begin]; omega) h.hb h.zb
  have c := sum_ways h.hw h.zw
  have z := h.z4
  rw [List.map_cons, List.sum_cons, List.length_cons, List.length_map, l_sc]
  omega
theorem mkT_len {b : List Dd} {ws : List (List Dd)} (h : MkT b ws) : (mkT b ws).length ≤ 16000 := Nat.le_trans (len_joinT _ _) (mkT_parts h)
theorem sum_names : ∀ {l : List Str}, (∀ s ∈ l, okW s = true) → (l.map (·.length)).sum ≤ 8 * l.length
  | [], _ => Nat.zero_le _
  | s :: l, h => by
    have a := okW_len (h s List.mem_cons_self)
    have b := sum_names (l := l) fun x hx => h x (List.mem_cons_of_mem _ hx)
    rw [List.map_cons, List.sum_cons, List.length_cons]
    omega
/-- the words of a row's start -/
structure StT (nm : Str) (src : List Str) : Prop where
  hn : okW nm = true
  hs : ∀ s ∈ src, okW s = true
  s1 : 1 ≤ src.length
  s3 : src.length ≤ 3
theorem RwOk.st {r : Rw} (h : RwOk r) : StT r.nm r.src := ⟨h.nm, h.src, by
  have := h.mu
  cases q : r.mu with
  | mk k b ws =>
    rw [q] at this
    obtain ⟨a, e⟩ := this
    have := a.k1
    omega
  | un u =>
    rw [q] at this
    exact this.2.1, h.s3⟩
theorem stR_words {nm : Str} {src : List Str} (h : StT nm src) {c : Nat} (hc : c < 97) (h1 : c ∉ TL.tl ("row" : Str)) (h2 : c ∉ TL.tl ("of" : Str)) : ∀ p ∈ stW nm src, c ∉ TL.tl p := fun p hp => by
  rcases List.mem_cons.mp hp with rfl | hp
  · exact h1
  · rcases List.mem_cons.mp hp with rfl | hp
    · exact okW_free h.hn hc
    · rcases List.mem_cons.mp hp with rfl | hp
      · exact h2
      · exact okW_free (h.hs p hp) hc
theorem split_stR {nm : Str} {src : List Str} (h : StT nm src) : Txt.split (stR nm src) " " = stW nm src :=
  TL.split_join (s := 32) (S := []) (by decide +kernel) (by decide +kernel) (List.cons_ne_nil _ _) (stR_words h (by decide) f_row.1 f_of.1)
theorem stR_58 {nm : Str} {src : List Str} (h : StT nm src) : 58 ∉ TL.tl (stR nm src) := fun hm => by
  unfold stR at hm
  rw [tl_joinT, tl_sp] at hm
  rcases mem_joinL hm with hm | ⟨p, hp, hc⟩
  · simp at hm
  · obtain ⟨q, hq, rfl⟩ := List.mem_map.mp hp
    exact stR_words h (by decide) f_row.2 f_of.2 q hq hc
theorem stR_parts {nm : Str} {src : List Str} (h : StT nm src) : ((stW nm src).map (·.length)).sum + (stW nm src).length * (" " : Str).length ≤ 100 := by
  have a := sum_names h.hs
  have b := okW_len h.hn
  have c := h.s3
  simp only [List.map_cons, List.sum_cons, List.length_cons, l_row, l_of, l_sp]
  omega
theorem stR_len {nm : Str} {src : List Str} (h : StT nm src) : (stR nm src).length ≤ 100 := Nat.le_trans (len_joinT _ _) (stR_parts h)
theorem tl_row : TL.tl ("row " : Str) = TL.tl ("row" : Str) ++ [32] := by decide +kernel
theorem tl_of : TL.tl (" of " : Str) = 32 :: (TL.tl ("of" : Str) ++ [32]) := by decide +kernel
theorem tl_by : TL.tl (" by " : Str) = 32 :: (TL.tl ("by" : Str) ++ [32]) := by decide +kernel
/-- the law's way to write the start -/
theorem stR_law {nm : Str} {src : List Str} (h : src ≠ []) : ("row " : Str) ++ nm ++ " of " ++ Txt.join " " src = stR nm src := by
  refine TL.ext_tl ?_
  unfold stR
  rw [TL.tl_append, TL.tl_append, TL.tl_append, tl_joinT, tl_joinT, tl_sp, tl_row, tl_of]
  show _ = TL.joinL [32] (([TL.tl ("row" : Str), TL.tl nm, TL.tl ("of" : Str)] : List (List Nat)) ++ src.map TL.tl)
  rw [joinL_app (List.cons_ne_nil _ _) (fun e => h (List.map_eq_nil_iff.mp e))]
  show _ = (TL.tl ("row" : Str) ++ ([32] ++ (TL.tl nm ++ ([32] ++ TL.tl ("of" : Str))))) ++ ([32] ++ TL.joinL [32] (src.map TL.tl))
  simp only [List.append_assoc, List.cons_append, List.nil_append]
theorem linU_join {nm : Str} {src : List Str} {u : Str} : stR nm src ++ " by " ++ u = Txt.join " " (unW nm src u) := by
  refine TL.ext_tl ?_
  unfold stR
  rw [TL.tl_append, TL.tl_append, tl_joinT, tl_joinT, tl_sp, tl_by]
  show _ = TL.joinL [32] ((unW nm src u).map TL.tl)
  rw [show (unW nm src u).map TL.tl = (stW nm src).map TL.tl ++ [TL.tl ("by" : Str), TL.tl u] by simp]
  rw [joinL_app (by simp) (List.cons_ne_nil _ _)]
  show _ = _ ++ ([32] ++ (TL.tl ("by" : Str) ++ ([32] ++ TL.tl u)))
  simp only [List.append_assoc, List.cons_append, List.nil_append]
theorem linU_words {nm : Str} {src : List Str} {u : Str} (h : StT nm src) (hu : okU u = true) {c : Nat} (hc : c < 97) (h1 : c ∉ TL.tl ("row" : Str)) (h2 : c ∉ TL.tl ("of" : Str)) (h3 : c ∉ TL.tl ("by" : Str)) : ∀ p ∈ unW nm src u, c ∉ TL.tl p := fun p hp => by
  have hp2 : p ∈ stW nm src ++ [("by" : Str), u] := hp
  rcases List.mem_append.mp hp2 with hp | hp
  · exact stR_words h hc h1 h2 p hp
  · rcases List.mem_cons.mp hp with rfl | hp
    · exact h3
    · rw [List.mem_singleton.mp hp]
      exact okU_free hu hc
theorem split_linU {nm : Str} {src : List Str} {u : Str} (h : StT nm src) (hu : okU u = true) : Txt.split (stR nm src ++ " by " ++ u) " " = unW nm src u := by
  rw [linU_join]
  exact TL.split_join (s := 32) (S := []) (by decide +kernel) (by decide +kernel) (List.cons_ne_nil _ _) (linU_words h hu (by decide) f_row.1 f_of.1 f_by.1)
theorem part_linU {nm : Str} {src : List Str} {u : Str} (h : StT nm src) (hu : okU u = true) : Txt.partition (stR nm src ++ " by " ++ u) ":" = (stR nm src ++ " by " ++ u, Str.empty, Str.empty) :=
  TL.partition_none (s := 58) (S := []) tl_cl fun hm => by
    rw [linU_join, tl_joinT, tl_sp] at hm
    rcases mem_joinL hm with hm | ⟨p, hp, hc⟩
    · simp at hm
    · obtain ⟨q, hq, rfl⟩ := List.mem_map.mp hp
      exact linU_words h hu (by decide) f_row.2 f_of.2 f_by.2 q hq hc
theorem tl_cs : TL.tl (": " : Str) = TL.tl (":" : Str) ++ TL.tl (" " : Str) := by decide +kernel
theorem part_linM {nm : Str} {src : List Str} {t : Str} (h : StT nm src) : Txt.partition (stR nm src ++ ": " ++ t) ":" = (stR nm src, (":" : Str), (" " : Str) ++ t) := by
  rw [show stR nm src ++ ": " ++ t = stR nm src ++ ":" ++ ((" " : Str) ++ t) from TL.ext_tl (by
    simp only [TL.tl_append, tl_cs, List.append_assoc])]
  exact TL.partition_app (s := 58) (S := []) tl_cl (stR_58 h)
theorem sp_take {t : Str} : (⟨(((" " : Str) ++ t).cps.toList.take 1).toArray⟩ : Str) = " " := by
  refine TL.ext_tl ?_
  show ((TL.tl ((" " : Str) ++ t)).take 1) = _
  rw [TL.tl_append, tl_sp]
  rfl
theorem sp_drop {t : Str} : (⟨(((" " : Str) ++ t).cps.toList.drop 1).toArray⟩ : Str) = t := by
  refine TL.ext_tl ?_
  show ((TL.tl ((" " : Str) ++ t)).drop 1) = _
  rw [TL.tl_append, tl_sp]
  rfl
theorem tl_given : TL.tl ("given " : Str) = [103, 105, 118, 101, 110, 32] := by decide +kernel
theorem gi_take {t : Str} : (⟨((linG t).cps.toList.take 6).toArray⟩ : Str) = "given " := by
  refine TL.ext_tl ?_
  show ((TL.tl (linG t)).take 6) = _
  unfold linG
  rw [TL.tl_append, tl_given]
  rfl
theorem gi_drop {t : Str} : (⟨((linG t).cps.toList.drop 6).toArray⟩ : Str) = t := by
  refine TL.ext_tl ?_
  show ((TL.tl (linG t)).drop 6) = _
  unfold linG
  rw [TL.tl_append, tl_given]
  rfl
theorem tl_rw : TL.tl ("row" : Str) = [114, 111, 119] := by decide +kernel
theorem linR_head (r : Rw) : ∃ t, TL.tl (linR r) = 114 :: t := by
  have hs : ∃ t, TL.tl (stR r.nm r.src) = 114 :: t := by
    refine ⟨[111, 119] ++ ([32] ++ TL.joinL [32] ((r.nm :: ("of" : Str) :: r.src).map TL.tl)), ?_⟩
    unfold stR
    rw [tl_joinT, tl_sp]
    show TL.tl ("row" : Str) ++ ([32] ++ TL.joinL [32] ((r.nm :: ("of" : Str) :: r.src).map TL.tl)) = _
    rw [tl_rw]
    rfl
  obtain ⟨t, ht⟩ := hs
  unfold linR
  split
  · rw [TL.tl_append, TL.tl_append, ht]
    exact ⟨_, rfl⟩
  · rw [TL.tl_append, TL.tl_append, ht]
    exact ⟨_, rfl⟩
theorem ro_take (r : Rw) : ¬ (⟨((linR r).cps.toList.take 6).toArray⟩ : Str) = "given " := fun h => by
  have h2 := congrArg TL.tl h
  obtain ⟨t, ht⟩ := linR_head r
  have h3 : (TL.tl (linR r)).take 6 = TL.tl ("given " : Str) := h2
  rw [ht, tl_given, List.take_succ_cons] at h3
  injection h3 with a _
  exact absurd a (by decide)
theorem linR_len {r : Rw} (h : RwOk r) : (linR r).length ≤ 17000 := by
  have a := stR_len h.st
  have hm := h.mu
  unfold linR
  cases q : r.mu with
  | mk k b ws =>
    rw [q] at hm
    have c := mkT_len hm.1.t
    show (stR r.nm r.src ++ ": " ++ mkT b ws).length ≤ _
    rw [sapp_len, sapp_len, show (": " : Str).length = 2 by decide +kernel]
    omega
  | un u =>
    rw [q] at hm
    have c := okU_len hm.1
    show (stR r.nm r.src ++ " by " ++ u).length ≤ _
    rw [sapp_len, sapp_len, show (" by " : Str).length = 4 by decide +kernel]
    omega
theorem linG_len {g : Str} (h : okW g = true) : (linG g).length ≤ 20 := by
  have := okW_len h
  unfold linG
  rw [sapp_len, show ("given " : Str).length = 6 by decide +kernel]
  omega

end
section
theorem gvS {l : List Str} {i : Nat} {w : Str} (h : l[i]? = some w) : (vS l)[i]? = some (.str w) := by
  unfold vS
  rw [List.getElem?_map, h]
  rfl
theorem len_vS (l : List Str) : (vS l).length = l.length := List.length_map ..
theorem erase_perm : ∀ {l : List Str} {k : Nat} {y : Str}, l[k]? = some y → (y :: l.eraseIdx k).Perm l
  | [], _, _, h => by simp at h
  | x :: l, 0, y, h => by
    simp at h
    subst h
    exact List.Perm.refl _
  | x :: l, k + 1, y, h => by
    have ih := erase_perm (l := l) (k := k) (y := y) (by simpa using h)
    exact (List.Perm.swap x y _).trans (ih.cons x)
theorem erase_map {α β : Type} (f : α → β) : ∀ (l : List α) (k : Nat), (l.map f).eraseIdx k = (l.eraseIdx k).map f
  | [], _ => by simp
  | x :: l, 0 => rfl
  | x :: l, k + 1 => congrArg (f x :: ·) (erase_map f l k)
theorem r_popAt {K : PySem.W.Frag} {H : Hp} {Q : VK} {p : Addr} {l : List Str} {i : Int} (h : H p = some (.lst (vS l))) (h0 : 0 ≤ i) (h1 : i < l.length) (hz : l.length ≤ 1000) (q : ∀ y, l[i.toNat]? = some y → Q (.str y) (upd H p (.lst (vS (l.eraseIdx i.toNat))))) : rPopAt (.ref p) [.int i] H Q := by
  have hl : i.toNat < l.length := by omega
  have zl : (vS l).length = l.length := List.length_map ..
  refine ⟨p, vS l, i, i.toNat, .str (l[i.toNat]), rfl, rfl, h, Int.le_trans (by decide) h0, Int.lt_of_lt_of_le (b := 1000) (by omega) (by decide), ?_, ?_, ?_⟩
  · unfold seqIndex?
    simp only [if_neg (show ¬ i < 0 by omega), zl, decide_eq_true h0, decide_eq_true h1, Bool.and_self, if_true]
  · unfold vS
    rw [List.getElem?_map, List.getElem?_eq_getElem hl]
    rfl
  · have := q _ (List.getElem?_eq_getElem hl)
    unfold vS at this ⊢
    rwa [erase_map]
def menuW : List Str := ["g", "h", "x", "y", "z", "w", "ab", "ba", "row", "given", "by", "of"]
theorem menu_nd : menuW.Nodup := by decide +kernel
theorem menu_ok : menuW.all okW = true := by decide +kernel
theorem menu_zzz : ("zzz" : Str) ∉ menuW := by decide +kernel
/-- names off the menu -/
structure Nms (ns : List Str) : Prop where
  nd : ns.Nodup
  mem : ∀ w ∈ ns, w ∈ menuW
theorem Nms.ok {ns : List Str} (h : Nms ns) {w : Str} (hw : w ∈ ns) : okW w = true := List.all_eq_true.mp menu_ok w (h.mem w hw)
def mkOf : Mu → Prop
  | .mk k b ws => b.length ≤ 599
  | .un _ => True
def isMk : Mu → Prop
  | .mk .. => True
  | .un _ => False
/-- the law's webs -/
structure LwOk (gs : List Str) (rs : List Rw) : Prop where
  wb : WbOk gs rs
  nm : Nms (gs ++ rs.map Rw.nm)
  b5 : ∀ r ∈ rs, mkOf r.mu
theorem imm_dMu (m : Mu) : imm (dMu m) = true := by
  cases m with
  | mk k b ws => exact imm_dMk k b ws
  | un u => rfl
theorem imm_dRw (r : Rw) : imm (dRw r) = true := by
  show (true && (imm (dMu r.mu) && (imm (dS r.src) && true))) = true
  rw [imm_dMu, imm_dS]
  rfl
theorem imm_dRs (rs : List Rw) : immAll (rs.map dRw) = true := by
  induction rs with
  | nil => rfl
  | cons r rs ih =>
    show (imm (dRw r) && immAll (rs.map dRw)) = true
    rw [ih, imm_dRw]
    rfl
theorem imm_dWb (gs : List Str) (rs : List Rw) : imm (dWb gs rs) = true := by
  show (imm (dS gs) && (immAll (rs.map dRw) && true)) = true
  rw [imm_dS, imm_dRs]
  rfl
theorem dp_row {K : PySem.W.Frag} {H : Hp} {v : V} {r : Rw} (h : Dp K H v (dRw r)) : ∃ a vm q, v = .ref a ∧ SqT K H a [.str r.nm, vm, .ref q] ∧ Dp K H vm (dMu r.mu) ∧ SqT K H q (vS r.src) := by
  obtain ⟨a, x, y, z, rfl, s, h1, h2, h3⟩ := dp_t3 h
  obtain ⟨q, rfl, sq⟩ := dp_toS h3
  cases h1
  exact ⟨a, y, q, rfl, s, h2, sq⟩
theorem dp_of_row {K : PySem.W.Frag} {H : Hp} {a q : Addr} {vm : V} {r : Rw} (s : SqT K H a [.str r.nm, vm, .ref q]) (h : Dp K H vm (dMu r.mu)) (sq : SqT K H q (vS r.src)) : Dp K H (.ref a) (dRw r) :=
  .tup s (.cons (.str _) (.cons h (.cons (dp_of_strs sq) .nil)))
theorem dp_tupl {K : PySem.W.Frag} {H : Hp} {v : V} {ds : List PyData} (h : Dp K H v (.tuple ds)) : ∃ p xs, v = .ref p ∧ SqT K H p xs ∧ DpAll K H xs ds := by
  cases h with
  | tup s h => exact ⟨_, _, rfl, s, h⟩
theorem dp_web {K : PySem.W.Frag} {H : Hp} {v : V} {gs : List Str} {rs : List Rw} (h : Dp K H v (dWb gs rs)) : ∃ a pg pr xs, v = .ref a ∧ SqT K H a [.ref pg, .ref pr] ∧ SqT K H pg (vS gs) ∧ SqT K H pr xs ∧ DpAll K H xs (rs.map dRw) := by
  obtain ⟨a, x, y, rfl, s, h1, h2⟩ := dp_t2 h
  obtain ⟨pg, rfl, sg⟩ := dp_toS h1
  obtain ⟨pr, xs, rfl, sr, hx⟩ := dp_tupl h2
  exact ⟨a, pg, pr, xs, rfl, s, sg, sr, hx⟩
theorem dpRs_get {K : PySem.W.Frag} {H : Hp} {vs : List V} {rs : List Rw} {i : Nat} {x : V} (h : DpAll K H vs (rs.map dRw)) (e : vs[i]? = some x) : ∃ r, rs[i]? = some r ∧ Dp K H x (dRw r) := by
  obtain ⟨d, h1, h2⟩ := dpAll_get h e
  rw [List.getElem?_map] at h1
  cases q : rs[i]? with
  | none => rw [q] at h1; cases h1
  | some r => rw [q] at h1; cases h1; exact ⟨r, rfl, h2⟩
theorem strs_of {ns : List Str} : ∀ {zs : List V}, (∀ y ∈ zs, ∃ w ∈ ns, y = .str w) → ∃ src : List Str, zs = vS src ∧ ∀ s ∈ src, s ∈ ns
  | [], _ => ⟨[], rfl, fun s h => absurd h List.not_mem_nil⟩
  | z :: zs, h => by
    obtain ⟨w, hw, rfl⟩ := h z List.mem_cons_self
    obtain ⟨src, rfl, hs⟩ := strs_of (zs := zs) fun y hy => h y (List.mem_cons_of_mem _ hy)
    exact ⟨w :: src, rfl, fun s hs' => (List.mem_cons.mp hs').elim (fun e => e ▸ hw) (hs s)⟩
theorem dpAll_snocR {K : PySem.W.Frag} {H : Hp} {ys : List V} {rs : List Rw} {v : V} {r : Rw} (h : DpAll K H ys (rs.map dRw)) (d : Dp K H v (dRw r)) : DpAll K H (ys ++ [v]) ((rs ++ [r]).map dRw) := by
  rw [List.map_append]
  exact dpAll_app h (.cons d .nil)
/-- what a drawn row keeps -/
structure LrOk (ns : List Str) (r : Rw) : Prop where
  ok : RwOk r
  ism : isMk r.mu
  b5 : mkOf r.mu
  mem : ∀ s ∈ r.src, s ∈ ns
abbrev spLWeb (K : PySem.W.Frag) : Sp := sp5 fun s a b c d H Q _ => ∃ (x : Addr), s = .ref x ∧ a = .int 3 ∧ b = .int 6 ∧ c = .int 4 ∧ d = .bl true ∧ SrcAt H x ∧ ∀ v gs rs H', Fr x H H' → SrcAt H' x → Dp K H' v (dWb gs rs) → LwOk gs rs → (∀ r ∈ rs, isMk r.mu) → Q v H'
abbrev N__law_web : List Str := ["source", "most_givens", "most_rows", "most_ways", "stops", "menu", "names", "many", "rows", "k", "told", "name", "inlets", "sources"]
theorem sc__law_web : FnScope N__law_web ["source", "most_givens", "most_rows", "most_ways", "stops"] (defScope s__law_web) := ⟨rfl, rfl, rfl, by decide +kernel, rfl, by decide +kernel, by decide +kernel⟩
theorem ok__law_web {P : Program} {w : World} {K : PySem.W.Frag} {mg : Str → Option Value} {base : Heap} (E : Env P K mg) : Fn P w K mg base CX0 4 "_law_web" (spLWeb K) := by
  obtain ⟨fd, F⟩ := E.dd__law_web
  refine Fn.mk0 F E.g__law_web sc__law_web sp5_len (fun _ _ _ _ _ _ us hl => match us, hl with | [_, _, _, _, _], _ => rfl) (fun cdv A outer s H vs Q X hr h => ?_)
  have nd := sc__law_web.nd
  obtain ⟨v0, v1, v2, v3, v4, rfl, h⟩ := h
  refine ⟨_, (pss_cons (ps_set (i := 5) nd rfl (.inl rfl) (pe_lst (pa_cons (pe_str) (pa_cons (pe_str) (pa_cons (pe_str) (pa_cons (pe_str) (pa_cons (pe_str) (pa_cons (pe_str) (pa_cons (pe_str) (pa_cons (pe_str) (pa_cons (pe_str) (pa_cons (pe_str) (pa_cons (pe_str) (pa_cons (pe_str) pa_nil))))))))))))))
  (pss_cons (ps_set (i := 6) nd rfl (.inr rfl) (pe_lst (pa_nil)))
  (pss_cons (ps_set (i := 7) nd rfl (.inl rfl) (pc (ok__law_pick E) hr (by decide) pass0 rfl (pa_cons (pv 0) (pa_cons (pe_op (kAdd K) (pv 1) (pe_int)) pa_nil))))
  (pss_cons (ps_set (i := 8) nd rfl (.inl rfl) (pe_op (kAdd K) (pe_int) (pc (ok__law_pick E) hr (by decide) pass0 rfl (pa_cons (pv 0) (pa_cons (pv 2) pa_nil)))))
  (pss_cut (ps_for PassesOwn.never rfl (pi_range1 (by rfl) E.f_range (pa_cons (pe_op (kAdd K) (pv 7) (pv 8)) pa_nil)) (pg_name (i := 9) nd rfl (.inl rfl))
   (pss_one (ps_expr (kBM K (pe_bm PySem.F.plainAttrs_list PySem.F.slot_list_append PySem.F.type_list_append mt_append (pv 6) (pa_cons (kBM K (pe_bm PySem.F.plainAttrs_list PySem.F.slot_list_pop PySem.F.type_list_pop mt_popAt (pv 5) (pa_cons (pc (ok__law_pick E) hr (by decide) pass0 rfl (pa_cons (pv 0) (pa_cons (pe_callB (kLen K) (by rfl) E.f_len (by decide +kernel) (pa_cons (pv 5) pa_nil)) pa_nil))) pa_nil))) pa_nil))))))
  (pss_cons (ps_set (i := 10) nd rfl (.inl rfl) (pe_lst (pa_nil)))
  (pss_cons (ps_for PassesOwn.never rfl (kSeq K (pe_slice (kSl K) (pv 6) (po_some (pv 7)) po_none)) (pg_name (i := 11) nd rfl (.inl rfl))
   (pss_cons (ps_set (i := 12) nd rfl (.inl rfl) (pe_ix (kIx K) (pe_lst (pa_cons (pe_int) (pa_cons (pe_int) (pa_cons (pe_int) (pa_cons (pe_int) (pa_cons (pe_int) (pa_cons (pe_int) (pa_cons (pe_int) (pa_cons (pe_int) pa_nil))))))))) (pc (ok__law_pick E) hr (by decide) pass0 rfl (pa_cons (pv 0) (pa_cons (pe_int) pa_nil))) (fun _ _ => rfl)))
  (pss_cons (ps_setLc (i := 13) (own := [("k", 9)]) (g := gName 9) (tt := tYes) rfl nd rfl rfl (sw_true rfl rfl rfl (by decide +kernel)) (pi_range1 (by rfl) E.f_range (pa_cons (pv 12) pa_nil)) (blkOk_by (N := N__law_web) (sc := defScope s__law_web) (by decide +kernel)) (fun _ _ _ _ _ => pg_name (i := 9) nd rfl (Or.inl rfl)) (fun _ _ _ _ _ => pts_nil) (fun _ _ _ _ _ => pe_ix (kIx K) (pv 6) (pc (ok__law_pick E) hr (by decide) pass0 rfl (pa_cons (pv 0) (pa_cons (pe_callB (kLen K) (by rfl) E.f_len (by decide +kernel) (pa_cons (pv 6) pa_nil)) pa_nil))) (fun _ _ => rfl)))
  (pss_one (ps_expr (kBM K (pe_bm PySem.F.plainAttrs_list PySem.F.slot_list_append PySem.F.type_list_append mt_append (pv 10) (pa_cons (pe_tup (pa_cons (pv 11) (pa_cons (pc (ok__law_maker E) hr (by decide) pass0 rfl (pa_cons (pv 0) (pa_cons (pv 12) (pa_cons (pv 3) (pa_cons (pv 4) pa_nil))))) (pa_cons (pe_callTy (kTup K) (by rfl) E.f_tuple (by decide +kernel) (pa_cons (pv 13) pa_nil)) pa_nil)))) pa_nil))))))))
  (pss_one (ps_ret (pe_tup (pa_cons (pe_callTy (kTup K) (by rfl) E.f_tuple (by decide +kernel) (pa_cons (pe_slice (kSl K) (pv 6) po_none (po_some (pv 7))) pa_nil)) (pa_cons (pe_callTy (kTup K) (by rfl) E.f_tuple (by decide +kernel) (pa_cons (pv 10) pa_nil)) pa_nil)))))))))))), ?_⟩
  change (_ : TS) _ [some v0, some v1, some v2, some v3, some v4, none, none, none, none, none, none, none, none, none] H
  try dsimp only [cxOf, Cx.nox, Cx.blk]
  obtain ⟨x, rfl, rfl, rfl, rfl, rfl, hsrc, k⟩ := h
  walk_at "w"
  intro pm H1 n1 e1 g1
  have hpm : pm ≠ x := hsrc.ne n1
  walk_at "w"
  intro pn H2 n2 e2 g2
  have q2 := (hsrc.ex e1).ex e2
  have hpn : pn ≠ x := (hsrc.ex e1).ne n2
  have hmn : pm ≠ pn := ne_of_none g1 n2
  have n2' : H pn = none := by
    cases q : H pn with
    | none => rfl
    | some o => rw [e1 _ _ q] at n2; cases n2
  walk_at "w"
  refine ⟨x, 3 + 1, rfl, rfl, by decide, by decide, q2, fun r1 H3 r10 r11 q3 f3 => ?_⟩
  walk_at "w"
  refine ⟨x, 6, rfl, rfl, by decide, by decide, q3, fun r2 H4 r20 r21 q4 f4 => ?_⟩
  walk_at "w"
  have F4 : Fr x H H4 := ((Fr.of (e1.trans e2)).trans f3).trans f4
  have gm4 : H4 pm = some (.lst (vS menuW)) := f4 _ _ hpm (f3 _ _ hpm (e2 _ _ g1))
  have gn4 := f4 _ _ hpn (f3 _ _ hpn g2)
  trace_state
  refine w_cut (M := fun σ' H' => ∃ (ns : List Str) (u : Option V), σ' = [some (.ref x), some (.int 3), some (.int 6), some (.int 4), some (.bl true), some (.ref pm), some (.ref pn), some (.int r1), some (.int (1 + r2)), u, none, none, none, none] ∧ Fr x H H' ∧ SrcAt H' x ∧ H' pn = some (.lst (vS ns)) ∧ (ns.length : Int) = r1 + (1 + r2) ∧ Nms ns) ?_ ?_
  · walk_at "w"
    refine for_range (lo := 0) (Pv := fun i σ' H' => ∃ (ns l : List Str) (u : Option V), σ' = [some (.ref x), some (.int 3), some (.int 6), some (.int 4), some (.bl true), some (.ref pm), some (.ref pn), some (.int r1), some (.int (1 + r2)), u, none, none, none, none] ∧ Fr x H H' ∧ SrcAt H' x ∧ H' pn = some (.lst (vS ns)) ∧ H' pm = some (.lst (vS l)) ∧ ns.length = i ∧ (ns ++ l).Perm menuW)
      ⟨[], menuW, _, rfl, F4, q4, gn4, gm4, rfl, List.Perm.refl _⟩ ?_ ?_
    · rintro i σ' A hi ⟨ns, l, u, rfl, fA, qA, gn, gm, hl, hp⟩
      have hlen := hp.length_eq
      rw [List.length_append, show menuW.length = 12 from rfl] at hlen
      have zl : (vS l).length = l.length := List.length_map ..
      have slm : SqL K A pm (vS l) := sq_of gm
      walk_at "w"
      rw [zl]
      refine ⟨x, (l.length : Nat), rfl, rfl, by omega, by omega, qA, fun r3 A1 r30 r31 q1 f1 => ?_⟩
      have gm1 := f1 _ _ hpm gm
      have gn1 := f1 _ _ hpn gn
      walk_at "w"
      refine r_popAt (K := K) gm1 r30 r31 (by omega) fun y hy => ?_
      have gn2 : upd A1 pm (.lst (vS (l.eraseIdx r3.toNat))) pn = some (.lst (vS ns)) := by rw [upd_ne hmn.symm]; exact gn1
      have sln : SqL K (upd A1 pm (.lst (vS (l.eraseIdx r3.toNat)))) pn (vS ns) := sq_of gn2
      walk_at "w"
      refine r_app (K := K) gn2 (sz_lt (by unfold vS; rw [List.length_map]; omega)) ?_
      walk_at "w"
      refine ⟨ns ++ [y], l.eraseIdx r3.toNat, _, rfl, fr_updN ((Fr.refl _ _)) n2' (fr_updN (Fr.refl _ _) n1 (fA.trans f1)), src_fr hpn.symm Fr.upd (src_fr hpm.symm Fr.upd q1), ?_, ?_, ?_, ?_⟩
      · rw [upd_same]
        show _ = some (HO.lst (List.map V.str _))
        rw [List.map_append]
        rfl
      · rw [upd_ne hmn]
        exact upd_same
      · rw [List.length_append, hl]; rfl
      · rw [List.append_assoc]
        exact ((erase_perm hy).append_left ns).trans hp
    · rintro σ' A ⟨ns, l, u, rfl, fA, qA, gn, gm, hl, hp⟩
      refine ⟨ns, u, rfl, fA, qA, gn, by omega, ?_, fun w hw => hp.subset (List.mem_append_left _ hw)⟩
      exact (List.nodup_append.mp (hp.nodup_iff.mpr menu_nd)).1
  rintro σ' H5 ⟨ns, u, rfl, F5, q5, gn5, hns, nms⟩
  have zl : ns.length ≤ 9 := by omega
  have hpn5 := gn5
  walk_at "w"
  intro pt H6 n6 e6 g6
  have gn6 := e6 _ _ gn5
  have hpt : pt ≠ x := q5.ne n6
  have npt : H pt = none ∨ True := .inr trivial
  walk_at "w"
  refine i_seqL ?_
  walk_at "w"
  refine r_slL (sq_of gn6) fun p7 H7 n7 e7 g7 => ?_
  rw [show cutV (vS ns) (some r1) none = vS (ns.drop r1.toNat) from cutV_from r10 V.str] at g7
  have sl7 : SqL K H7 p7 (vS (ns.drop r1.toNat)) := sq_of g7
  have hp7 : p7 ≠ x := (q5.ex e6).ne n7
  have hp7t : p7 ≠ pt := (ne_of_none g6 n7).symm
  have gt7 := e7 _ _ g6
  have gn7 := e7 _ _ gn6
  have q7 := (q5.ex e6).ex e7
  have hptn : pt ≠ pn := (ne_of_none gn5 n6).symm
  have zd : (ns.drop r1.toNat).length ≤ 6 := by rw [List.length_drop]; omega
  walk_at "w"
  have F7 : Fr x H H7 := F5.trans (Fr.of (e6.trans e7))
  have n6' : H5 pt = none := n6
  refine for_list (xs := vS (ns.drop r1.toNat)) (Pv := fun i σ' H' => ∃ (ys : List V) (rs : List Rw) (u v w s : Option V), σ' = [some (.ref x), some (.int 3), some (.int 6), some (.int 4), some (.bl true), some (.ref pm), some (.ref pn), some (.int r1), some (.int (1 + r2)), u, some (.ref pt), v, w, s] ∧ Fr x H5 H' ∧ SrcAt H' x ∧ H' p7 = some (.lst (vS (ns.drop r1.toNat))) ∧ H' pt = some (.lst ys) ∧ DpAll K H' ys (rs.map dRw) ∧ rs.map Rw.nm = (ns.drop r1.toNat).take i ∧ ∀ r ∈ rs, LrOk ns r)
    ⟨[], [], _, _, _, _, rfl, Fr.of (e6.trans e7), q7, g7, gt7, .nil, rfl, fun r h => absurd h List.not_mem_nil⟩ (fun i σ' H' _ h => by
      obtain ⟨_, _, _, _, _, _, _, _, _, g, _⟩ := h
      exact sq_of g) ?_ ?_
  · rintro i y σ' A hi ⟨ys, rs, u, v, w, s, rfl, fA, qA, gp, gt, hy, hnm, hok⟩
    obtain ⟨name, hname, rfl⟩ := getElem?_vS hi
    have hi6 := (List.getElem?_eq_some_iff.mp hname).1
    have hlen : rs.length = i := by
      have := congrArg List.length hnm
      rw [List.length_map, List.length_take] at this
      omega
    have hyl : ys.length = i := by rw [dpAll_len hy, List.length_map, hlen]
    walk_at "w"
    intro p8 A8 n8 e8 g8
    have q8 := qA.ex e8
    walk_at "w"
    refine ⟨x, 8, rfl, rfl, by decide, by decide, q8, fun r3 A9 r30 r31 q9 f9 => ?_⟩
    have g9 : A9 p8 = some (.lst (vI [1, 2, 1, 2, 3, 1, 2, 1])) := f9 _ _ (qA.ne n8) g8
    have b9 := gI_lit (ns := [1, 2, 1, 2, 3, 1, 2, 1]) (lo := 1) (hi := 3) (by decide) r30 r31
    have f89 : Fr x A A9 := (Fr.of e8).trans f9
    walk_at "w"
    generalize gI [1, 2, 1, 2, 3, 1, 2, 1] r3 = m at *
    obtain ⟨m, rfl⟩ := Int.eq_ofNat_of_zero_le (show 0 ≤ m by omega)
    have gnA : A9 pn = some (.lst (vS ns)) := f89 _ _ hpn (fA _ _ hpn gn5)
    walk_at "w"
    refine lcS_range (K := K) (P := fun v => ∃ w ∈ ns, v = .str w) (by omega) q9 (fun x => [_, _, _, _, _, _, _, _, _, some x, _, _, _, _]) (fun x => rfl) (fun x => rfl) (fun j B Q' fB qB hj hq => ?_) (fun pS B zs nS fB qB gS hl hp => ?_)
    · have gnB := fB _ _ hpn gnA
      have slB : SqL K B pn (vS ns) := sq_of gnB
      walk_at "w"
      rw [len_vS]
      refine ⟨x, (ns.length : Nat), rfl, rfl, by omega, by omega, qB, fun r4 B2 r40 r41 q42 f42 => ?_⟩
      have hl4 : r4.toNat < ns.length := by omega
      refine r_ixL (sq_of (f42 _ _ hpn gnB)) (atI_pos r40 (gvS (List.getElem?_eq_getElem hl4))) ?_
      exact hq _ _ ⟨_, List.getElem_mem hl4, rfl⟩ f42 q42
    obtain ⟨src, rfl, hsrc'⟩ := strs_of hp
    rw [len_vS] at hl
    have hpS : pS ≠ x := q9.ne nS
    have gtB : B pt = some (.lst ys) := (f89.trans fB) _ _ hpt gt
    have sltB : SqL K B pt ys := sq_of gtB
    walk_at "w"
    refine ⟨x, (m : Nat), rfl, rfl, rfl, rfl, by omega, by omega, qB, fun vm bs ws B2 f2 q2 dm okm b5 => ?_⟩
    have gS2 := f2 _ _ hpS gS
    walk_at "w"
    intro tS B3 e3 sS
    walk_at "w"
    intro tR B4 n4 e4 gR
    have f24 : Fr x A B4 := (((f89.trans fB).trans f2).trans (Fr.of e3)).trans (Fr.of e4)
    have gt4 := f24 _ _ hpt gt
    have q4' := (q2.ex e3).ex e4
    have tx : TEx A B4 := Fr.tex f24 qA
    have hrow : Dp K B4 (.ref tR) (dRw ⟨name, .mk m bs ws, src⟩) := dp_of_row (st_of gR) (dp_ex (e3.trans e4) dm) (ex_t e4 sS)
    have slt : SqL K B4 pt ys := sq_of gt4
    walk_at "w"
    refine r_app (K := K) gt4 (sz_lt (by omega)) ?_
    have hnm5 : okW name = true := nms.ok (List.mem_of_mem_drop (List.mem_of_getElem? hname))
    walk_at "w"
    refine ⟨ys ++ [.ref tR], rs ++ [⟨name, .mk m bs ws, src⟩], _, _, _, _, rfl, fr_updN (Fr.refl _ _) n6' (fA.trans f24), src_fr hpt.symm Fr.upd q4', by rw [upd_ne hp7t]; exact f24 _ _ hp7 gp, upd_same, ?_, ?_, fun r hr => ?_⟩
    · exact dpAll_tex (TEx.upd gt4) (imm_dRs _) (dpAll_snocR (dpAll_tex tx (imm_dRs rs) hy) hrow)
    · rw [List.map_append, hnm, List.take_add_one, hname]
      rfl
    · rcases List.mem_append.mp hr with hr | hr
      · exact hok r hr
      · rw [List.mem_singleton.mp hr]
        exact ⟨⟨hnm5, fun s hs => nms.ok (hsrc' s hs), by show src.length ≤ 3; omega, by show MkOk _ _ _ ∧ _; exact ⟨okm, by rw [hl]; rfl⟩⟩, trivial, b5, hsrc'⟩
  · rintro σ' A ⟨ys, rs, u, v, w, s, rfl, fA, qA, gp, gt, hy, hnm, hok⟩
    rw [len_vS, List.take_length] at hnm
    have hlen : rs.length = (ns.drop r1.toNat).length := by
      have := congrArg List.length hnm
      rwa [List.length_map] at this
    have hld : (ns.drop r1.toNat).length = ns.length - r1.toNat := List.length_drop ..
    have slt : SqL K A pt ys := sq_of gt
    walk_at "w"
    refine r_slL (sq_of (fA _ _ hpn gn5)) fun p9 H9 n9 e9 g9 => ?_
    rw [show cutV (vS ns) none (some r1) = vS (ns.take r1.toNat) from cutV_to r10 V.str] at g9
    walk_at "w"
    intro tG H10 e10 sG
    have gt10 := e10 _ _ (e9 _ _ gt)
    walk_at "w"
    intro tR H11 e11 sR
    walk_at "w"
    intro tW H12 n12 e12 gW
    have eA : Ex A H12 := ((e9.trans e10).trans e11).trans e12
    have hall : ns.take r1.toNat ++ rs.map Rw.nm = ns := by rw [hnm]; exact List.take_append_drop _ _
    refine k _ (ns.take r1.toNat) rs H12 ((F5.trans fA).trans (Fr.of eA)) (qA.ex eA) (.tup (st_of gW) (.cons (dp_of_strs (ex_t (e11.trans e12) sG)) (.cons (.tup (ex_t e12 sR) (dpAll_ex eA hy)) .nil))) ⟨⟨?_, ?_, ?_, ?_, fun r hr => (hok r hr).ok, ?_, fun r hr s hs => ?_⟩, ?_, fun r hr => (hok r hr).b5⟩ fun r hr => (hok r hr).ism
    · rw [List.length_take]; omega
    · omega
    · omega
    · exact fun g hg => nms.ok (List.mem_of_mem_take hg)
    · rw [hall]; exact nms.nd
    · rw [hall]; exact (hok r hr).mem s hs
    · rw [hall]; exact nms

end
section
theorem r_joinT {K : PySem.W.Frag} {H : Hp} {Q : VK} {a : Str} {p : Addr} {ys : List Str} (h : SqT K H p (ys.map V.str)) (hz : (ys.map (·.length)).sum + ys.length * a.length ≤ 16777216) (q : Q (.str (Txt.join a ys)) H) : rJoin K (.str a) [.ref p] H Q := ⟨a, p, ys, rfl, rfl, .inr h, hz, q⟩
theorem r_addSS {K : PySem.W.Frag} {a b : Str} {H : Hp} {Q : VK} (hz : a.length + b.length ≤ sizeLine) (q : Q (.str (a ++ b)) H) : rAdd K (.str a) (.str b) H Q := .inr (.inr (.inr ⟨a, b, rfl, rfl, hz, q⟩))
theorem r_strD {d : Dd} {H : Hp} {Q : VK} (h : okD 3 d) (q : Q (.str (dSt d)) H) : rStrU [gV d] H Q := by
  cases d with
  | none => exact r_strUS q
  | some i =>
    obtain ⟨a, b⟩ := h i rfl
    refine r_strU ?_ q
    have : i = 0 ∨ i = 1 ∨ i = 2 := by omega
    rcases this with rfl | rfl | rfl <;> decide +kernel
theorem getElem?_gV {l : List Dd} {i : Nat} {v : V} (h : (l.map gV)[i]? = some v) : ∃ d, l[i]? = some d ∧ v = gV d := by
  rw [List.getElem?_map] at h
  cases q : l[i]? with
  | none => rw [q] at h; cases h
  | some w => rw [q] at h; cases h; exact ⟨w, rfl, rfl⟩
theorem vS_get {α : Type} {f : α → Str} {l : List α} {i : Nat} {a : α} {v : V} (h : l[i]? = some a) (e : (vS (l.map f))[i]? = some v) : v = .str (f a) := by
  rw [gvS (w := f a) (by rw [List.getElem?_map, h]; rfl)] at e
  exact (Option.some.inj e).symm
abbrev spDT (K : PySem.W.Frag) : Sp := sp2 fun w v H Q _ => ∃ (wd : Str) (p : Addr) (ds : List Dd), w = .str wd ∧ v = .ref p ∧ SqT K H p (ds.map gV) ∧ wd.length ≤ 5 ∧ (∀ d ∈ ds, okD 3 d) ∧ ds.length ≤ 600 ∧ ∀ H', Ex H H' → Q (.str (dT wd ds)) H'
abbrev N_deeds_text : List Str := ["word", "deeds", "deed"]
theorem sc_deeds_text : FnScope N_deeds_text ["word", "deeds"] (defScope s_deeds_text) := ⟨rfl, rfl, rfl, by decide +kernel, rfl, by decide +kernel, by decide +kernel⟩
theorem ok_deeds_text {P : Program} {w : World} {K : PySem.W.Frag} {mg : Str → Option Value} {base : Heap} (E : Env P K mg) : Fn P w K mg base CX0 1 "deeds_text" (spDT K) := by
  obtain ⟨fd, F⟩ := E.dd_deeds_text
  refine Fn.mk0 F E.g_deeds_text sc_deeds_text sp2_len (fun _ _ _ _ _ _ us hl => match us, hl with | [_, _], _ => rfl) (fun cdv A outer s H vs Q X hr h => ?_)
  have nd := sc_deeds_text.nd
  obtain ⟨v0, v1, rfl, h⟩ := h
  refine ⟨_, (pss_one (ps_ret (kJoin K (pe_str) (pe_op (kAdd K) (pe_lst (pa_cons (pv 0) pa_nil)) (pe_lc (own := [("deed", 2)]) (g := gName 2) (tt := tYes) rfl nd (kSeq K (pv 1)) (blkOk_by (N := N_deeds_text) (sc := defScope s_deeds_text) (by decide +kernel)) (fun _ _ _ _ _ => pg_name (i := 2) nd rfl (Or.inl rfl)) (fun _ _ _ _ _ => pts_nil) (fun _ _ _ _ _ => pe_callTy xStrU (by rfl) E.f_str (by decide +kernel) (pa_cons (pv 2) pa_nil))))))), ?_⟩
  change (_ : TS) _ [some v0, some v1, none] H
  try dsimp only [cxOf, Cx.nox, Cx.blk]
  obtain ⟨wd, p, ds, rfl, rfl, s, zw, ok, z, k⟩ := h
  walk_at "w"
  refine w_m1 ?_
  walk_at "w"
  refine ⟨⟨_, rfl⟩, ?_⟩
  walk_at "w"
  intro p1 H1 n1 e1 g1
  walk_at "w"
  refine i_seqT ?_
  walk_at "w"
  refine lcY_tup (ys := vS (ds.map dSt)) (ex_t e1 s) (by rw [len_vS, List.length_map, List.length_map]) (by rw [List.length_map]; omega) (fun x => [_, _, some x]) (fun x => rfl) (fun x => rfl) (fun i x y H3 Q' e3 hx hy hq => ?_) (fun l3 H3 n3 e3 g3 => ?_)
  · obtain ⟨d, hd, rfl⟩ := getElem?_gV hx
    obtain rfl := vS_get hd hy
    walk_at "w"
    exact r_strD (ok d (List.mem_of_getElem? hd)) (hq _ (Ex.refl _))
  walk_at "w"
  refine r_addL (e3 _ _ g1) g3 (sz_of (by rw [len_vS, List.length_map]; simp only [List.length_cons, List.length_nil]; omega)) fun l4 H4 n4 e4 g4 => ?_
  walk_at "w"
  refine r_joinL (ys := wd :: ds.map dSt) (sq_of g4) (Nat.le_trans (dT_parts zw ok z) (by decide)) ?_
  exact k _ ((e1.trans e3).trans e4)
theorem stW_app (nm : Str) (src : List Str) : [V.str "row", .str nm, .str "of"] ++ vS src = vS (stW nm src) := rfl
abbrev N_row_line : List Str := ["row", "name", "maker", "sources", "start", "parts", "way"]
theorem sc_row_line : FnScope N_row_line ["row"] (defScope s_row_line) := ⟨rfl, rfl, rfl, by decide +kernel, rfl, by decide +kernel, by decide +kernel⟩
theorem ok_row_line {P : Program} {w : World} {K : PySem.W.Frag} {mg : Str → Option Value} {base : Heap} (E : Env P K mg) : Fn P w K mg base CX0 2 "row_line" (sp1 fun v H Q _ => ∃ r, RowAt K H v r ∧ RwOk r ∧ ∀ H', Ex H H' → Q (.str (linR r)) H') := by
  obtain ⟨fd, F⟩ := E.dd_row_line
  refine Fn.mk0 F E.g_row_line sc_row_line sp1_len (fun _ _ _ _ _ _ us hl => match us, hl with | [_], _ => rfl) (fun cdv A outer s H vs Q X hr h => ?_)
  have nd := sc_row_line.nd
  obtain ⟨v0, rfl, h⟩ := h
  refine ⟨_, (pss_cons (ps_asg (pv 0) (kGtup K rfl (pgs_cons (pg_name (i := 1) nd rfl (.inl rfl)) (pgs_cons (pg_name (i := 2) nd rfl (.inl rfl)) (pgs_cons (pg_name (i := 3) nd rfl (.inl rfl)) (pgs_nil))))))
  (pss_cons (ps_set (i := 4) nd rfl (.inl rfl) (kJoin K (pe_str) (pe_op (kAdd K) (pe_lst (pa_cons (pe_str) (pa_cons (pv 1) (pa_cons (pe_str) pa_nil)))) (pe_callTy (kLst K) (by rfl) E.f_list (by decide +kernel) (pa_cons (pv 3) pa_nil)))))
  (pss_cons (ps_if (kTru K (pe_callB (kIsi K) (by rfl) E.f_isinstance (by decide +kernel) (pa_cons (pv 2) (pa_cons (pe_bltn (v := .ty "str") (by rfl) E.f_str (by decide +kernel) rfl) pa_nil))) (by intro _; rfl))
   (pss_one (ps_ret (pe_op (kAdd K) (pe_op (kAdd K) (pv 4) (pe_str)) (pv 2))))
   pss_nil)
  (pss_cons (ps_set (i := 5) nd rfl (.inl rfl) (pe_op (kAdd K) (pe_lst (pa_cons (pc (ok_deeds_text E) hr (by decide) pass0 rfl (pa_cons (pe_str) (pa_cons (kFld K (pv 2) rfl) pa_nil))) pa_nil)) (pe_lc (own := [("way", 6)]) (g := gName 6) (tt := tYes) rfl nd (kSeq K (kFld K (pv 2) rfl)) (blkOk_by (N := N_row_line) (sc := defScope s_row_line) (by decide +kernel)) (fun _ _ _ _ _ => pg_name (i := 6) nd rfl (Or.inl rfl)) (fun _ _ _ _ _ => pts_nil) (fun _ _ _ _ _ => pc (ok_deeds_text E) hr (by decide) pass0 rfl (pa_cons (pe_str) (pa_cons (pv 6) pa_nil))))))
  (pss_one (ps_ret (pe_op (kAdd K) (pe_op (kAdd K) (pv 4) (pe_str)) (kJoin K (pe_str) (pv 5))))))))), ?_⟩
  change (_ : TS) _ [some v0, none, none, none, none, none, none] H
  try dsimp only [cxOf, Cx.nox, Cx.blk]
  obtain ⟨r, ⟨p, vm, q, rfl, s, mu, sq⟩, ok, k⟩ := h
  have st := ok.st
  have lr := linR_len ok
  unfold linR at k lr
  obtain ⟨nm, mu0, src⟩ := r
  have ok4 := ok.mu
  dsimp only at *
  walk_at "w"
  refine w_m1 ?_
  walk_at "w"
  refine ⟨⟨_, rfl⟩, ?_⟩
  walk_at "w"
  intro p1 H1 n1 e1 g1
  walk_at "w"
  intro p2 H2 n2 e2 g2
  refine r_addL (e2 _ _ g1) g2 (sz_of (by rw [len_vS]; have := st.s3; simp only [List.length_cons, List.length_nil]; omega)) fun l4 H4 n4 e4 g4 => ?_
  refine r_joinL (ys := stW nm src) (sq_of g4) (Nat.le_trans (stR_parts st) (by decide)) ?_
  have E4 := (e1.trans e2).trans e4
  have mu4 := ex_mu E4 mu
  walk_at "w"
  cases mu0 with
  | mk k0 b ws =>
    obtain ⟨xm, rfl, hm⟩ := mu4
    have mt := ok4.1.t
    dsimp only at k lr
    refine r_isi (insB_ok E.ins_Maker E.c_Maker (mak_mine2 hm).choose_spec.choose_spec) E.kitb_Maker_str ?_
    walk_at "w"
    refine r_makBe E hm fun pb sb => ?_
    walk_at "w"
    refine ⟨"begin", pb, b, rfl, rfl, sb, by rw [l_begin]; omega, mt.hb, mt.zb, fun H5 e5 => ?_⟩
    walk_at "w"
    intro p6 H6 n6 e6 g6
    have hm6 := ex_mak (e5.trans e6) hm
    walk_at "w"
    refine i_seqT ?_
    walk_at "w"
    refine r_makWa E hm6 fun pw xs sw hx => ?_
    have zx := dpAll_len hx
    rw [List.length_map] at zx
    have z4 := mt.z4
    walk_at "w"
    refine lcY_tup (ys := vS (ws.map (dT "way"))) sw (by rw [len_vS, List.length_map, zx]) (by omega) (fun x => [_, _, _, _, _, _, some x]) (fun x => rfl) (fun x => rfl) (fun i x y H7 Q' e7 hxi hy hq => ?_) (fun l7 H7 n7 e7 g7 => ?_)
    · obtain ⟨d, hd, hdp⟩ := dpAll_get hx hxi
      rw [List.getElem?_map] at hd
      cases qw : ws[i]? with
      | none => rw [qw] at hd; cases hd
      | some w =>
        rw [qw] at hd
        cases hd
        obtain rfl := vS_get qw hy
        obtain ⟨pt, rfl, spt⟩ := dp_dW (dp_ex e7 hdp)
        walk_at "w"
        exact ⟨"way", pt, w, rfl, rfl, spt, by rw [l_way]; omega, mt.hw w (List.mem_of_getElem? qw), mt.zw w (List.mem_of_getElem? qw), hq⟩
    walk_at "w"
    refine r_addL (e7 _ _ g6) g7 (sz_of (by rw [len_vS, List.length_map]; simp only [List.length_cons, List.length_nil]; omega)) fun l8 H8 n8 e8 g8 => ?_
    walk_at "w"
    rw [sapp_len, sapp_len] at lr
    have l2 : (": " : Str).length = 2 := by decide +kernel
    refine r_addSS (sz_of (by show (stR nm src).length + _ ≤ _; omega)) ?_
    walk_at "w"
    refine w_m1 ?_
    walk_at "w"
    refine ⟨⟨_, rfl⟩, ?_⟩
    walk_at "w"
    refine r_joinL (ys := dT "begin" b :: ws.map (dT "way")) (sq_of g8) (Nat.le_trans (mkT_parts mt) (by decide)) ?_
    refine r_addSS (sz_of (by show (stR nm src ++ ": ").length + (mkT b ws).length ≤ _; rw [sapp_len]; omega)) ?_
    exact k _ (((E4.trans (e5.trans e6)).trans e7).trans e8)
  | un u =>
    cases mu4
    dsimp only at k lr
    rw [sapp_len, sapp_len] at lr
    walk_at "w"
    refine r_addSS (sz_of (by show (stR nm src).length + _ ≤ _; omega)) ?_
    walk_at "w"
    refine r_addSS (sz_of (by show (stR nm src ++ " by ").length + _ ≤ _; rw [sapp_len]; omega)) ?_
    exact k _ E4
abbrev spWrite (K : PySem.W.Frag) : Sp := sp1 fun v H Q _ => ∃ x gs rs, v = .ref x ∧ WebAt K H x gs rs ∧ WbOk gs rs ∧ ∀ t H', Ex H H' → SqT K H' t (vS (linW gs rs)) → Q (.ref t) H'
abbrev N_write_web : List Str := ["web", "name", "row"]
theorem sc_write_web : FnScope N_write_web ["web"] (defScope s_write_web) := ⟨rfl, rfl, rfl, by decide +kernel, rfl, by decide +kernel, by decide +kernel⟩
theorem ok_write_web {P : Program} {w : World} {K : PySem.W.Frag} {mg : Str → Option Value} {base : Heap} (E : Env P K mg) : Fn P w K mg base CX0 3 "write_web" (spWrite K) := by
  obtain ⟨fd, F⟩ := E.dd_write_web
  refine Fn.mk0 F E.g_write_web sc_write_web sp1_len (fun _ _ _ _ _ _ us hl => match us, hl with | [_], _ => rfl) (fun cdv A outer s H vs Q X hr h => ?_)
  have nd := sc_write_web.nd
  obtain ⟨v0, rfl, h⟩ := h
  refine ⟨_, (pss_one (ps_ret (pe_callTy (kTup K) (by rfl) E.f_tuple (by decide +kernel) (pa_cons (pe_op (kAdd K) (pe_lc (own := [("name", 1)]) (g := gName 1) (tt := tYes) rfl nd (kSeq K (kFld K (pv 0) rfl)) (blkOk_by (N := N_write_web) (sc := defScope s_write_web) (by decide +kernel)) (fun _ _ _ _ _ => pg_name (i := 1) nd rfl (Or.inl rfl)) (fun _ _ _ _ _ => pts_nil) (fun _ _ _ _ _ => pe_op (kAdd K) (pe_str) (pv 1))) (pe_lc (own := [("row", 2)]) (g := gName 2) (tt := tYes) rfl nd (kSeq K (kFld K (pv 0) rfl)) (blkOk_by (N := N_write_web) (sc := defScope s_write_web) (by decide +kernel)) (fun _ _ _ _ _ => pg_name (i := 2) nd rfl (Or.inl rfl)) (fun _ _ _ _ _ => pts_nil) (fun _ _ _ _ _ => pc (ok_row_line E) hr (by decide) pass0 rfl (pa_cons (pv 2) pa_nil)))) pa_nil)))), ?_⟩
  change (_ : TS) _ [some v0, none, none] H
  try dsimp only [cxOf, Cx.nox, Cx.blk]
  obtain ⟨x, gs, rs, rfl, hw, ok, k⟩ := h
  have g3 := ok.g3
  have r6 := ok.r6
  walk_at "w"
  refine i_seqT ?_
  walk_at "w"
  refine r_webGi E hw fun pg sg => ?_
  walk_at "w"
  refine lcY_tup (ys := vS (gs.map linG)) sg (by rw [len_vS, len_vS, List.length_map]) (by rw [len_vS]; omega) (fun x => [_, some x, _]) (fun x => rfl) (fun x => rfl) (fun i x y H3 Q' e3 hx hy hq => ?_) (fun l3 H3 n3 e3 g3' => ?_)
  · obtain ⟨w, hd, rfl⟩ := getElem?_vS hx
    obtain rfl := vS_get hd hy
    have := okW_len (ok.gok w (List.mem_of_getElem? hd))
    walk_at "w"
    refine r_addSS (sz_of (by rw [show ("given " : Str).length = 6 by decide +kernel]; omega)) ?_
    exact hq _ (Ex.refl _)
  have hw3 := ex_web e3 hw
  walk_at "w"
  refine i_seqT ?_
  walk_at "w"
  refine r_webRo E hw3 fun pr xs sr hr' => ?_
  have zx := rows_len hr'
  walk_at "w"
  refine lcY_tup (ys := vS (rs.map linR)) sr (by rw [len_vS, List.length_map, zx]) (by omega) (fun x => [_, _, some x]) (fun x => rfl) (fun x => rfl) (fun i x y H4 Q' e4 hx hy hq => ?_) (fun l4 H4 n4 e4 g4 => ?_)
  · obtain ⟨r, hri, hrow⟩ := rows_get hr' hx
    obtain rfl := vS_get hri hy
    walk_at "w"
    exact ⟨r, ex_row e4 hrow, ok.rok r (List.mem_of_getElem? hri), hq⟩
  walk_at "w"
  refine r_addL (e4 _ _ g3') g4 (sz_of (by rw [len_vS, len_vS, List.length_map, List.length_map]; omega)) fun l8 H8 n8 e8 g8 => ?_
  rw [show vS (gs.map linG) ++ vS (rs.map linR) = vS (linW gs rs) from (List.map_append ..).symm] at g8
  walk_at "w"
  intro t H9 e9 s9
  exact k t H9 (((e3.trans e4).trans e8).trans e9) s9
/-! the law's own writing -/
abbrev N__law_line : List Str := ["row", "name", "maker", "sources", "start", "parts", "deed", "way"]
theorem sc__law_line : FnScope N__law_line ["row"] (defScope s__law_line) := ⟨rfl, rfl, rfl, by decide +kernel, rfl, by decide +kernel, by decide +kernel⟩
theorem ok__law_line {P : Program} {w : World} {K : PySem.W.Frag} {mg : Str → Option Value} {base : Heap} (E : Env P K mg) : Fn P w K mg base CX0 1 "_law_line" (sp1 fun v H Q _ => ∃ r, Dp K H v (dRw r) ∧ RwOk r ∧ ∀ H', Ex H H' → Q (.str (linR r)) H') := by
  obtain ⟨fd, F⟩ := E.dd__law_line
  refine Fn.mk0 F E.g__law_line sc__law_line sp1_len (fun _ _ _ _ _ _ us hl => match us, hl with | [_], _ => rfl) (fun cdv A outer s H vs Q X hr h => ?_)
  have nd := sc__law_line.nd
  obtain ⟨v0, rfl, h⟩ := h
  refine ⟨_, (pss_cons (ps_asg (pv 0) (kGtup K rfl (pgs_cons (pg_name (i := 1) nd rfl (.inl rfl)) (pgs_cons (pg_name (i := 2) nd rfl (.inl rfl)) (pgs_cons (pg_name (i := 3) nd rfl (.inl rfl)) (pgs_nil))))))
  (pss_cons (ps_set (i := 4) nd rfl (.inl rfl) (pe_op (kAdd K) (pe_op (kAdd K) (pe_op (kAdd K) (pe_str) (pv 1)) (pe_str)) (kJoin K (pe_str) (pv 3))))
  (pss_cons (ps_if (kTru K (pe_callB (kIsi K) (by rfl) E.f_isinstance (by decide +kernel) (pa_cons (pv 2) (pa_cons (pe_bltn (v := .ty "str") (by rfl) E.f_str (by decide +kernel) rfl) pa_nil))) (by intro _; rfl))
   (pss_one (ps_ret (pe_op (kAdd K) (pe_op (kAdd K) (pv 4) (pe_str)) (pv 2))))
   pss_nil)
  (pss_cons (ps_set (i := 5) nd rfl (.inl rfl) (pe_lst (pa_cons (kJoin K (pe_str) (pe_op (kAdd K) (pe_lst (pa_cons (pe_str) pa_nil)) (pe_lc (own := [("deed", 6)]) (g := gName 6) (tt := tYes) rfl nd (kSeq K (pe_ix (kIx K) (pv 2) (pe_int) (fun _ _ => rfl))) (blkOk_by (N := N__law_line) (sc := defScope s__law_line) (by decide +kernel)) (fun _ _ _ _ _ => pg_name (i := 6) nd rfl (Or.inl rfl)) (fun _ _ _ _ _ => pts_nil) (fun _ _ _ _ _ => pe_callTy xStrU (by rfl) E.f_str (by decide +kernel) (pa_cons (pv 6) pa_nil))))) pa_nil)))
  (pss_cons (ps_set (i := 5) nd rfl (.inl rfl) (pe_op (kAdd K) (pv 5) (pe_lc (own := [("way", 7)]) (g := gName 7) (tt := tYes) rfl nd (kSeq K (pe_ix (kIx K) (pv 2) (pe_int) (fun _ _ => rfl))) (blkOk_by (N := N__law_line) (sc := defScope s__law_line) (by decide +kernel)) (fun _ _ _ _ _ => pg_name (i := 7) nd rfl (Or.inl rfl)) (fun _ _ _ _ _ => pts_nil) (fun _ _ _ _ _ => kJoin K (pe_str) (pe_op (kAdd K) (pe_lst (pa_cons (pe_str) pa_nil)) (pe_lc (own := [("deed", 6)]) (g := gName 6) (tt := tYes) rfl nd (kSeq K (pv 7)) (blkOk_by (N := N__law_line) (sc := ({ kind := .function, names := [(".0", .local), ("way", .local)], isGenerator := false, isCoroutine := false } : Scope)) (by decide +kernel)) (fun _ _ _ _ _ => pg_name (i := 6) nd rfl (Or.inl rfl)) (fun _ _ _ _ _ => pts_nil) (fun _ _ _ _ _ => pe_callTy xStrU (by rfl) E.f_str (by decide +kernel) (pa_cons (pv 6) pa_nil))))))))
  (pss_one (ps_ret (pe_op (kAdd K) (pe_op (kAdd K) (pv 4) (pe_str)) (kJoin K (pe_str) (pv 5)))))))))), ?_⟩
  change (_ : TS) _ [some v0, none, none, none, none, none, none, none] H
  try dsimp only [cxOf, Cx.nox, Cx.blk]
  obtain ⟨r, hd, ok, k⟩ := h
  obtain ⟨a, vm, q, rfl, s, mu, sq⟩ := dp_row hd
  have st := ok.st
  have lr := linR_len ok
  unfold linR at k lr
  obtain ⟨nm, mu0, src⟩ := r
  have ok4 := ok.mu
  dsimp only at *
  have s3 := st.s3
  have ne : src ≠ [] := fun e => by have := st.s1; rw [e] at this; exact absurd this (by decide)
  have ln := okW_len st.hn
  have lj : (Txt.join " " src).length ≤ 40 := by
    have a := len_joinT " " src
    have b := sum_names st.hs
    rw [l_sp] at a
    omega
  have lj2 : (src.map (·.length)).sum + src.length * (" " : Str).length ≤ 16777216 := by
    have b := sum_names st.hs
    rw [l_sp]
    omega
  have c1 : ("row " : Str).length = 4 := by decide +kernel
  have c2 : (" of " : Str).length = 4 := by decide +kernel
  have c3 : (" by " : Str).length = 4 := by decide +kernel
  have c4 : (": " : Str).length = 2 := by decide +kernel
  have ls := stR_len st
  walk_at "w"
  refine r_addSS (sz_of (by omega)) ?_
  walk_at "w"
  refine r_addSS (sz_of (by rw [sapp_len]; omega)) ?_
  walk_at "w"
  refine w_m1 ?_
  walk_at "w"
  refine ⟨⟨_, rfl⟩, ?_⟩
  walk_at "w"
  refine r_joinT sq lj2 ?_
  refine r_addSS (sz_of (by rw [sapp_len, sapp_len]; omega)) ?_
  rw [stR_law ne]
  walk_at "w"
  cases mu0 with
  | mk k0 b ws =>
    have mt := ok4.1.t
    have lm := mkT_len mt
    dsimp only at k lr
    obtain ⟨pm, pb, pw, xs, rfl, sm, sb, sw, hx⟩ := dp_mk mu
    have zx := dpAll_len hx
    rw [List.length_map] at zx
    have z4 := mt.z4
    have zb := mt.zb
    walk_at "w"
    refine w_m1 ?_
    walk_at "w"
    refine ⟨⟨_, rfl⟩, ?_⟩
    walk_at "w"
    intro p1 H1 n1 e1 g1
    walk_at "w"
    refine i_seqT ?_
    walk_at "w"
    refine lcY_tup (ys := vS (b.map dSt)) (ex_t e1 sb) (by rw [len_vS, List.length_map, List.length_map]) (by rw [List.length_map]; omega) (fun x => [_, _, _, _, _, _, some x, _]) (fun x => rfl) (fun x => rfl) (fun i x y H3 Q' e3 hx hy hq => ?_) (fun l3 H3 n3 e3 g3 => ?_)
    · obtain ⟨d, hd, rfl⟩ := getElem?_gV hx
      obtain rfl := vS_get hd hy
      walk_at "w"
      exact r_strD (mt.hb d (List.mem_of_getElem? hd)) (hq _ (Ex.refl _))
    walk_at "w"
    refine r_addL (e3 _ _ g1) g3 (sz_of (by rw [len_vS, List.length_map]; simp only [List.length_cons, List.length_nil]; omega)) fun l4 H4 n4 e4 g4 => ?_
    walk_at "w"
    refine r_joinL (ys := ("begin" : Str) :: b.map dSt) (sq_of g4) (Nat.le_trans (dT_parts (by rw [l_begin]; omega) mt.hb zb) (by decide)) ?_
    walk_at "w"
    intro p5 H5 n5 e5 g5
    have E5 := ((e1.trans e3).trans e4).trans e5
    walk_at "w"
    refine i_seqT ?_
    walk_at "w"
    refine lcY_tup (ys := vS (ws.map (dT "way"))) (ex_t E5 sw) (by rw [len_vS, List.length_map, zx]) (by omega) (fun x => [_, _, _, _, _, _, _, some x]) (fun x => rfl) (fun x => rfl) (fun i x y H7 Q' e7 hxi hy hq => ?_) (fun l7 H7 n7 e7 g7 => ?_)
    · obtain ⟨d, hd, hdp⟩ := dpAll_get hx hxi
      rw [List.getElem?_map] at hd
      cases qw : ws[i]? with
      | none => rw [qw] at hd; cases hd
      | some w =>
        rw [qw] at hd
        cases hd
        obtain rfl := vS_get qw hy
        obtain ⟨pt, rfl, spt⟩ := dp_dW (dp_ex (E5.trans e7) hdp)
        have okw := mt.hw w (List.mem_of_getElem? qw)
        have zw := mt.zw w (List.mem_of_getElem? qw)
        walk_at "w"
        refine w_m1 ?_
        walk_at "w"
        refine ⟨⟨_, rfl⟩, ?_⟩
        walk_at "w"
        intro q1 A1 m1 f1 h1
        walk_at "w"
        refine i_seqT ?_
        walk_at "w"
        refine lcY_tup (ys := vS (w.map dSt)) (ex_t f1 spt) (by rw [len_vS, List.length_map, List.length_map]) (by rw [List.length_map]; omega) (fun x => [_, _, _, _, _, _, some x, _]) (fun x => rfl) (fun x => rfl) (fun i x y A3 Q'' f3 hx' hy' hq' => ?_) (fun l3 A3 m3 f3 h3 => ?_)
        · obtain ⟨d, hd, rfl⟩ := getElem?_gV hx'
          obtain rfl := vS_get hd hy'
          walk_at "w"
          exact r_strD (okw d (List.mem_of_getElem? hd)) (hq' _ (Ex.refl _))
        walk_at "w"
        refine r_addL (f3 _ _ h1) h3 (sz_of (by rw [len_vS, List.length_map]; simp only [List.length_cons, List.length_nil]; omega)) fun l4 A4 m4 f4 h4 => ?_
        walk_at "w"
        refine r_joinL (ys := ("way" : Str) :: w.map dSt) (sq_of h4) (Nat.le_trans (dT_parts (by rw [l_way]; omega) okw zw) (by decide)) ?_
        exact hq _ ((f1.trans f3).trans f4)
    walk_at "w"
    refine r_addL (e7 _ _ g5) g7 (sz_of (by rw [len_vS, List.length_map]; simp only [List.length_cons, List.length_nil]; omega)) fun l8 H8 n8 e8 g8 => ?_
    walk_at "w"
    refine r_addSS (sz_of (by omega)) ?_
    walk_at "w"
    refine w_m1 ?_
    walk_at "w"
    refine ⟨⟨_, rfl⟩, ?_⟩
    walk_at "w"
    refine r_joinL (ys := dT "begin" b :: ws.map (dT "way")) (sq_of g8) (Nat.le_trans (mkT_parts mt) (by decide)) ?_
    refine r_addSS (sz_of (by show (stR nm src ++ ": ").length + (mkT b ws).length ≤ _; rw [sapp_len]; omega)) ?_
    exact k _ ((E5.trans e7).trans e8)
  | un u =>
    have lu := okU_len ok4.1
    dsimp only at k lr
    cases mu
    walk_at "w"
    refine r_addSS (sz_of (by omega)) ?_
    walk_at "w"
    refine r_addSS (sz_of (by rw [sapp_len]; omega)) ?_
    exact k _ (Ex.refl _)
abbrev spLines (K : PySem.W.Frag) : Sp := sp1 fun v H Q _ => ∃ gs rs, Dp K H v (dWb gs rs) ∧ WbOk gs rs ∧ ∀ p H', H p = none → Ex H H' → H' p = some (.lst (vS (linW gs rs))) → Q (.ref p) H'
abbrev N__law_web_lines : List Str := ["web", "name", "row"]
theorem sc__law_web_lines : FnScope N__law_web_lines ["web"] (defScope s__law_web_lines) := ⟨rfl, rfl, rfl, by decide +kernel, rfl, by decide +kernel, by decide +kernel⟩
theorem ok__law_web_lines {P : Program} {w : World} {K : PySem.W.Frag} {mg : Str → Option Value} {base : Heap} (E : Env P K mg) : Fn P w K mg base CX0 2 "_law_web_lines" (spLines K) := by
  obtain ⟨fd, F⟩ := E.dd__law_web_lines
  refine Fn.mk0 F E.g__law_web_lines sc__law_web_lines sp1_len (fun _ _ _ _ _ _ us hl => match us, hl with | [_], _ => rfl) (fun cdv A outer s H vs Q X hr h => ?_)
  have nd := sc__law_web_lines.nd
  obtain ⟨v0, rfl, h⟩ := h
  refine ⟨_, (pss_one (ps_ret (pe_op (kAdd K) (pe_lc (own := [("name", 1)]) (g := gName 1) (tt := tYes) rfl nd (kSeq K (pe_ix (kIx K) (pv 0) (pe_int) (fun _ _ => rfl))) (blkOk_by (N := N__law_web_lines) (sc := defScope s__law_web_lines) (by decide +kernel)) (fun _ _ _ _ _ => pg_name (i := 1) nd rfl (Or.inl rfl)) (fun _ _ _ _ _ => pts_nil) (fun _ _ _ _ _ => pe_op (kAdd K) (pe_str) (pv 1))) (pe_lc (own := [("row", 2)]) (g := gName 2) (tt := tYes) rfl nd (kSeq K (pe_ix (kIx K) (pv 0) (pe_int) (fun _ _ => rfl))) (blkOk_by (N := N__law_web_lines) (sc := defScope s__law_web_lines) (by decide +kernel)) (fun _ _ _ _ _ => pg_name (i := 2) nd rfl (Or.inl rfl)) (fun _ _ _ _ _ => pts_nil) (fun _ _ _ _ _ => pc (ok__law_line E) hr (by decide) pass0 rfl (pa_cons (pv 2) pa_nil)))))), ?_⟩
  change (_ : TS) _ [some v0, none, none] H
  try dsimp only [cxOf, Cx.nox, Cx.blk]
  obtain ⟨gs, rs, hd, ok, k⟩ := h
  obtain ⟨a, pg, pr, xs, rfl, s, sg, sr, hx⟩ := dp_web hd
  have g3 := ok.g3
  have r6 := ok.r6
  have zx := dpAll_len hx
  rw [List.length_map] at zx
  walk_at "w"
  refine i_seqT ?_
  walk_at "w"
  refine lcY_tup (ys := vS (gs.map linG)) sg (by rw [len_vS, len_vS, List.length_map]) (by rw [len_vS]; omega) (fun x => [_, some x, _]) (fun x => rfl) (fun x => rfl) (fun i x y H3 Q' e3 hx hy hq => ?_) (fun l3 H3 n3 e3 g3' => ?_)
  · obtain ⟨w, hd, rfl⟩ := getElem?_vS hx
    obtain rfl := vS_get hd hy
    have := okW_len (ok.gok w (List.mem_of_getElem? hd))
    walk_at "w"
    refine r_addSS (sz_of (by rw [show ("given " : Str).length = 6 by decide +kernel]; omega)) ?_
    exact hq _ (Ex.refl _)
  walk_at "w"
  refine i_seqT ?_
  walk_at "w"
  refine lcY_tup (ys := vS (rs.map linR)) (ex_t e3 sr) (by rw [len_vS, List.length_map, zx]) (by omega) (fun x => [_, _, some x]) (fun x => rfl) (fun x => rfl) (fun i x y H4 Q' e4 hxi hy hq => ?_) (fun l4 H4 n4 e4 g4 => ?_)
  · obtain ⟨r, hri, hrow⟩ := dpRs_get hx hxi
    obtain rfl := vS_get hri hy
    walk_at "w"
    exact ⟨r, dp_ex (e3.trans e4) hrow, ok.rok r (List.mem_of_getElem? hri), hq⟩
  walk_at "w"
  refine r_addL (e4 _ _ g3') g4 (sz_of (by rw [len_vS, len_vS, List.length_map, List.length_map]; omega)) fun l8 H8 n8 e8 g8 => ?_
  rw [show vS (gs.map linG) ++ vS (rs.map linR) = vS (linW gs rs) from (List.map_append ..).symm] at g8
  have nl : H l8 = none := by
    cases q : H l8 with
    | none => rfl
    | some o => rw [(e3.trans e4) _ _ q] at n8; cases n8
  exact k l8 H8 nl ((e3.trans e4).trans e8) g8

end
section
/-- a comprehension over a list, what is kept said by the caller -/
theorem lcG_list {K : PySem.W.Frag} {H : Hp} {Q : VK} {a : Addr} {xs : List V} {j : Nat} {te : TE} {vs : List Nat} {σ : L2.St} (R : Addr → Nat → List V → Hp → Prop) (hn : xs.length ≤ 90000) (σ' : V → L2.St) (hσ : ∀ x, (wipe σ vs).set j (some x) = σ' x) (hw : ∀ x, wipe ((wipe σ vs).set j (some x)) vs = wipe σ vs)
    (h0 : ∀ D, H D = none → R D 0 [] (upd H D (.lst []))) (hl : ∀ D i acc H', R D i acc H' → SqL K H' a xs)
    (he : ∀ D i x acc H' Q', H D = none → H' D = some (.lst acc) → xs[i]? = some x → R D i acc H' → (∀ y H2, H2 D = some (.lst acc) → R D (i + 1) (acc ++ [y]) (upd H2 D (.lst (acc ++ [y]))) → Q' y H2) → te (σ' x) H' Q')
    (hq : ∀ D acc H', H D = none → R D xs.length acc H' → H' D = some (.lst acc) → acc.length = xs.length → Q (.ref D) H') : LcJ (Itl K a) (gName j) tYes te vs σ H Q := fun D hD =>
  lc_list (xs := xs) (Pv := fun i H' => ∃ acc, H' D = some (.lst acc) ∧ acc.length = i ∧ R D i acc H') ⟨[], upd_same, rfl, h0 D hD⟩ (fun i H' _ p => by obtain ⟨acc, _, _, r⟩ := p; exact hl D i acc H' r) (fun i x H' hi p => ⟨hw _, by
    obtain ⟨acc, g, hz, r⟩ := p
    show te ((wipe σ vs).set j _) H' _
    rw [hσ]
    have hlt := (List.getElem?_eq_some_iff.mp hi).1
    exact he D i x acc H' _ hD g hi r fun y H2 g2 r2 => ⟨acc, g2, sz_lt (by omega), acc ++ [y], upd_same, by rw [List.length_append, hz]; rfl, r2⟩⟩) fun H' p => by
    obtain ⟨acc, g, hz, r⟩ := p
    exact hq D acc H' hD r g hz
abbrev spRd (K : PySem.W.Frag) : Sp := sp2 fun t w H Q _ => ∃ (wd : Str) (ds : List Dd), t = .str (dT wd ds) ∧ w = .str wd ∧ wd.length ≤ 5 ∧ 32 ∉ TL.tl wd ∧ (∀ d ∈ ds, okD 3 d) ∧ ds.length ≤ 600 ∧ ∀ p H', H p = none → Ex H H' → H' p = some (.lst (ds.map gV)) → Q (.ref p) H'
theorem none_ex {H H1 : Hp} {b : Addr} (e : Ex H H1) (n : H1 b = none) : H b = none := by
  cases h : H b with
  | none => rfl
  | some o => rw [e b o h] at n; cases n
theorem b_sp : ((" " : Str).length == 0) = false := by decide +kernel
theorem b_sc : (("; " : Str).length == 0) = false := by decide +kernel
theorem b_cl : ((":" : Str).length == 0) = false := by decide +kernel
abbrev N_read_deeds : List Str := ["text", "word", "words", "told", "one"]
theorem sc_read_deeds : FnScope N_read_deeds ["text", "word"] (defScope s_read_deeds) := ⟨rfl, rfl, rfl, by decide +kernel, rfl, by decide +kernel, by decide +kernel⟩
theorem ok_read_deeds {P : Program} {w : World} {K : PySem.W.Frag} {mg : Str → Option Value} {base : Heap} (EW : EnvW P w K mg) : Fn P w K mg base CX0 1 "read_deeds" (spRd K) := by
  have E : Env P K mg := EW.env
  obtain ⟨fd, F⟩ := E.dd_read_deeds
  refine Fn.mk0 F E.g_read_deeds sc_read_deeds sp2_len (fun _ _ _ _ _ _ us hl => match us, hl with | [_, _], _ => rfl) (fun cdv A outer s H vs Q X hr h => ?_)
  have nd := sc_read_deeds.nd
  obtain ⟨v0, v1, rfl, h⟩ := h
  refine ⟨_, (pss_cons (ps_set (i := 2) nd rfl (.inl rfl) (xSplit (pv 0) (pe_str)))
  (pss_cons (ps_if (pt_cmpR (kNe K hr) (pe_ix (kIx K) (pv 2) (pe_int) (fun _ _ => rfl)) (pv 1) (nomark _))
   (pss_one (ps_ret (pe_non)))
   pss_nil)
  (pss_cons (ps_set (i := 3) nd rfl (.inl rfl) (pe_lst (pa_nil)))
  (pss_cons (ps_for PassesOwn.never rfl (kSeq K (pe_slice (kSl K) (pv 2) (po_some (pe_int)) po_none)) (pg_name (i := 4) nd rfl (.inl rfl))
   (pss_one (ps_if (pt_cmpR (kEq K hr) (pv 4) ((E.k_GIVE).elim fun t e => pe_glob (v := .str "give") (by rfl) e ⟨t, rfl⟩) (nomark _))
   (pss_one (ps_expr (kBM K (pe_bm PySem.F.plainAttrs_list PySem.F.slot_list_append PySem.F.type_list_append mt_append (pv 3) (pa_cons ((E.k_GIVE).elim fun t e => pe_glob (v := .str "give") (by rfl) e ⟨t, rfl⟩) pa_nil)))))
   (pss_one (ps_if (pt_cmpR (kInTab EW.t_FIGURES) (pv 4) (pe_glob (v := .ref (He.ga K "FIGURES")) (by rfl) E.g_FIGURES rfl) rfl)
   (pss_one (ps_expr (kBM K (pe_bm PySem.F.plainAttrs_list PySem.F.slot_list_append PySem.F.type_list_append mt_append (pv 3) (pa_cons (pe_ix (kIxTab EW.t_FIGURES) (pe_glob (v := .ref (He.ga K "FIGURES")) (by rfl) E.g_FIGURES rfl) (pv 4) (fun _ _ => rfl)) pa_nil)))))
   (pss_one (ps_ret (pe_non))))))))
  (pss_one (ps_ret (pv 3))))))), ?_⟩
  change (_ : TS) _ [some v0, some v1, none, none, none] H
  try dsimp only [cxOf, Cx.nox, Cx.blk]
  obtain ⟨wd, ds, rfl, rfl, zw, fw, ok, z, k⟩ := h
  have zt := dT_len zw ok z
  walk_at "w"
  refine w_m1 ?_
  walk_at "w"
  refine ⟨⟨_, rfl⟩, ?_⟩
  walk_at "w"
  refine r_split b_sp (sz_of (by omega)) fun p1 H1 n1 e1 g1 => ?_
  rw [split_dT fw ok] at g1
  have s1 : SqL K H1 p1 ((wd :: ds.map dSt).map V.str) := sq_of g1
  walk_at "w"
  refine r_ixL s1 (atI_pos (v := .str wd) (by decide) rfl) ?_
  walk_at "w"
  refine r_neSS ?_
  walk_at "w"
  intro p2 H2 n2 e2 g2
  have g12 := e2 _ _ g1
  walk_at "w"
  refine i_seqL ?_
  walk_at "w"
  refine r_slL (sq_of g12) fun p3 H3 n3 e3 g3 => ?_
  rw [show cutV ((wd :: ds.map dSt).map V.str) (some 1) none = vS (ds.map dSt) from cutV_from (xs := wd :: ds.map dSt) (by decide) V.str] at g3
  have s3 : SqL K H3 p3 (vS (ds.map dSt)) := sq_of g3
  have n2' : H p2 = none := none_ex e1 n2
  have hne : p3 ≠ p2 := (ne_of_none g2 n3).symm
  walk_at "w"
  refine for_list (xs := vS (ds.map dSt)) (Pv := fun i σ' H' => ∃ u : Option V, σ' = [some (.str (dT wd ds)), some (.str wd), some (.ref p1), some (.ref p2), u] ∧ Ex H H' ∧ H' p3 = some (.lst (vS (ds.map dSt))) ∧ H' p2 = some (.lst ((ds.take i).map gV)))
    ⟨_, rfl, (e1.trans e2).trans e3, g3, e3 _ _ g2⟩ (fun i σ' H' _ h => by obtain ⟨_, _, _, g, _⟩ := h; exact sq_of g) ?_ ?_
  · rintro i y σ' A hi ⟨u, rfl, eA, gA, gt⟩
    obtain ⟨w, hw, rfl⟩ := getElem?_vS hi
    rw [List.getElem?_map] at hw
    cases hd : ds[i]? with
    | none => rw [hd] at hw; cases hw
    | some d =>
      rw [hd] at hw
      cases hw
      have hlt := (List.getElem?_eq_some_iff.mp hd).1
      have stp : (ds.take (i + 1)).map gV = (ds.take i).map gV ++ [gV d] := by
        rw [List.take_add_one, hd, List.map_append]
        rfl
      have fin : ∃ u, [some (V.str (dT wd ds)), some (.str wd), some (.ref p1), some (.ref p2), some (.str (dSt d))] = [some (V.str (dT wd ds)), some (.str wd), some (.ref p1), some (.ref p2), u] ∧ Ex H (upd A p2 (.lst ((ds.take i).map gV ++ [gV d]))) ∧ upd A p2 (.lst ((ds.take i).map gV ++ [gV d])) p3 = some (.lst (vS (ds.map dSt))) ∧ upd A p2 (.lst ((ds.take i).map gV ++ [gV d])) p2 = some (.lst ((ds.take (i + 1)).map gV)) :=
        ⟨_, rfl, Ex.mut eA n2', by rw [upd_ne hne]; exact gA, by rw [upd_same, stp]⟩
      have zz : ((ds.take i).map gV).length < 100000 := by rw [List.length_map, List.length_take]; omega
      have slt : SqL K A p2 ((ds.take i).map gV) := sq_of gt
      walk_at "w"
      refine r_eqSS ?_
      rcases dSt_cases (ok d (List.mem_of_getElem? hd)) with rfl | rfl | rfl | rfl
      · rw [decide_eq_true (show dSt none = "give" from rfl)]
        walk_at "w"
        refine r_app (K := K) gt (sz_lt zz) ?_
        walk_at "w"
        exact fin
      · rw [decide_eq_false (show ¬ dSt (some 0) = "give" by decide +kernel)]
        walk_at "w"
        refine ⟨_, rfl, rfl, ?_⟩
        rw [show (tb_FIGURES.lookup (dSt (some 0))).isSome = true by decide +kernel]
        walk_at "w"
        refine ⟨_, 0, rfl, rfl, by decide +kernel, ?_⟩
        walk_at "w"
        refine r_app (K := K) gt (sz_lt zz) ?_
        walk_at "w"
        exact fin
      · rw [decide_eq_false (show ¬ dSt (some 1) = "give" by decide +kernel)]
        walk_at "w"
        refine ⟨_, rfl, rfl, ?_⟩
        rw [show (tb_FIGURES.lookup (dSt (some 1))).isSome = true by decide +kernel]
        walk_at "w"
        refine ⟨_, 1, rfl, rfl, by decide +kernel, ?_⟩
        walk_at "w"
        refine r_app (K := K) gt (sz_lt zz) ?_
        walk_at "w"
        exact fin
      · rw [decide_eq_false (show ¬ dSt (some 2) = "give" by decide +kernel)]
        walk_at "w"
        refine ⟨_, rfl, rfl, ?_⟩
        rw [show (tb_FIGURES.lookup (dSt (some 2))).isSome = true by decide +kernel]
        walk_at "w"
        refine ⟨_, 2, rfl, rfl, by decide +kernel, ?_⟩
        walk_at "w"
        refine r_app (K := K) gt (sz_lt zz) ?_
        walk_at "w"
        exact fin
  · rintro σ' A ⟨u, rfl, eA, gA, gt⟩
    rw [len_vS, List.length_map, List.take_length] at gt
    walk_at "w"
    exact k p2 A n2' eA gt
/-- lists of deeds, none of them at D -/
def WsD (D : Addr) (H : Hp) : List V → List (List Dd) → Prop
  | [], [] => True
  | x :: xs, w :: ws => (∃ p, x = .ref p ∧ p ≠ D ∧ H p = some (.lst (w.map gV))) ∧ WsD D H xs ws
  | _, _ => False
theorem wsD_ex {D : Addr} {H H' : Hp} (e : ∀ p o, p ≠ D → H p = some o → H' p = some o) : ∀ {xs : List V} {ws : List (List Dd)}, WsD D H xs ws → WsD D H' xs ws
  | [], [], _ => trivial
  | _ :: _, _ :: _, h => ⟨let ⟨p, e1, n, s⟩ := h.1; ⟨p, e1, n, e p _ n s⟩, wsD_ex e h.2⟩
  | [], _ :: _, h => h.elim
  | _ :: _, [], h => h.elim
theorem wsD_snoc {D : Addr} {H : Hp} {p : Addr} {w : List Dd} : ∀ {xs : List V} {ws : List (List Dd)}, WsD D H xs ws → p ≠ D → H p = some (.lst (w.map gV)) → WsD D H (xs ++ [.ref p]) (ws ++ [w])
  | [], [], _, n, g => ⟨⟨p, rfl, n, g⟩, trivial⟩
  | _ :: _, _ :: _, h, n, g => ⟨h.1, wsD_snoc h.2 n g⟩
  | [], _ :: _, h, _, _ => h.elim
  | _ :: _, [], h, _, _ => h.elim
theorem wsD_at {K : PySem.W.Frag} {D : Addr} {H : Hp} : ∀ {xs : List V} {ws : List (List Dd)}, WsD D H xs ws → WsAt K H xs ws
  | [], [], _ => trivial
  | _ :: _, _ :: _, h => ⟨let ⟨p, e1, n, s⟩ := h.1; ⟨p, e1, .inl (sq_of s)⟩, wsD_at h.2⟩
  | [], _ :: _, h => h.elim
  | _ :: _, [], h => h.elim
abbrev spRm (K : PySem.W.Frag) : Sp := sp2 fun t n H Q _ => ∃ (k : Int) (b : List Dd) (ws : List (List Dd)), t = .str (mkT b ws) ∧ n = .int k ∧ MkOk k b ws ∧ ∀ x H', Ex H H' → MakAt K H' x k b ws → Q (.ref x) H'
abbrev N_read_maker : List Str := ["text", "inlets", "parts", "begin", "ways", "part", "way"]
theorem sc_read_maker : FnScope N_read_maker ["text", "inlets"] (defScope s_read_maker) := ⟨rfl, rfl, rfl, by decide +kernel, rfl, by decide +kernel, by decide +kernel⟩
theorem ok_read_maker {P : Program} {w : World} {K : PySem.W.Frag} {mg : Str → Option Value} {base : Heap} (EW : EnvW P w K mg) : Fn P w K mg base CX0 11 "read_maker" (spRm K) := by
  have E : Env P K mg := EW.env
  obtain ⟨fd, F⟩ := E.dd_read_maker
  refine Fn.mk0 F E.g_read_maker sc_read_maker sp2_len (fun _ _ _ _ _ _ us hl => match us, hl with | [_, _], _ => rfl) (fun cdv A outer s H vs Q X hr h => ?_)
  have nd := sc_read_maker.nd
  obtain ⟨v0, v1, rfl, h⟩ := h
  refine ⟨_, (pss_cons (ps_set (i := 2) nd rfl (.inl rfl) (xSplit (pv 0) (pe_str)))
  (pss_cons (ps_set (i := 3) nd rfl (.inl rfl) (pc (ok_read_deeds EW) hr (by decide) pass0 rfl (pa_cons (pe_ix (kIx K) (pv 2) (pe_int) (fun _ _ => rfl)) (pa_cons (pe_str) pa_nil))))
  (pss_cons (ps_setLc (i := 4) (own := [("part", 5)]) (g := gName 5) (tt := tYes) rfl nd rfl rfl (sw_true rfl rfl rfl (by decide +kernel)) (kSeq K (pe_slice (kSl K) (pv 2) (po_some (pe_int)) po_none)) (blkOk_by (N := N_read_maker) (sc := defScope s_read_maker) (by decide +kernel)) (fun _ _ _ _ _ => pg_name (i := 5) nd rfl (Or.inl rfl)) (fun _ _ _ _ _ => pts_nil) (fun _ _ _ _ _ => pc (ok_read_deeds EW) hr (by decide) pass0 rfl (pa_cons (pv 5) (pa_cons (pe_str) pa_nil))))
  (pss_cons (ps_if (PW.pt (pw_or (pt_cmpR xIs (pv 3) (pe_non) (nomark _)) (pw_or1 (kTru K (pe_callB (kAny K rfl) (by rfl) E.f_any (by decide +kernel) (pa_cons (pe_lc (own := [("way", 6)]) (g := gName 6) (tt := tYes) rfl nd (kSeq K (pv 4)) (blkOk_by (N := N_read_maker) (sc := defScope s_read_maker) (by decide +kernel)) (fun _ _ _ _ _ => pg_name (i := 6) nd rfl (Or.inl rfl)) (fun _ _ _ _ _ => pts_nil) (fun _ _ _ _ _ => pe_cmpR xIs (pv 6) (pe_non) (nomark _))) pa_nil)) (by intro _; rfl)))))
   (pss_one (ps_ret (pe_non)))
   pss_nil)
  (pss_one (ptrymany K rfl rfl (fun W pn xe tk pw =>
   (pss_one (ps_ret (pmk (ok_Maker3 E) hr (by decide) pass0 rfl (pa_cons (pv 1) (pa_cons (pv 3) (pa_cons (pv 4) pa_nil))))))) (.cons ⟨rfl, rfl, .inl E.g_BadMaker⟩ (fun a oe cls d pn hz hf => (pss_one (ps_ret (pe_non)))) (.cons ⟨rfl, rfl, .inl E.g_TooMany⟩ (fun a oe cls d pn hz hf => (pss_one (ps_ret (pe_non)))) (.nil))))))))), ?_⟩
  change (_ : TS) _ [some v0, some v1, none, none, none, none, none] H
  try dsimp only [cxOf, Cx.nox, Cx.blk]
  obtain ⟨k0, b, ws, rfl, rfl, ok, k⟩ := h
  have mt := ok.t
  have zt := mkT_len mt
  have z4 := mt.z4
  walk_at "w"
  refine w_m1 ?_
  walk_at "w"
  refine ⟨⟨_, rfl⟩, ?_⟩
  walk_at "w"
  refine r_split b_sc (sz_of (by omega)) fun p1 H1 n1 e1 g1 => ?_
  rw [split_mkT mt] at g1
  have s1 : SqL K H1 p1 ((dT "begin" b :: ws.map (dT "way")).map V.str) := sq_of g1
  walk_at "w"
  refine r_ixL s1 (atI_pos (v := .str (dT "begin" b)) (by decide) rfl) ?_
  walk_at "w"
  refine ⟨"begin", b, rfl, rfl, by rw [l_begin]; omega, f_begin.1, mt.hb, mt.zb, fun pb H2 n2 e2 g2 => ?_⟩
  have g12 := e2 _ _ g1
  walk_at "w"
  refine i_seqL ?_
  walk_at "w"
  refine r_slL (sq_of g12) fun p3 H3 n3 e3 g3 => ?_
  rw [show cutV ((dT "begin" b :: ws.map (dT "way")).map V.str) (some 1) none = vS (ws.map (dT "way")) from cutV_from (xs := dT "begin" b :: ws.map (dT "way")) (by decide) V.str] at g3
  have s3 : SqL K H3 p3 (vS (ws.map (dT "way"))) := sq_of g3
  have E3 := (e1.trans e2).trans e3
  walk_at "w"
  refine lcG_list (K := K) (xs := vS (ws.map (dT "way"))) (fun D i acc H' => Ex H3 H' ∧ WsD D H' acc (ws.take i)) (by rw [len_vS, List.length_map]; omega) (fun x => [_, _, _, _, _, some x, _]) (fun x => rfl) (fun x => rfl) (fun D nD => ⟨Ex.new nD, trivial⟩) (fun D i acc H' h => ex_l h.1 s3) (fun D i x acc H' Q' nD gD hi h hq => ?_) (fun D acc H' nD h gD hz => ?_)
  · obtain ⟨w, hw, rfl⟩ := getElem?_vS hi
    rw [List.getElem?_map] at hw
    cases hd : ws[i]? with
    | none => rw [hd] at hw; cases hw
    | some d =>
      rw [hd] at hw
      cases hw
      have hm := List.mem_of_getElem? hd
      walk_at "w"
      refine ⟨_, _, rfl, "way", d, rfl, rfl, by rw [l_way]; omega, f_way.1, mt.hw d hm, mt.zw d hm, fun pw H5 n5 e5 g5 => ?_⟩
      have hne : pw ≠ D := (ne_of_none gD n5).symm
      refine hq _ _ (e5 _ _ gD) ⟨Ex.mut (h.1.trans e5) nD, ?_⟩
      rw [List.take_add_one, hd]
      exact wsD_snoc (wsD_ex (fun p o n g => by rw [upd_ne n]; exact e5 _ _ g) h.2) hne (by rw [upd_ne hne]; exact g5)
  obtain ⟨e4, hws⟩ := h
  rw [len_vS, List.length_map] at hz
  rw [len_vS, List.length_map, List.take_length] at hws
  have sD : SqL K H' D acc := sq_of gD
  walk_at "w"
  refine i_seqL ?_
  walk_at "w"
  have hws2 := wsD_at (K := K) hws
  refine lcJ_list (v := fun _ => .bl false) sD (by omega) (fun x => [_, _, _, _, _, _, some x]) (fun x => rfl) (fun x => rfl) (fun x H6 Q' e6 hx hq => ?_) (fun p7 H7 n7 e7 g7 => ?_)
  · obtain ⟨pw, w, rfl, _, _⟩ := ws_mem hws2 hx
    walk_at "w"
    exact hq _ (Ex.refl _)
  walk_at "w"
  refine r_any (bs := acc.map fun _ => false) (sq_of g7) (by simp [Function.comp]) ?_
  rw [show (acc.map fun _ => false).any id = false by simp]
  walk_at "w"
  dsimp only
  refine w_tryN ?_
  walk_at "w"
  have E7 := e4.trans e7
  refine mk_mak (.inl (sq_of (E7 _ _ (e3 _ _ g2)))) (.inl (ex_l e7 sD)) (ws_ex e7 hws2) ok fun x H8 e8 hm => ?_
  exact k x H8 ((E3.trans E7).trans e8) hm

end
section
theorem r_neSt {K : PySem.W.Frag} {x y : Str} {H : Hp} {Q : VK} (h : Q (.bl (!decide (x = y))) H) : rNeU K (.str x) (.str y) H Q := .inl ⟨rfl, by
  rw [show decide (V.str x = V.str y) = decide (x = y) from decide_eq_decide.mpr ⟨V.str.inj, congrArg _⟩]
  exact h⟩
theorem r_isNotS {w : Str} {H : Hp} {Q : VK} (h : Q (.bl true) H) : rIsNot (.str w) .non H Q := ⟨rfl, h⟩
theorem r_isS {w : Str} {H : Hp} {Q : VK} (h : Q (.bl false) H) : rIs (.str w) .non H Q := ⟨rfl, h⟩
theorem part_row {r : Rw} (ok : RwOk r) : ∃ s0 c0 r0, Txt.partition (linR r) ":" = (s0, c0, r0) ∧ s0.length ≤ 17000 ∧ r0.length ≤ 17000 ∧ ((∃ k b ws, r.mu = .mk k b ws ∧ c0 = ":" ∧ r0 = (" " : Str) ++ mkT b ws ∧ Txt.split s0 " " = stW r.nm r.src) ∨ (∃ u, r.mu = .un u ∧ c0 = "" ∧ Txt.split s0 " " = unW r.nm r.src u)) := by
  have lr := linR_len ok
  have okm := ok.mu
  have st := ok.st
  have ls := stR_len st
  unfold linR at lr ⊢
  cases q : r.mu with
  | mk k b ws =>
    rw [q] at okm lr
    have lm := mkT_len okm.1.t
    exact ⟨_, _, _, part_linM st, by omega, by rw [sapp_len, l_sp]; omega, .inl ⟨k, b, ws, rfl, rfl, rfl, split_stR st⟩⟩
  | un u =>
    rw [q] at okm lr
    exact ⟨_, _, _, part_linU st okm.1, lr, by decide +kernel, .inr ⟨u, rfl, by decide +kernel, split_linU st okm.1⟩⟩
theorem cutV_last2 {l : List V} {a b : V} : cutV (l ++ [a, b]) none (some (-2)) = l := by
  unfold cutV
  have h1 : HT.sIx (l ++ [a, b]).length 0 none = 0 := HT.sIx_none ..
  have h2 : HT.sIx (l ++ [a, b]).length (l ++ [a, b]).length (some (-2)) = l.length := by
    rw [List.length_append]
    unfold HT.sIx
    simp
    try omega
  rw [h1, h2, Nat.sub_zero, List.drop_zero, List.take_left]
theorem unW_app (nm : Str) (src : List Str) (u : Str) : vS (unW nm src u) = vS (stW nm src) ++ [.str "by", .str u] := by
  show vS (stW nm src ++ [("by" : Str), u]) = _
  unfold vS
  rw [List.map_append]
  rfl
theorem at_un2 {l : List V} {a b : V} : atI (l ++ [a, b]) (-2) = some a := by
  refine atI_neg (by decide) (by rw [List.length_append]; simp; omega) ?_
  have : ((-2 : Int) + ((l ++ [a, b]).length : Int)).toNat = l.length := by rw [List.length_append]; simp; omega
  rw [this, List.getElem?_append_right (Nat.le_refl _), Nat.sub_self]
  rfl
theorem at_un1 {l : List V} {a b : V} : atI (l ++ [a, b]) (-1) = some b := by
  refine atI_neg (by decide) (by rw [List.length_append]; simp; omega) ?_
  have : ((-1 : Int) + ((l ++ [a, b]).length : Int)).toNat = l.length + 1 := by rw [List.length_append]; simp; omega
  rw [this, List.getElem?_append_right (by omega), show l.length + 1 - l.length = 1 by omega]
  rfl
abbrev spRr (K : PySem.W.Frag) : Sp := sp1 fun v H Q _ => ∃ r, v = .str (linR r) ∧ RwOk r ∧ ∀ w H', Ex H H' → RowAt K H' w r → Q w H'
/-- what stands in read_row's unknown -/
def unV : Mu → V
  | .mk .. => .non
  | .un u => .str u
abbrev N_read_row : List Str := ["line", "start", "colon", "rest", "words", "unknown", "sources", "maker", "one"]
theorem sc_read_row : FnScope N_read_row ["line"] (defScope s_read_row) := ⟨rfl, rfl, rfl, by decide +kernel, rfl, by decide +kernel, by decide +kernel⟩
theorem ok_read_row {P : Program} {w : World} {K : PySem.W.Frag} {mg : Str → Option Value} {base : Heap} (EW : EnvW P w K mg) : Fn P w K mg base CX0 12 "read_row" (spRr K) := by
  have E : Env P K mg := EW.env
  obtain ⟨fd, F⟩ := E.dd_read_row
  refine Fn.mk0 F E.g_read_row sc_read_row sp1_len (fun _ _ _ _ _ _ us hl => match us, hl with | [_], _ => rfl) (fun cdv A outer s H vs Q X hr h => ?_)
  have nd := sc_read_row.nd
  obtain ⟨v0, rfl, h⟩ := h
  refine ⟨_, (pss_cons (ps_asg (xPart (pv 0) (pe_str)) (kGtup K rfl (pgs_cons (pg_name (i := 1) nd rfl (.inl rfl)) (pgs_cons (pg_name (i := 2) nd rfl (.inl rfl)) (pgs_cons (pg_name (i := 3) nd rfl (.inl rfl)) (pgs_nil))))))
  (pss_cons (ps_set (i := 4) nd rfl (.inl rfl) (xSplit (pv 1) (pe_str)))
  (pss_cons (ps_set (i := 5) nd rfl (.inl rfl) (pe_non))
  (pss_cut (ps_if (pt_cmpR (kEq K hr) (pv 2) (pe_str) (nomark _))
   (pss_cons (ps_if (PW.pt (pw_or (pt_cmpR op_lt (pe_callB (kLen K) (by rfl) E.f_len (by decide +kernel) (pa_cons (pv 4) pa_nil)) (pe_int) (nomark _)) (pw_or (pt_cmpR (kNe K hr) (pe_ix (kIx K) (pv 4) (pe_un un_neg (pe_int)) (fun _ _ => rfl)) (pe_str) (nomark _)) (pw_or1 (pt_not (kTru K (pc (ok_is_unknown_name E) hr (by decide) pass0 rfl (pa_cons (pe_ix (kIx K) (pv 4) (pe_un un_neg (pe_int)) (fun _ _ => rfl)) pa_nil)) (by intro _; rfl)))))))
   (pss_one (ps_ret (pe_non)))
   pss_nil)
  (pss_cons (ps_set (i := 5) nd rfl (.inl rfl) (pe_ix (kIx K) (pv 4) (pe_un un_neg (pe_int)) (fun _ _ => rfl)))
  (pss_one (ps_set (i := 4) nd rfl (.inl rfl) (pe_slice (kSl K) (pv 4) po_none (po_some (pe_un un_neg (pe_int))))))))
   pss_nil)
  (pss_cons (ps_if (PW.pt (pw_or (pt_cmpR op_lt (pe_callB (kLen K) (by rfl) E.f_len (by decide +kernel) (pa_cons (pv 4) pa_nil)) (pe_int) (nomark _)) (pw_or (pt_cmpR (kNe K hr) (pe_ix (kIx K) (pv 4) (pe_int) (fun _ _ => rfl)) (pe_str) (nomark _)) (pw_or1 (pt_cmpR (kNe K hr) (pe_ix (kIx K) (pv 4) (pe_int) (fun _ _ => rfl)) (pe_str) (nomark _))))))
   (pss_one (ps_ret (pe_non)))
   pss_nil)
  (pss_cons (ps_set (i := 6) nd rfl (.inl rfl) (pe_callTy (kTup K) (by rfl) E.f_tuple (by decide +kernel) (pa_cons (pe_slice (kSl K) (pv 4) (po_some (pe_int)) po_none) pa_nil)))
  (pss_cons (ps_if (PW.pt (pw_or (pt_not (kTru K (pe_callB (kAll K rfl) (by rfl) E.f_all (by decide +kernel) (pa_cons (pe_lc (own := [("one", 8)]) (g := gName 8) (tt := tYes) rfl nd (kSeq K (pe_op (kAdd K) (pe_slice (kSl K) (pv 4) (po_some (pe_int)) (po_some (pe_int))) (pe_slice (kSl K) (pv 4) (po_some (pe_int)) po_none))) (blkOk_by (N := N_read_row) (sc := defScope s_read_row) (by decide +kernel)) (fun _ _ _ _ _ => pg_name (i := 8) nd rfl (Or.inl rfl)) (fun _ _ _ _ _ => pts_nil) (fun _ _ _ _ _ => pc (ok_is_row_name E) hr (by decide) pass0 rfl (pa_cons (pv 8) pa_nil))) pa_nil)) (by intro _; rfl))) (pw_or1 (pt_cmpR op_gt (pe_callB (kLen K) (by rfl) E.f_len (by decide +kernel) (pa_cons (pv 6) pa_nil)) (pe_int) (nomark _)))))
   (pss_one (ps_ret (pe_non)))
   pss_nil)
  (pss_cons (ps_if (pt_cmpR xIsNot (pv 5) (pe_non) (nomark _))
   (pss_one (ps_ret (pe_tup (pa_cons (pe_ix (kIx K) (pv 4) (pe_int) (fun _ _ => rfl)) (pa_cons (pv 5) (pa_cons (pv 6) pa_nil))))))
   pss_nil)
  (pss_cons (ps_if (pt_cmpR (kNe K hr) (pe_slice xSlS (pv 3) po_none (po_some (pe_int))) (pe_str) (nomark _))
   (pss_one (ps_ret (pe_non)))
   pss_nil)
  (pss_cons (ps_set (i := 7) nd rfl (.inl rfl) (pc (ok_read_maker EW) hr (by decide) pass0 rfl (pa_cons (pe_slice xSlS (pv 3) (po_some (pe_int)) po_none) (pa_cons (pe_callB (kLen K) (by rfl) E.f_len (by decide +kernel) (pa_cons (pv 6) pa_nil)) pa_nil))))
  (pss_one (ps_ret (pe_ifExp (pt_cmpR xIs (pv 7) (pe_non) (nomark _)) (pe_non) (pe_tup (pa_cons (pe_ix (kIx K) (pv 4) (pe_int) (fun _ _ => rfl)) (pa_cons (pv 7) (pa_cons (pv 6) pa_nil))))))))))))))))), ?_⟩
  change (_ : TS) _ [some v0, none, none, none, none, none, none, none, none] H
  try dsimp only [cxOf, Cx.nox, Cx.blk]
  obtain ⟨r, rfl, ok, k⟩ := h
  have lr := linR_len ok
  have st := ok.st
  have okm := ok.mu
  have s3 := st.s3
  have s1 := st.s1
  obtain ⟨s0, c0, r0, pt, z0, zr, hc⟩ := part_row ok
  walk_at "w"
  refine w_m1 ?_
  walk_at "w"
  refine ⟨⟨_, rfl⟩, ?_⟩
  walk_at "w"
  refine r_part b_cl (sz_of (by omega)) fun p1 H1 n1 e1 g1 => ?_
  rw [pt] at g1
  obtain ⟨nm, mu0, src⟩ := r
  dsimp only at st okm s3 s1 hc g1
  generalize linR ⟨nm, mu0, src⟩ = ln at *
  have zs : (vS (stW nm src)).length = 3 + src.length := by rw [len_vS]; show src.length + 1 + 1 + 1 = _; omega
  have sg : SqT K H1 p1 [.str s0, .str c0, .str r0] := st_of g1
  walk_at "w"
  refine w_m1 ?_
  walk_at "w"
  refine ⟨⟨_, rfl⟩, ?_⟩
  walk_at "w"
  refine r_split b_sp (sz_of (by omega)) fun p2 H2 n2 e2 g2 => ?_
  have E2 := e1.trans e2
  walk_at "w"
  refine w_cut (M := fun σ' H' => ∃ pw, σ' = [some (.str ln), some (.str s0), some (.str c0), some (.str r0), some (.ref pw), some (unV mu0), none, none, none] ∧ Ex H H' ∧ H' pw = some (.lst (vS (stW nm src)))) ?_ ?_
  · dsimp only [List.set]
    rcases hc with ⟨k0, b, ws, rfl, rfl, rfl, sp⟩ | ⟨u, rfl, rfl, sp⟩
    · rw [sp] at g2
      walk_at "w"
      refine r_eqSS ?_
      rw [decide_eq_false (show ¬ ((":" : Str) = "") by decide +kernel)]
      walk_at "w"
      exact ⟨p2, rfl, E2, g2⟩
    · rw [sp, show (unW nm src u).map V.str = vS (stW nm src) ++ [.str "by", .str u] from unW_app nm src u] at g2
      have s2 : SqL K H2 p2 (vS (stW nm src) ++ [.str "by", .str u]) := sq_of g2
      walk_at "w"
      refine r_eqSS ?_
      rw [decide_eq_true rfl]
      walk_at "w"
      refine r_ixL s2 at_un2 ?_
      walk_at "w"
      refine r_neSt ?_
      rw [decide_eq_true rfl]
      walk_at "w"
      refine r_ixL s2 at_un1 ?_
      walk_at "w"
      refine ⟨.str u, .str u, sm_U okm.1, fun H3 e3 => ?_⟩
      rw [show unkV (.str u) = true from okm.1]
      have s3 := ex_l e3 s2
      walk_at "w"
      refine r_ixL s3 at_un1 ?_
      walk_at "w"
      refine r_slL s3 fun p4 H4 n4 e4 g4 => ?_
      rw [cutV_last2] at g4
      walk_at "w"
      exact ⟨p4, rfl, E2.trans (e3.trans e4), g4⟩
  rintro σ' H3 ⟨pw, rfl, E3, gw⟩
  have sw : SqL K H3 pw (vS (stW nm src)) := sq_of gw
  walk_at "w"
  refine r_ixL sw (atI_pos (v := .str "row") (by decide) rfl) ?_
  walk_at "w"
  refine r_neSt ?_
  rw [decide_eq_true rfl]
  walk_at "w"
  refine r_ixL sw (atI_pos (v := .str "of") (by decide) rfl) ?_
  walk_at "w"
  refine r_neSt ?_
  rw [decide_eq_true rfl]
  walk_at "w"
  refine r_slL sw fun p4 H4 n4 e4 g4 => ?_
  rw [show cutV (vS (stW nm src)) (some 3) none = vS src from cutV_from (xs := stW nm src) (by decide) V.str] at g4
  walk_at "w"
  intro ts H5 e5 sts
  have sw5 := ex_l (e4.trans e5) sw
  walk_at "w"
  refine i_seqL ?_
  walk_at "w"
  refine r_slL sw5 fun p6 H6 n6 e6 g6 => ?_
  rw [show cutV (vS (stW nm src)) (some 1) (some 2) = vS [nm] from (cutV_mid (xs := stW nm src) (by decide) (by decide) (by show (2 : Int) ≤ ((src.length + 1 + 1 + 1 : Nat) : Int); omega) V.str).trans rfl] at g6
  have sw6 := ex_l e6 sw5
  walk_at "w"
  refine r_slL sw6 fun p7 H7 n7 e7 g7 => ?_
  rw [show cutV (vS (stW nm src)) (some 3) none = vS src from cutV_from (xs := stW nm src) (by decide) V.str] at g7
  walk_at "w"
  refine r_addL (e7 _ _ g6) g7 (sz_of (by rw [len_vS, len_vS]; simp only [List.length_cons, List.length_nil]; omega)) fun p8 H8 n8 e8 g8 => ?_
  have s8 : SqL K H8 p8 (vS (nm :: src)) := sq_of g8
  walk_at "w"
  refine lcJ_list (v := fun _ => .bl true) s8 (by rw [len_vS, List.length_cons]; omega) (fun x => [_, _, _, _, _, _, _, _, some x]) (fun x => rfl) (fun x => rfl) (fun x H9 Q' e9 hx hq => ?_) (fun p9 H9 n9 e9 g9 => ?_)
  · obtain ⟨w, hw, rfl⟩ := List.mem_map.mp hx
    have okw : okW w = true := (List.mem_cons.mp hw).elim (fun e => e ▸ st.hn) (st.hs w)
    walk_at "w"
    refine ⟨.str w, .str w, sm_W okw, ?_⟩
    rw [show wordV (.str w) = true from okw]
    exact hq
  walk_at "w"
  refine r_all (bs := (vS (nm :: src)).map fun _ => true) (sq_of g9) (by simp [Function.comp]) ?_
  rw [show ((vS (nm :: src)).map fun _ => true).all id = true by simp]
  have e59 := ((e6.trans e7).trans e8).trans e9
  have sts9 := ex_t e59 sts
  have sw9 := ex_l e59 sw5
  have E9 := (E3.trans (e4.trans e5)).trans e59
  walk_at "w"
  rw [len_vS]
  walk_at "w"
  cases mu0 with
  | un u =>
    dsimp only [unV]
    walk_at "w"
    refine r_isNotS ?_
    walk_at "w"
    refine r_ixL sw9 (atI_pos (v := .str nm) (by decide) rfl) ?_
    walk_at "w"
    intro tR H10 n10 e10 gR
    exact k _ H10 (E9.trans e10) ⟨tR, .str u, ts, rfl, st_of gR, rfl, ex_t e10 sts9⟩
  | mk k0 b ws =>
    dsimp only [unV]
    rcases hc with ⟨k1, b1, ws1, em, rfl, rfl, sp⟩ | ⟨u, em, _⟩
    · cases em
      walk_at "w"
      refine r_slSto (k := 1) (sz_of (by omega)) ?_
      rw [sp_take]
      walk_at "w"
      refine r_neSt ?_
      rw [decide_eq_true rfl]
      walk_at "w"
      refine r_slSfrom (k := 1) (sz_of (by omega)) ?_
      rw [sp_drop]
      walk_at "w"
      rw [len_vS]
      refine ⟨k0, b, ws, rfl, by rw [okm.2], okm.1, fun x H10 e10 hm => ?_⟩
      have sw10 := ex_l e10 sw9
      walk_at "w"
      refine r_ixL sw10 (atI_pos (v := .str nm) (by decide) rfl) ?_
      walk_at "w"
      intro tR H11 n11 e11 gR
      exact k _ H11 (E9.trans (e10.trans e11)) ⟨tR, .ref x, ts, rfl, st_of gR, ⟨x, rfl, ex_mak e11 hm⟩, ex_t (e10.trans e11) sts9⟩
    · cases em
abbrev spRg (K : PySem.W.Frag) : Sp := sp1 fun v H Q _ => ((∃ g, v = .str (linG g) ∧ okW g = true ∧ ∀ H', Ex H H' → Q (.str g) H') ∨ (∃ r, v = .str (linR r) ∧ RwOk r ∧ ∀ H', Ex H H' → Q .non H'))
abbrev N_read_given : List Str := ["line"]
theorem sc_read_given : FnScope N_read_given ["line"] (defScope s_read_given) := ⟨rfl, rfl, rfl, by decide +kernel, rfl, by decide +kernel, by decide +kernel⟩
theorem ok_read_given {P : Program} {w : World} {K : PySem.W.Frag} {mg : Str → Option Value} {base : Heap} (E : Env P K mg) : Fn P w K mg base CX0 3 "read_given" (spRg K) := by
  obtain ⟨fd, F⟩ := E.dd_read_given
  refine Fn.mk0 F E.g_read_given sc_read_given sp1_len (fun _ _ _ _ _ _ us hl => match us, hl with | [_], _ => rfl) (fun cdv A outer s H vs Q X hr h => ?_)
  have nd := sc_read_given.nd
  obtain ⟨v0, rfl, h⟩ := h
  refine ⟨_, (pss_cons (ps_if (PW.pt (pw_or (pt_cmpR (kNe K hr) (pe_slice xSlS (pv 0) po_none (po_some (pe_int))) (pe_str) (nomark _)) (pw_or1 (pt_not (kTru K (pc (ok_is_row_name E) hr (by decide) pass0 rfl (pa_cons (pe_slice xSlS (pv 0) (po_some (pe_int)) po_none) pa_nil)) (by intro _; rfl))))))
   (pss_one (ps_ret (pe_non)))
   pss_nil)
  (pss_one (ps_ret (pe_slice xSlS (pv 0) (po_some (pe_int)) po_none)))), ?_⟩
  change (_ : TS) _ [some v0] H
  try dsimp only [cxOf, Cx.nox, Cx.blk]
  rcases h with ⟨g, rfl, ok, k⟩ | ⟨r, rfl, ok, k⟩
  · have lg := linG_len ok
    walk_at "w"
    refine r_slSto (k := 6) (sz_of (by omega)) ?_
    rw [gi_take]
    walk_at "w"
    refine r_neSt ?_
    rw [decide_eq_true rfl]
    walk_at "w"
    refine r_slSfrom (k := 6) (sz_of (by omega)) ?_
    rw [gi_drop]
    walk_at "w"
    refine ⟨.str g, .str g, sm_W ok, fun H1 e1 => ?_⟩
    rw [show wordV (.str g) = true from ok]
    walk_at "w"
    refine r_slSfrom (k := 6) (sz_of (by omega)) ?_
    rw [gi_drop]
    exact k _ e1
  · have lr := linR_len ok
    walk_at "w"
    refine r_slSto (k := 6) (sz_of (by omega)) ?_
    walk_at "w"
    refine r_neSt ?_
    rw [decide_eq_false (ro_take r)]
    walk_at "w"
    exact k _ (Ex.refl _)
abbrev spRw (K : PySem.W.Frag) : Sp := sp1 fun v H Q _ => ∃ p gs rs, v = .ref p ∧ SqE K H p (vS (linW gs rs)) ∧ WbOk gs rs ∧ ∀ x H', Ex H H' → WebAt K H' x gs rs → Q (.ref x) H'
abbrev N_read_web : List Str := ["lines", "givens", "rows", "number", "line", "given", "row"]
theorem sc_read_web : FnScope N_read_web ["lines"] (defScope s_read_web) := ⟨rfl, rfl, rfl, by decide +kernel, rfl, by decide +kernel, by decide +kernel⟩
theorem ok_read_web {P : Program} {w : World} {K : PySem.W.Frag} {mg : Str → Option Value} {base : Heap} (EW : EnvW P w K mg) : Fn P w K mg base CX0 13 "read_web" (spRw K) := by
  have E : Env P K mg := EW.env
  obtain ⟨fd, F⟩ := E.dd_read_web
  refine Fn.mk0 F E.g_read_web sc_read_web sp1_len (fun _ _ _ _ _ _ us hl => match us, hl with | [_], _ => rfl) (fun cdv A outer s H vs Q X hr h => ?_)
  have nd := sc_read_web.nd
  obtain ⟨v0, rfl, h⟩ := h
  refine ⟨_, (pss_cut (ps_if (PW.pt (pw_or (pt_not (kTru K (pc (ok_is_listedE E) hr (by decide) pass0 rfl (pa_cons (pv 0) pa_nil)) (by intro _; rfl))) (pw_or1 (pt_not (pt_chain op_le op_le (pe_int) (pe_callB (kLen K) (by rfl) E.f_len (by decide +kernel) (pa_cons (pv 0) pa_nil)) ((E.k_MOST_LINES).elim fun t e => pe_glob (v := .int 9) (by rfl) e ⟨t, rfl⟩))))))
   (pss_one (ps_never))
   pss_nil)
  (pss_cut (ps_if (pt_not (kTru K (pe_callB (kAll K rfl) (by rfl) E.f_all (by decide +kernel) (pa_cons (pe_lc (own := [("line", 4)]) (g := gName 4) (tt := tYes) rfl nd (kSeq K (pv 0)) (blkOk_by (N := N_read_web) (sc := defScope s_read_web) (by decide +kernel)) (fun _ _ _ _ _ => pg_name (i := 4) nd rfl (Or.inl rfl)) (fun _ _ _ _ _ => pts_nil) (fun _ _ _ _ _ => pe_callB (kIsi K) (by rfl) E.f_isinstance (by decide +kernel) (pa_cons (pv 4) (pa_cons (pe_bltn (v := .ty "str") (by rfl) E.f_str (by decide +kernel) rfl) pa_nil)))) pa_nil)) (by intro _; rfl)))
   (pss_one (ps_never))
   pss_nil)
  (pss_cons (ps_set (i := 1) nd rfl (.inl rfl) (pe_lst (pa_nil)))
  (pss_cons (ps_set (i := 2) nd rfl (.inl rfl) (pe_lst (pa_nil)))
  (pss_cons (ps_for PassesOwn.never rfl (pi_enumE K (by rfl) E.f_enumerate (pa_cons (pv 0) pa_nil)) (kGtup K rfl (pgs_cons (pg_name (i := 3) nd rfl (.inl rfl)) (pgs_cons (pg_name (i := 4) nd rfl (.inl rfl)) (pgs_nil))))
   (pss_cons (ps_set (i := 5) nd rfl (.inl rfl) (pc (ok_read_given E) hr (by decide) pass0 rfl (pa_cons (pv 4) pa_nil)))
  (pss_cons (ps_set (i := 6) nd rfl (.inl rfl) (pe_ifExp (pt_cmpR xIs (pv 5) (pe_non) (nomark _)) (pc (ok_read_row EW) hr (by decide) pass0 rfl (pa_cons (pv 4) pa_nil)) (pe_non)))
  (pss_cons (ps_if (PW.pt (pw_or (PW.pt (pw_and (pt_cmpR xIs (pv 5) (pe_non) (nomark _)) (pw_and1 (pt_cmpR xIs (pv 6) (pe_non) (nomark _))))) (pw_or1 (PW.pt (pw_and (pt_cmpR xIsNot (pv 5) (pe_non) (nomark _)) (pw_and1 (pt_cmpR op_gt (pe_callB (kLen K) (by rfl) E.f_len (by decide +kernel) (pa_cons (pv 2) pa_nil)) (pe_int) (nomark _))))))))
   (pss_one (ps_never))
   pss_nil)
  (pss_one (ps_if (pt_cmpR xIs (pv 5) (pe_non) (nomark _))
   (pss_one (ps_expr (kBM K (pe_bm PySem.F.plainAttrs_list PySem.F.slot_list_append PySem.F.type_list_append mt_append (pv 2) (pa_cons (pv 6) pa_nil)))))
   (pss_one (ps_expr (kBM K (pe_bm PySem.F.plainAttrs_list PySem.F.slot_list_append PySem.F.type_list_append mt_append (pv 1) (pa_cons (pv 5) pa_nil)))))))))))
  (pss_one (ps_ret (pmk (ok_Web2 E) hr (by decide) pass0 rfl (pa_cons (pv 1) (pa_cons (pv 2) pa_nil)))))))))), ?_⟩
  change (_ : TS) _ [some v0, none, none, none, none, none, none] H
  try dsimp only [cxOf, Cx.nox, Cx.blk]
  obtain ⟨p, gs, rs, rfl, s, ok, k⟩ := h
  have zl : (linW gs rs).length = gs.length + rs.length := by unfold linW; rw [List.length_append, List.length_map, List.length_map]
  have g3 := ok.g3
  have r6 := ok.r6
  have r1 := ok.r1
  refine w_cut (M := fun σ' H' => σ' = [some (.ref p), none, none, none, none, none, none] ∧ Ex H H') ?_ ?_
  · walk_at "w"
    refine .inl ⟨p, _, rfl, s, fun H1 e1 => ?_⟩
    walk_at "w"
    refine r_lenE (ex_e e1 s) ?_
    rw [len_vS, zl]
    walk_at "w"
    exact ⟨rfl, e1⟩
  rintro σ' H1 ⟨rfl, e1⟩
  have s1 := ex_e e1 s
  refine w_cut (M := fun σ' H' => σ' = [some (.ref p), none, none, none, none, none, none] ∧ Ex H1 H') ?_ ?_
  · walk_at "w"
    have fin : ∀ (p2 : Addr) (H2 : Hp) (Q' : VK), Ex H1 H2 → H2 p2 = some (.lst ((vS (linW gs rs)).map fun _ => V.bl true)) → Q' (.bl true) H2 → rAll K [.ref p2] H2 Q' := fun p2 H2 Q' e2 hp q => by
      refine r_all (bs := (vS (linW gs rs)).map fun _ => true) (sq_of hp) (by simp [Function.comp]) ?_
      rw [show ((vS (linW gs rs)).map fun _ => true).all id = true by simp]
      exact q
    have hz : (vS (linW gs rs)).length ≤ 100000 := by rw [len_vS, zl]; omega
    rcases s1 with s1 | s1
    · refine i_seqL ?_
      walk_at "w"
      refine lcJ_list (v := fun _ => .bl true) s1 hz (fun x => [_, _, _, _, some x, _, _]) (fun x => rfl) (fun x => rfl) (fun x H4 Q' e4 hx hq => ?_) (fun p2 H4 n4 e4 hp => ?_)
      · obtain ⟨w, hw, rfl⟩ := List.mem_map.mp hx
        walk_at "w"
        exact hq _ (Ex.refl _)
      walk_at "w"
      refine fin p2 H4 _ e4 hp ?_
      walk_at "w"
      exact ⟨rfl, e4⟩
    · refine i_seqT ?_
      walk_at "w"
      refine lcJ_tup (v := fun _ => .bl true) s1 hz (fun x => [_, _, _, _, some x, _, _]) (fun x => rfl) (fun x => rfl) (fun x H4 Q' e4 hx hq => ?_) (fun p2 H4 n4 e4 hp => ?_)
      · obtain ⟨w, hw, rfl⟩ := List.mem_map.mp hx
        walk_at "w"
        exact hq _ (Ex.refl _)
      walk_at "w"
      refine fin p2 H4 _ e4 hp ?_
      walk_at "w"
      exact ⟨rfl, e4⟩
  rintro σ' H2 ⟨rfl, e2⟩
  have s2 := ex_e e2 s1
  have E2 := e1.trans e2
  walk_at "w"
  intro pg H3 n3 e3 g3'
  walk_at "w"
  intro pr H4 n4 e4 g4
  have hgr : pg ≠ pr := ne_of_none g3' n4
  have nG : H pg = none := none_ex E2 n3
  have nR : H pr = none := none_ex (E2.trans e3) n4
  have s4 := ex_e (e3.trans e4) s2
  have E4 := E2.trans (e3.trans e4)
  have g3'' := e4 _ _ g3'
  walk_at "w"
  refine i_enumE ?_
  walk_at "w"
  refine ⟨p, vS (linW gs rs), rfl, ?_⟩
  rcases s with s | s
  · refine .inl ⟨ex_l E4 s, ?_⟩
    refine for_enumL (xs := vS (linW gs rs)) (Pv := (fun i σ' H' => ∃ (a b c d : Option V) (ys : List V), σ' = [some (.ref p), some (.ref pg), some (.ref pr), a, b, c, d] ∧ Ex H H' ∧ H' pg = some (.lst (vS (gs.take i))) ∧ H' pr = some (.lst ys) ∧ RowsAt K H' ys (rs.take (i - gs.length)))) ⟨_, _, _, _, [], rfl, E4, g3'', g4, by rw [Nat.zero_sub]; exact .nil⟩ (fun i σ' H' _ h => by obtain ⟨_, _, _, _, _, _, e, _⟩ := h; exact ex_l e s) ?_ ?_
    · rintro i x σ' H' T hi ⟨a, b, c, d, ys, rfl, e, gg, gr, hy⟩ nT
      have eT : Ex H' (upd H' T (.tup [.int (i : Nat), x])) := Ex.new nT
      have sT : SqT K (upd H' T (.tup [.int (i : Nat), x])) T [.int (i : Nat), x] := st_of upd_same
      have eA := e.trans eT
      have ggA := eT _ _ gg
      have grA := eT _ _ gr
      have hyA := ex_rows eT hy
      obtain ⟨w, hw, rfl⟩ := getElem?_vS hi
      have hlw := (List.getElem?_eq_some_iff.mp hw).1
      have zy := rows_len hy
      rw [List.length_take] at zy
      generalize upd H' T (.tup [.int (i : Nat), .str w]) = HA at *
      walk_at "w"
      unfold linW at hw
      by_cases c : i < gs.length
      · rw [List.getElem?_append_left (by rw [List.length_map]; exact c), List.getElem?_map, List.getElem?_eq_getElem c] at hw
        have hg0 : gs[i]? = some (gs[i]) := List.getElem?_eq_getElem c
        generalize gs[i] = g at *
        cases hw
        have okg := ok.gok g (List.mem_of_getElem? hg0)
        refine .inl ⟨g, rfl, okg, fun H5 e5 => ?_⟩
        have ggB := e5 _ _ ggA
        have grB := e5 _ _ grA
        have slg : SqL K H5 pg (vS (gs.take i)) := sq_of ggB
        have slr : SqL K H5 pr ys := sq_of grB
        have y0 : ys.length = 0 := by omega
        walk_at "w"
        refine r_isS ?_
        walk_at "w"
        refine r_isS ?_
        walk_at "w"
        refine r_isNotS ?_
        walk_at "w"
        refine r_isS ?_
        walk_at "w"
        refine r_app (K := K) ggB (sz_lt (by rw [len_vS, List.length_take]; omega)) ?_
        walk_at "w"
        refine ⟨_, _, _, _, ys, rfl, Ex.mut (eA.trans e5) nG, ?_, by rw [upd_ne hgr.symm]; exact grB, ?_⟩
        · rw [upd_same, List.take_add_one, hg0]
          show _ = some (HO.lst (List.map V.str _))
          rw [List.map_append]
          rfl
        · rw [show i + 1 - gs.length = i - gs.length by omega]
          exact rows_k (KEx.upd ggB) (ex_rows e5 hyA)
      · rw [List.getElem?_append_right (by rw [List.length_map]; omega), List.length_map, List.getElem?_map] at hw
        cases hr : rs[i - gs.length]? with
        | none => rw [hr] at hw; cases hw
        | some r =>
          rw [hr] at hw
          cases hw
          have okr := ok.rok r (List.mem_of_getElem? hr)
          refine .inr ⟨r, rfl, okr, fun H5 e5 => ?_⟩
          walk_at "w"
          refine ⟨r, rfl, okr, fun v H6 e6 hrow => ?_⟩
          have ggB := e6 _ _ (e5 _ _ ggA)
          have grB := e6 _ _ (e5 _ _ grA)
          have slg : SqL K H6 pg (vS (gs.take i)) := sq_of ggB
          have slr : SqL K H6 pr ys := sq_of grB
          obtain ⟨pq, _, _, rfl, _⟩ := id hrow
          walk_at "w"
          refine r_app (K := K) grB (sz_lt (by omega)) ?_
          walk_at "w"
          refine ⟨_, _, _, _, ys ++ [.ref pq], rfl, Ex.mut ((eA.trans e5).trans e6) nR, ?_, upd_same, ?_⟩
          · rw [upd_ne hgr, ggB, List.take_of_length_le (by omega), List.take_of_length_le (by omega)]
          · rw [show i + 1 - gs.length = i - gs.length + 1 by omega, List.take_add_one, hr]
            exact rows_k (KEx.upd grB) (rows_snoc (ex_rows (e5.trans e6) hyA) hrow)
    · rintro σ' H' ⟨a, b, c, d, ys, rfl, e, gg, gr, hy⟩
      rw [len_vS, zl, List.take_of_length_le (by omega)] at gg
      rw [len_vS, zl, Nat.add_sub_cancel_left, List.take_length] at hy
      have sgg : SqL K H' pg (vS gs) := sq_of gg
      have sgr : SqL K H' pr ys := sq_of gr
      walk_at "w"
      refine mk_web (.inl sgg) sgr hy ok fun x H9 e9 hw => ?_
      exact k x H9 (e.trans e9) hw
  · refine .inr ⟨ex_t E4 s, ?_⟩
    refine for_enumT (xs := vS (linW gs rs)) (Pv := (fun i σ' H' => ∃ (a b c d : Option V) (ys : List V), σ' = [some (.ref p), some (.ref pg), some (.ref pr), a, b, c, d] ∧ Ex H H' ∧ H' pg = some (.lst (vS (gs.take i))) ∧ H' pr = some (.lst ys) ∧ RowsAt K H' ys (rs.take (i - gs.length)))) ⟨_, _, _, _, [], rfl, E4, g3'', g4, by rw [Nat.zero_sub]; exact .nil⟩ (fun i σ' H' _ h => by obtain ⟨_, _, _, _, _, _, e, _⟩ := h; exact ex_t e s) ?_ ?_
    · rintro i x σ' H' T hi ⟨a, b, c, d, ys, rfl, e, gg, gr, hy⟩ nT
      have eT : Ex H' (upd H' T (.tup [.int (i : Nat), x])) := Ex.new nT
      have sT : SqT K (upd H' T (.tup [.int (i : Nat), x])) T [.int (i : Nat), x] := st_of upd_same
      have eA := e.trans eT
      have ggA := eT _ _ gg
      have grA := eT _ _ gr
      have hyA := ex_rows eT hy
      obtain ⟨w, hw, rfl⟩ := getElem?_vS hi
      have hlw := (List.getElem?_eq_some_iff.mp hw).1
      have zy := rows_len hy
      rw [List.length_take] at zy
      generalize upd H' T (.tup [.int (i : Nat), .str w]) = HA at *
      walk_at "w"
      unfold linW at hw
      by_cases c : i < gs.length
      · rw [List.getElem?_append_left (by rw [List.length_map]; exact c), List.getElem?_map, List.getElem?_eq_getElem c] at hw
        have hg0 : gs[i]? = some (gs[i]) := List.getElem?_eq_getElem c
        generalize gs[i] = g at *
        cases hw
        have okg := ok.gok g (List.mem_of_getElem? hg0)
        refine .inl ⟨g, rfl, okg, fun H5 e5 => ?_⟩
        have ggB := e5 _ _ ggA
        have grB := e5 _ _ grA
        have slg : SqL K H5 pg (vS (gs.take i)) := sq_of ggB
        have slr : SqL K H5 pr ys := sq_of grB
        have y0 : ys.length = 0 := by omega
        walk_at "w"
        refine r_isS ?_
        walk_at "w"
        refine r_isS ?_
        walk_at "w"
        refine r_isNotS ?_
        walk_at "w"
        refine r_isS ?_
        walk_at "w"
        refine r_app (K := K) ggB (sz_lt (by rw [len_vS, List.length_take]; omega)) ?_
        walk_at "w"
        refine ⟨_, _, _, _, ys, rfl, Ex.mut (eA.trans e5) nG, ?_, by rw [upd_ne hgr.symm]; exact grB, ?_⟩
        · rw [upd_same, List.take_add_one, hg0]
          show _ = some (HO.lst (List.map V.str _))
          rw [List.map_append]
          rfl
        · rw [show i + 1 - gs.length = i - gs.length by omega]
          exact rows_k (KEx.upd ggB) (ex_rows e5 hyA)
      · rw [List.getElem?_append_right (by rw [List.length_map]; omega), List.length_map, List.getElem?_map] at hw
        cases hr : rs[i - gs.length]? with
        | none => rw [hr] at hw; cases hw
        | some r =>
          rw [hr] at hw
          cases hw
          have okr := ok.rok r (List.mem_of_getElem? hr)
          refine .inr ⟨r, rfl, okr, fun H5 e5 => ?_⟩
          walk_at "w"
          refine ⟨r, rfl, okr, fun v H6 e6 hrow => ?_⟩
          have ggB := e6 _ _ (e5 _ _ ggA)
          have grB := e6 _ _ (e5 _ _ grA)
          have slg : SqL K H6 pg (vS (gs.take i)) := sq_of ggB
          have slr : SqL K H6 pr ys := sq_of grB
          obtain ⟨pq, _, _, rfl, _⟩ := id hrow
          walk_at "w"
          refine r_app (K := K) grB (sz_lt (by omega)) ?_
          walk_at "w"
          refine ⟨_, _, _, _, ys ++ [.ref pq], rfl, Ex.mut ((eA.trans e5).trans e6) nR, ?_, upd_same, ?_⟩
          · rw [upd_ne hgr, ggB, List.take_of_length_le (by omega), List.take_of_length_le (by omega)]
          · rw [show i + 1 - gs.length = i - gs.length + 1 by omega, List.take_add_one, hr]
            exact rows_k (KEx.upd grB) (rows_snoc (ex_rows (e5.trans e6) hyA) hrow)
    · rintro σ' H' ⟨a, b, c, d, ys, rfl, e, gg, gr, hy⟩
      rw [len_vS, zl, List.take_of_length_le (by omega)] at gg
      rw [len_vS, zl, Nat.add_sub_cancel_left, List.take_length] at hy
      have sgg : SqL K H' pg (vS gs) := sq_of gg
      have sgr : SqL K H' pr ys := sq_of gr
      walk_at "w"
      refine mk_web (.inl sgg) sgr hy ok fun x H9 e9 hw => ?_
      exact k x H9 (e.trans e9) hw

end
section
theorem lay_dS {l : List Str} (h : ∀ s ∈ l, okW s = true) : (dS l).canLay0 = true ∧ (dS l).depth = 1 := by
  refine ⟨(strs_lay h).1, ?_⟩
  show PyData.depthAll (l.map .str) + 1 = 1
  rw [(strs_lay h).2]
theorem okU_lay {w : Str} (h : okU w = true) : (PyData.str w).canLay0 = true := by
  have h1 := (Bool.and_eq_true_iff.mp (show ((decide (1 ≤ (w.length : Int)) && decide ((w.length : Int) ≤ 2)) && w.cps.toList.all lwr) = true from h)).2
  show w.cps.all (· < 0x110000) = true
  rw [← Array.all_toList, List.all_eq_true]
  intro c hc
  have := List.all_eq_true.mp h1 c hc
  unfold lwr at this
  simp at this
  simp
  omega
theorem lay_dMk (k : Int) (b : List Dd) (ws : List (List Dd)) : (dMk k b ws).canLay0 = true ∧ (dMk k b ws).depth ≤ 3 := by
  obtain ⟨a1, a2⟩ := lay_gDs b
  obtain ⟨c1, c2⟩ := lay_dWs ws
  refine ⟨?_, ?_⟩
  · show (true && (PyData.canLayAll0 (b.map gD) && (PyData.canLayAll0 (ws.map dW) && true))) = true
    rw [a1, c1]
    rfl
  · show max 0 (max (PyData.depthAll (b.map gD) + 1) (max (PyData.depthAll (ws.map dW) + 1) 0)) + 1 ≤ 3
    rw [a2]
    omega
theorem shaped_dMk (k : Int) (b : List Dd) (ws : List (List Dd)) : SeqAt.shaped (dMk k b ws) = true := by
  obtain ⟨a, b⟩ := lay_dMk k b ws
  show (PyData.canLay0 _ && decide (PyData.depth _ ≤ 64)) = true
  rw [a, decide_eq_true (Nat.le_trans b (by decide))]
  rfl
theorem lay_dMu {n : Nat} {m : Mu} (h : MuOk n m) : (dMu m).canLay0 = true ∧ (dMu m).depth ≤ 3 := by
  cases m with
  | mk k b ws => exact lay_dMk k b ws
  | un u => exact ⟨okU_lay h.1, Nat.zero_le _⟩
theorem lay_dRw {r : Rw} (h : RwOk r) : (dRw r).canLay0 = true ∧ (dRw r).depth ≤ 4 := by
  obtain ⟨a1, a2⟩ := lay_dMu h.mu
  obtain ⟨c1, c2⟩ := lay_dS h.src
  refine ⟨?_, ?_⟩
  · show ((PyData.str r.nm).canLay0 && ((dMu r.mu).canLay0 && ((dS r.src).canLay0 && true))) = true
    rw [a1, c1, okW_ok h.nm]
    rfl
  · show max 0 (max (dMu r.mu).depth (max (dS r.src).depth 0)) + 1 ≤ 4
    omega
theorem lay_dRs : ∀ {rs : List Rw}, (∀ r ∈ rs, RwOk r) → PyData.canLayAll0 (rs.map dRw) = true ∧ PyData.depthAll (rs.map dRw) ≤ 4
  | [], _ => ⟨rfl, Nat.zero_le _⟩
  | r :: rs, h => by
    obtain ⟨a1, a2⟩ := lay_dRw (h r List.mem_cons_self)
    obtain ⟨c1, c2⟩ := lay_dRs (rs := rs) fun x hx => h x (List.mem_cons_of_mem _ hx)
    refine ⟨?_, ?_⟩
    · show ((dRw r).canLay0 && PyData.canLayAll0 (rs.map dRw)) = true
      rw [a1, c1]
      rfl
    · show max (dRw r).depth (PyData.depthAll (rs.map dRw)) ≤ 4
      omega
theorem shaped_dWb {gs : List Str} {rs : List Rw} (h : WbOk gs rs) : SeqAt.shaped (dWb gs rs) = true := by
  obtain ⟨a1, a2⟩ := lay_dRs h.rok
  obtain ⟨c1, c2⟩ := lay_dS h.gok
  show (((dS gs).canLay0 && (PyData.canLayAll0 (rs.map dRw) && true)) && decide (max (dS gs).depth (max (PyData.depthAll (rs.map dRw) + 1) 0) + 1 ≤ 64)) = true
  rw [a1, c1, decide_eq_true (by omega)]
  rfl
theorem eqv_dMk (k k' : Int) (b b' : List Dd) (ws ws' : List (List Dd)) : PyData.eqv (dMk k b ws) (dMk k' b' ws') = decide (k = k' ∧ b = b' ∧ ws = ws') := by
  show (PyData.eqv (.int k) (.int k') && (PyData.eqv (dW b) (dW b') && (PyData.eqvAll (ws.map dW) (ws'.map dW) && true))) = _
  rw [eqv_dW, eqv_dWs, show PyData.eqv (.int k) (.int k') = decide (k = k') by show (k == k') = _; by_cases h : k = k' <;> simp [h]]
  simp only [Bool.decide_and, Bool.and_true]
theorem eqv_dMu (m m' : Mu) : PyData.eqv (dMu m) (dMu m') = decide (m = m') := by
  cases m with
  | mk k b ws => cases m' with
    | mk k' b' ws' =>
      show PyData.eqv (dMk k b ws) (dMk k' b' ws') = _
      rw [eqv_dMk]
      simp only [Mu.mk.injEq]
    | un u => rfl
  | un u => cases m' with
    | mk k' b' ws' => rfl
    | un u' =>
      show PyData.eqv (.str u) (.str u') = _
      rw [eqv_str]
      simp only [Mu.un.injEq]
theorem eqv_dRw (r r' : Rw) : PyData.eqv (dRw r) (dRw r') = decide (r = r') := by
  show (PyData.eqv (.str r.nm) (.str r'.nm) && (PyData.eqv (dMu r.mu) (dMu r'.mu) && (PyData.eqv (dS r.src) (dS r'.src) && true))) = _
  rw [eqv_str, eqv_dMu, eqv_dS]
  obtain ⟨a, b, c⟩ := r
  obtain ⟨a', b', c'⟩ := r'
  simp only [Rw.mk.injEq, Bool.decide_and, Bool.and_true]
theorem eqv_dRs : ∀ xs ys : List Rw, PyData.eqvAll (xs.map dRw) (ys.map dRw) = decide (xs = ys)
  | [], [] => rfl
  | [], _ :: _ => rfl
  | _ :: _, [] => rfl
  | x :: xs, y :: ys => by
    show (PyData.eqv (dRw x) (dRw y) && PyData.eqvAll (xs.map dRw) (ys.map dRw)) = _
    rw [eqv_dRs xs ys, eqv_dRw]
    simp only [List.cons.injEq, Bool.decide_and]
theorem eqv_dWb (gs gs' : List Str) (rs rs' : List Rw) : PyData.eqv (dWb gs rs) (dWb gs' rs') = decide (gs = gs' ∧ rs = rs') := by
  show (PyData.eqv (dS gs) (dS gs') && (PyData.eqvAll (rs.map dRw) (rs'.map dRw) && true)) = _
  rw [eqv_dS, eqv_dRs]
  simp only [Bool.decide_and, Bool.and_true]
/-! webs built -/
abbrev spBuilt (K : PySem.W.Frag) : Sp := sp1 fun v H Q _ => ∃ gs rs, Dp K H v (dWb gs rs) ∧ WbOk gs rs ∧ ∀ x H', Ex H H' → WebAt K H' x gs rs → Q (.ref x) H'
abbrev N__law_built : List Str := ["web", "rows", "name", "maker", "sources"]
theorem sc__law_built : FnScope N__law_built ["web"] (defScope s__law_built) := ⟨rfl, rfl, rfl, by decide +kernel, rfl, by decide +kernel, by decide +kernel⟩
theorem ok__law_built {P : Program} {w : World} {K : PySem.W.Frag} {mg : Str → Option Value} {base : Heap} (E : Env P K mg) : Fn P w K mg base CX0 12 "_law_built" (spBuilt K) := by
  obtain ⟨fd, F⟩ := E.dd__law_built
  refine Fn.mk0 F E.g__law_built sc__law_built sp1_len (fun _ _ _ _ _ _ us hl => match us, hl with | [_], _ => rfl) (fun cdv A outer s H vs Q X hr h => ?_)
  have nd := sc__law_built.nd
  obtain ⟨v0, rfl, h⟩ := h
  refine ⟨_, (pss_cons (ps_set (i := 1) nd rfl (.inl rfl) (pe_lst (pa_nil)))
  (pss_cons (ps_for PassesOwn.never rfl (kSeq K (pe_ix (kIx K) (pv 0) (pe_int) (fun _ _ => rfl))) (kGtup K rfl (pgs_cons (pg_name (i := 2) nd rfl (.inl rfl)) (pgs_cons (pg_name (i := 3) nd rfl (.inl rfl)) (pgs_cons (pg_name (i := 4) nd rfl (.inl rfl)) (pgs_nil)))))
   (pss_one (ps_expr (kBM K (pe_bm PySem.F.plainAttrs_list PySem.F.slot_list_append PySem.F.type_list_append mt_append (pv 1) (pa_cons (pe_tup (pa_cons (pv 2) (pa_cons (pe_ifExp (kTru K (pe_callB (kIsi K) (by rfl) E.f_isinstance (by decide +kernel) (pa_cons (pv 3) (pa_cons (pe_bltn (v := .ty "str") (by rfl) E.f_str (by decide +kernel) rfl) pa_nil))) (by intro _; rfl)) (pv 3) (pc (ok__law_made E) hr (by decide) pass0 rfl (pa_cons (pv 3) pa_nil))) (pa_cons (pv 4) pa_nil)))) pa_nil))))))
  (pss_one (ps_ret (pmk (ok_Web2 E) hr (by decide) pass0 rfl (pa_cons (pe_ix (kIx K) (pv 0) (pe_int) (fun _ _ => rfl)) (pa_cons (pv 1) pa_nil))))))), ?_⟩
  change (_ : TS) _ [some v0, none, none, none, none] H
  try dsimp only [cxOf, Cx.nox, Cx.blk]
  obtain ⟨gs, rs, hd, ok, k⟩ := h
  obtain ⟨a, pg, pr, xs, rfl, s, sg, sr, hx⟩ := dp_web hd
  have zx := dpAll_len hx
  rw [List.length_map] at zx
  have r6 := ok.r6
  walk_at "w"
  intro p1 H1 n1 e1 g1
  walk_at "w"
  refine i_seqT ?_
  walk_at "w"
  refine for_tup (xs := xs) (Pv := fun i σ' H' => ∃ (u v w : Option V) (ys : List V), σ' = [some (.ref a), some (.ref p1), u, v, w] ∧ Ex H H' ∧ H' p1 = some (.lst ys) ∧ RowsAt K H' ys (rs.take i)) ⟨_, _, _, [], rfl, e1, g1, .nil⟩ (fun i σ' H' _ h => by obtain ⟨_, _, _, _, _, e, _⟩ := h; exact ex_t e sr) ?_ ?_
  · rintro i x σ' A hi ⟨u, v, w, ys, rfl, e, g, hy⟩
    obtain ⟨r, hri, hrow⟩ := dpRs_get hx hi
    have okr := ok.rok r (List.mem_of_getElem? hri)
    obtain ⟨t, vm, q, rfl, st, mu, sq⟩ := dp_row (dp_ex e hrow)
    have hyl := rows_len hy
    rw [List.length_take] at hyl
    have htk : rs.take (i + 1) = rs.take i ++ [r] := by rw [List.take_add_one, hri]; rfl
    rw [htk]
    have slt : SqL K A p1 ys := sq_of g
    have okm := okr.mu
    obtain ⟨nm, mu0, src⟩ := r
    dsimp only at *
    walk_at "w"
    cases mu0 with
    | un u0 =>
      replace mu : Dp K A vm (.str u0) := mu
      cases mu
      walk_at "w"
      intro tR A2 n2 e2 gR
      have g2 := e2 _ _ g
      walk_at "w"
      refine r_app (K := K) g2 (sz_lt (by omega)) ?_
      walk_at "w"
      exact ⟨_, _, _, ys ++ [.ref tR], rfl, Ex.mut (e.trans e2) n1, upd_same, rows_k (KEx.upd g2) (rows_snoc (ex_rows e2 hy) ⟨tR, _, q, rfl, st_of gR, rfl, ex_t e2 sq⟩)⟩
    | mk k0 b ws =>
      replace mu : Dp K A vm (dMk k0 b ws) := mu
      obtain ⟨pm, pb, pw, xs2, rfl, sm, _⟩ := dp_mk mu
      walk_at "w"
      refine ⟨k0, b, ws, mu, okm.1, fun xm A2 e2 hm => ?_⟩
      walk_at "w"
      intro tR A3 n3 e3 gR
      have g3 := e3 _ _ (e2 _ _ g)
      walk_at "w"
      refine r_app (K := K) g3 (sz_lt (by omega)) ?_
      walk_at "w"
      exact ⟨_, _, _, ys ++ [.ref tR], rfl, Ex.mut (e.trans (e2.trans e3)) n1, upd_same, rows_k (KEx.upd g3) (rows_snoc (ex_rows (e2.trans e3) hy) ⟨tR, _, q, rfl, st_of gR, ⟨xm, rfl, ex_mak e3 hm⟩, ex_t (e2.trans e3) sq⟩)⟩
  · rintro σ' A ⟨u, v, w, ys, rfl, e, g, hy⟩
    rw [zx, List.take_length] at hy
    have slt : SqL K A p1 ys := sq_of g
    walk_at "w"
    refine mk_web (.inr (ex_t e sg)) slt hy ok fun x H9 e9 hw => ?_
    exact k x H9 (e.trans e9) hw
theorem wb_len {gs : List Str} {rs : List Rw} (ok : WbOk gs rs) : rs.length ≤ 6 := ok.r6
abbrev N__law_same_web : List Str := ["told", "web", "k", "row", "due"]
theorem sc__law_same_web : FnScope N__law_same_web ["told", "web"] (defScope s__law_same_web) := ⟨rfl, rfl, rfl, by decide +kernel, rfl, by decide +kernel, by decide +kernel⟩
theorem ok__law_same_web {P : Program} {w : World} {K : PySem.W.Frag} {mg : Str → Option Value} {base : Heap} (E : Env P K mg) : Fn P w K mg base CX0 1 "_law_same_web" (sp2 fun t w H Q _ => ∃ x gs rs, t = .ref x ∧ WebAt K H x gs rs ∧ Dp K H w (dWb gs rs) ∧ WbOk gs rs ∧ ∀ H', Ex H H' → Q (.bl true) H') := by
  obtain ⟨fd, F⟩ := E.dd__law_same_web
  refine Fn.mk0 F E.g__law_same_web sc__law_same_web sp2_len (fun _ _ _ _ _ _ us hl => match us, hl with | [_, _], _ => rfl) (fun cdv A outer s H vs Q X hr h => ?_)
  have nd := sc__law_same_web.nd
  obtain ⟨v0, v1, rfl, h⟩ := h
  refine ⟨_, (pss_cut (ps_if (PW.pt (pw_or (pt_not (kTru K (pe_callB (kIsi K) (by rfl) E.f_isinstance (by decide +kernel) (pa_cons (pv 0) (pa_cons (pe_glob (v := .ref (He.ga K "Web")) (by rfl) E.g_Web rfl) pa_nil))) (by intro _; rfl))) (pw_or (pt_cmpR (kNe K hr) (kFld K (pv 0) rfl) (pe_ix (kIx K) (pv 1) (pe_int) (fun _ _ => rfl)) (nomark _)) (pw_or1 (pt_not (kTru K (pe_callB (kIsi K) (by rfl) E.f_isinstance (by decide +kernel) (pa_cons (kFld K (pv 0) rfl) (pa_cons (pe_bltn (v := .ty "tuple") (by rfl) E.f_tuple (by decide +kernel) rfl) pa_nil))) (by intro _; rfl)))))))
   (pss_one (ps_ret (pe_bl)))
   pss_nil)
  (pss_cut (ps_if (pt_cmpR (kNe K hr) (pe_callB (kLen K) (by rfl) E.f_len (by decide +kernel) (pa_cons (kFld K (pv 0) rfl) pa_nil)) (pe_callB (kLen K) (by rfl) E.f_len (by decide +kernel) (pa_cons (pe_ix (kIx K) (pv 1) (pe_int) (fun _ _ => rfl)) pa_nil)) (nomark _))
   (pss_one (ps_ret (pe_bl)))
   pss_nil)
  (pss_cons (ps_for PassesOwn.never rfl (pi_range1 (by rfl) E.f_range (pa_cons (pe_callB (kLen K) (by rfl) E.f_len (by decide +kernel) (pa_cons (pe_ix (kIx K) (pv 1) (pe_int) (fun _ _ => rfl)) pa_nil)) pa_nil)) (pg_name (i := 2) nd rfl (.inl rfl))
   (pss_cons (ps_par (i := 3) (j := 4) rfl nd rfl rfl (by decide) rfl rfl (pa_cons (pe_ix (kIx K) (kFld K (pv 0) rfl) (pv 2) (fun _ _ => rfl)) (pa_cons (pe_ix (kIx K) (pe_ix (kIx K) (pv 1) (pe_int) (fun _ _ => rfl)) (pv 2) (fun _ _ => rfl)) pa_nil)) rfl)
  (pss_cons (ps_if (PW.pt (pw_or (pt_not (kTru K (pe_callB (kIsi K) (by rfl) E.f_isinstance (by decide +kernel) (pa_cons (pv 3) (pa_cons (pe_bltn (v := .ty "tuple") (by rfl) E.f_tuple (by decide +kernel) rfl) pa_nil))) (by intro _; rfl))) (pw_or (pt_cmpR (kNe K hr) (pe_callB (kLen K) (by rfl) E.f_len (by decide +kernel) (pa_cons (pv 3) pa_nil)) (pe_int) (nomark _)) (pw_or (pt_cmpR (kNe K hr) (pe_ix (kIx K) (pv 3) (pe_int) (fun _ _ => rfl)) (pe_ix (kIx K) (pv 4) (pe_int) (fun _ _ => rfl)) (nomark _)) (pw_or1 (pt_cmpR (kNe K hr) (pe_ix (kIx K) (pv 3) (pe_int) (fun _ _ => rfl)) (pe_ix (kIx K) (pv 4) (pe_int) (fun _ _ => rfl)) (nomark _)))))))
   (pss_one (ps_ret (pe_bl)))
   pss_nil)
  (pss_one (ps_if (kTru K (pe_callB (kIsi K) (by rfl) E.f_isinstance (by decide +kernel) (pa_cons (pe_ix (kIx K) (pv 4) (pe_int) (fun _ _ => rfl)) (pa_cons (pe_bltn (v := .ty "str") (by rfl) E.f_str (by decide +kernel) rfl) pa_nil))) (by intro _; rfl))
   (pss_one (ps_if (pt_cmpR (kNe K hr) (pe_ix (kIx K) (pv 3) (pe_int) (fun _ _ => rfl)) (pe_ix (kIx K) (pv 4) (pe_int) (fun _ _ => rfl)) (nomark _))
   (pss_one (ps_ret (pe_bl)))
   pss_nil))
   (pss_one (ps_if (PW.pt (pw_or (pt_not (kTru K (pe_callB (kIsi K) (by rfl) E.f_isinstance (by decide +kernel) (pa_cons (pe_ix (kIx K) (pv 3) (pe_int) (fun _ _ => rfl)) (pa_cons (pe_glob (v := .ref (He.ga K "Maker")) (by rfl) E.g_Maker rfl) pa_nil))) (by intro _; rfl))) (pw_or1 (pt_cmpR (kNe K hr) (pe_tup (pa_cons (kFld K (pe_ix (kIx K) (pv 3) (pe_int) (fun _ _ => rfl)) rfl) (pa_cons (kFld K (pe_ix (kIx K) (pv 3) (pe_int) (fun _ _ => rfl)) rfl) (pa_cons (kFld K (pe_ix (kIx K) (pv 3) (pe_int) (fun _ _ => rfl)) rfl) pa_nil)))) (pe_ix (kIx K) (pv 4) (pe_int) (fun _ _ => rfl)) (nomark _)))))
   (pss_one (ps_ret (pe_bl)))
   pss_nil)))))))
  (pss_one (ps_ret (pe_bl)))))), ?_⟩
  change (_ : TS) _ [some v0, some v1, none, none, none] H
  try dsimp only [cxOf, Cx.nox, Cx.blk]
  obtain ⟨x, gs, rs, rfl, hw, hd, ok, k⟩ := h
  obtain ⟨a, pg, pr, xs, rfl, s, sg, sr, hx⟩ := dp_web hd
  have zx := dpAll_len hx
  rw [List.length_map] at zx
  have r6 := ok.r6
  refine w_cut (M := fun σ' H' => σ' = [some (.ref x), some (.ref a), none, none, none] ∧ Ex H H') ?_ ?_
  · walk_at "w"
    refine r_isiC (insB_ok E.ins_Web E.c_Web (web_mine hw).choose_spec.choose_spec) E.kit_Web_self ?_
    walk_at "w"
    refine r_webGi E hw fun b sb => ?_
    walk_at "w"
    refine r_neTS sb sg ok.gok ok.gok ?_
    rw [decide_eq_true rfl]
    walk_at "w"
    refine r_webRo E hw fun b2 xs2 sb2 _ => ?_
    walk_at "w"
    exact ⟨rfl, Ex.refl _⟩
  rintro σ' H1 ⟨rfl, e1⟩
  have hw1 := ex_web e1 hw
  refine w_cut (M := fun σ' H' => σ' = [some (.ref x), some (.ref a), none, none, none] ∧ Ex H H') ?_ ?_
  · walk_at "w"
    refine r_webRo E hw1 fun b2 xs2 sb2 hr2 => ?_
    have z2 := rows_len hr2
    have sr1 := ex_t e1 sr
    have s1 := ex_t e1 s
    walk_at "w"
    exact ⟨rfl, e1⟩
  rintro σ' H2 ⟨rfl, e2⟩
  have s2 := ex_t e2 s
  have sr2 := ex_t e2 sr
  walk_at "w"
  refine for_range (lo := 0) (Pv := fun i σ' H' => ∃ (u v w : Option V), σ' = [some (.ref x), some (.ref a), u, v, w] ∧ Ex H H') ⟨_, _, _, rfl, e2⟩ ?_ ?_
  · rintro i σ' A hi ⟨u, v, w, rfl, eA⟩
    have hwA := ex_web eA hw
    have sA := ex_t eA s
    have srA := ex_t eA sr
    rw [Int.zero_add]
    have hlt : i < rs.length := by omega
    have hri : rs[i]? = some rs[i] := List.getElem?_eq_getElem hlt
    generalize rs[i] = r at *
    have okr := ok.rok r (List.mem_of_getElem? hri)
    have hxi : xs[i]? = some (xs[i]'(by omega)) := List.getElem?_eq_getElem _
    obtain ⟨r', hri', hrow⟩ := dpRs_get (dpAll_ex eA hx) hxi
    generalize xs[i] = vd at *
    rw [hri] at hri'
    cases hri'
    obtain ⟨td, vm, qd, rfl, std, mud, sqd⟩ := dp_row hrow
    walk_at "w"
    refine r_webRo E hwA fun b2 xs2 sb2 hr2 => ?_
    obtain ⟨vr, hv, pr2, vm2, q2, rfl, st2, mu2, sq2⟩ := rows_get2 hr2 hri
    walk_at "w"
    refine r_ixT sb2 (atI_pos (by omega) (by rw [Int.toNat_natCast]; exact hv)) ?_
    walk_at "w"
    refine r_ixT srA (atI_pos (by omega) (by rw [Int.toNat_natCast]; exact hxi)) ?_
    walk_at "w"
    refine ⟨_, _, rfl, ?_⟩
    dsimp only [List.set]
    walk_at "w"
    refine r_neSt ?_
    rw [decide_eq_true rfl]
    walk_at "w"
    refine r_neTS sq2 sqd okr.src okr.src ?_
    rw [decide_eq_true rfl]
    obtain ⟨nm, mu0, src⟩ := r
    dsimp only at *
    walk_at "w"
    cases mu0 with
    | un u0 =>
      replace mud : Dp K A vm (.str u0) := mud
      cases mud
      cases mu2
      walk_at "w"
      refine r_neSt ?_
      rw [decide_eq_true rfl]
      walk_at "w"
      exact ⟨_, _, _, rfl, eA⟩
    | mk k0 b ws =>
      replace mud : Dp K A vm (dMk k0 b ws) := mud
      obtain ⟨pm, pb, pw, xs3, rfl, sm, _⟩ := dp_mk mud
      obtain ⟨xm, rfl, hm⟩ := mu2
      walk_at "w"
      refine r_isiC (insB_ok E.ins_Maker E.c_Maker (mak_mine2 hm).choose_spec.choose_spec) E.kit_Maker_self ?_
      walk_at "w"
      refine r_makIn E hm ?_
      walk_at "w"
      refine r_makBe E hm fun pb2 sb3 => ?_
      walk_at "w"
      refine r_makWa E hm fun pw2 xs4 sw2 dw2 => ?_
      walk_at "w"
      intro tN A2 nN eN gN
      have st2' := ex_t eN st2
      have std' := ex_t eN std
      walk_at "w"
      refine r_neD (.tup (st_of gN) (.cons (.int k0) (.cons (dp_of_dW (ex_t eN sb3)) (.cons (.tup (ex_t eN sw2) (dpAll_ex eN dw2)) .nil)))) (dp_ex eN mud) (shaped_dMk k0 b ws) (shaped_dMk k0 b ws) ?_
      rw [show PyData.eqv (.tuple [.int k0, dW b, .tuple (ws.map dW)]) (dMk k0 b ws) = true from (eqv_dMk k0 k0 b b ws ws).trans (decide_eq_true ⟨rfl, rfl, rfl⟩)]
      walk_at "w"
      exact ⟨_, _, _, rfl, eA.trans eN⟩
  · rintro σ' A ⟨u, v, w, rfl, eA⟩
    walk_at "w"
    exact k _ eA

end
section
theorem LwOk.set {gs : List Str} {rs : List Rw} {i : Nat} {r r' : Rw} (h : LwOk gs rs) (hi : rs[i]? = some r) (hn : r'.nm = r.nm) (hs : r'.src = r.src) (hm : MuOk r.src.length r'.mu) (hb : mkOf r'.mu) : LwOk gs (rs.set i r') := by
  have hnm : (rs.set i r').map Rw.nm = rs.map Rw.nm := by
    rw [List.map_set, hn]
    obtain ⟨hlt, e⟩ := List.getElem?_eq_some_iff.mp hi
    have hlt' : i < (rs.map Rw.nm).length := by rw [List.length_map]; exact hlt
    have : (rs.map Rw.nm)[i] = r.nm := by rw [List.getElem_map, e]
    rw [← this]
    exact List.set_getElem_self hlt'
  have hr := List.mem_of_getElem? hi
  have hw := h.wb
  have okr := hw.rok r hr
  refine ⟨⟨hw.g3, by rw [List.length_set]; exact hw.r1, by rw [List.length_set]; exact hw.r6, hw.gok, fun x hx => ?_, by rw [hnm]; exact hw.nd, fun x hx s hs' => ?_⟩, by rw [hnm]; exact h.nm, fun x hx => ?_⟩
  · rcases List.mem_or_eq_of_mem_set hx with hx | rfl
    · exact hw.rok x hx
    · exact ⟨by rw [hn]; exact okr.nm, by rw [hs]; exact okr.src, by rw [hs]; exact okr.s3, by rw [hs]; exact hm⟩
  · rw [hnm]
    rcases List.mem_or_eq_of_mem_set hx with hx | rfl
    · exact hw.mem x hx s hs'
    · exact hw.mem r hr s (by rw [← hs]; exact hs')
  · rcases List.mem_or_eq_of_mem_set hx with hx | rfl
    · exact h.b5 x hx
    · exact hb
theorem ixN_in {n : Nat} {i : Int} (h0 : 0 ≤ i) (h1 : i < n) : ixN n i = some i.toNat := by
  unfold ixN
  first
    | (rw [if_neg (by omega), if_pos (by omega)])
    | (rw [if_pos (by omega), if_pos (by omega)])
    | simp [h0, h1]
/-- the law's names of unknowns -/
def unL : Int → List Str
  | 1 => ["f", "by", "f"]
  | 2 => ["k", "ab", "k"]
  | _ => ["of", "of", "m"]
theorem unL_ok (n : Int) (h : n = 1 ∨ n = 2 ∨ n = 3) : (unL n).length = 3 ∧ ∀ u ∈ unL n, okU u = true ∧ unkN u = n := by
  rcases h with rfl | rfl | rfl
  · exact ⟨rfl, by decide +kernel⟩
  · exact ⟨rfl, by decide +kernel⟩
  · exact ⟨rfl, by decide +kernel⟩
theorem dpAll_set {K : PySem.W.Frag} {H : Hp} {v : V} {d : PyData} : ∀ {vs : List V} {ds : List PyData} (i : Nat), DpAll K H vs ds → Dp K H v d → DpAll K H (vs.set i v) (ds.set i d)
  | _, _, _, .nil, _ => .nil
  | _, _, 0, .cons _ t, d => .cons d t
  | _, _, i + 1, .cons h t, d => .cons h (dpAll_set i t d)
def MenuAt (H : Hp) (pm l1 l2 l3 : Addr) : Prop := H pm = some (.dK [(.inl 1, .ref l1), (.inl 2, .ref l2), (.inl 3, .ref l3)]) ∧ H l1 = some (.lst (vS (unL 1))) ∧ H l2 = some (.lst (vS (unL 2))) ∧ H l3 = some (.lst (vS (unL 3)))
abbrev spOpen (K : PySem.W.Frag) : Sp := sp3 fun s v n H Q _ => ∃ (x : Addr) (gs : List Str) (rs : List Rw), s = .ref x ∧ Dp K H v (dWb gs rs) ∧ n = .int 3 ∧ LwOk gs rs ∧ SrcAt H x ∧ ∀ w rs' H', Fr x H H' → SrcAt H' x → Dp K H' w (dWb gs rs') → LwOk gs rs' → Q w H'
abbrev N__law_opened : List Str := ["source", "web", "most", "menu", "rows", "turn", "place", "name", "maker", "sources"]
theorem sc__law_opened : FnScope N__law_opened ["source", "web", "most"] (defScope s__law_opened) := ⟨rfl, rfl, rfl, by decide +kernel, rfl, by decide +kernel, by decide +kernel⟩
theorem ok__law_opened {P : Program} {w : World} {K : PySem.W.Frag} {mg : Str → Option Value} {base : Heap} (E : Env P K mg) : Fn P w K mg base CX0 2 "_law_opened" (spOpen K) := by
  obtain ⟨fd, F⟩ := E.dd__law_opened
  refine Fn.mk0 F E.g__law_opened sc__law_opened sp3_len (fun _ _ _ _ _ _ us hl => match us, hl with | [_, _, _], _ => rfl) (fun cdv A outer s H vs Q X hr h => ?_)
  have nd := sc__law_opened.nd
  obtain ⟨v0, v1, v2, rfl, h⟩ := h
  refine ⟨_, (pss_cut (ps_set (i := 3) nd rfl (.inl rfl) (pe_disp (pps_cons (pe_int) (pe_lst (pa_cons (pe_str) (pa_cons (pe_str) (pa_cons (pe_str) pa_nil)))) (pps_cons (pe_int) (pe_lst (pa_cons (pe_str) (pa_cons (pe_str) (pa_cons (pe_str) pa_nil)))) (pps_cons (pe_int) (pe_lst (pa_cons (pe_str) (pa_cons (pe_str) (pa_cons (pe_str) pa_nil)))) (pps_nil)))) rfl rfl (List.cons_ne_nil _ _) (by decide)))
  (pss_cut (ps_set (i := 4) nd rfl (.inl rfl) (pe_callTy (kLst K) (by rfl) E.f_list (by decide +kernel) (pa_cons (pe_ix (kIx K) (pv 1) (pe_int) (fun _ _ => rfl)) pa_nil)))
  (pss_cons (ps_for PassesOwn.never rfl (pi_range1 (by rfl) E.f_range (pa_cons (pc (ok__law_pick E) hr (by decide) pass0 rfl (pa_cons (pv 0) (pa_cons (pe_op (kAdd K) (pv 2) (pe_int)) pa_nil))) pa_nil)) (pg_name (i := 5) nd rfl (.inl rfl))
   (pss_cons (ps_set (i := 6) nd rfl (.inl rfl) (pc (ok__law_pick E) hr (by decide) pass0 rfl (pa_cons (pv 0) (pa_cons (pe_callB (kLen K) (by rfl) E.f_len (by decide +kernel) (pa_cons (pv 4) pa_nil)) pa_nil))))
  (pss_cons (ps_asg (pe_ix (kIx K) (pv 4) (pv 6) (fun _ _ => rfl)) (kGtup K rfl (pgs_cons (pg_name (i := 7) nd rfl (.inl rfl)) (pgs_cons (pg_name (i := 8) nd rfl (.inl rfl)) (pgs_cons (pg_name (i := 9) nd rfl (.inl rfl)) (pgs_nil))))))
  (pss_one (ps_asg (pe_tup (pa_cons (pv 7) (pa_cons (pe_ix (kIx K) (kDGet hr (pv 3) (pe_callB (kLen K) (by rfl) E.f_len (by decide +kernel) (pa_cons (pv 9) pa_nil)) (fun _ _ => rfl)) (pc (ok__law_pick E) hr (by decide) pass0 rfl (pa_cons (pv 0) (pa_cons (pe_int) pa_nil))) (fun _ _ => rfl)) (pa_cons (pv 9) pa_nil)))) (pg_sub (pv 4) (pv 6) set_list))))))
  (pss_one (ps_ret (pe_tup (pa_cons (pe_ix (kIx K) (pv 1) (pe_int) (fun _ _ => rfl)) (pa_cons (pe_callTy (kTup K) (by rfl) E.f_tuple (by decide +kernel) (pa_cons (pv 4) pa_nil)) pa_nil)))))))), ?_⟩
  change (_ : TS) _ [some v0, some v1, some v2, none, none, none, none, none, none, none] H
  try dsimp only [cxOf, Cx.nox, Cx.blk]
  obtain ⟨x, gs, rs, rfl, hd, rfl, ok, hsrc, k⟩ := h
  obtain ⟨a, pg, pr, xs, rfl, s, sg, sr, hx⟩ := dp_web hd
  have zx := dpAll_len hx
  rw [List.length_map] at zx
  have r6 := ok.wb.r6
  have r1' := ok.wb.r1
  refine w_cut (M := fun σ' H' => ∃ pm l1 l2 l3, σ' = [some (.ref x), some (.ref a), some (.int 3), some (.ref pm), none, none, none, none, none, none] ∧ Ex H H' ∧ (H pm = none ∧ H l1 = none ∧ H l2 = none ∧ H l3 = none) ∧ MenuAt H' pm l1 l2 l3) ?_ ?_
  · walk_at "w"
    refine w_disp fun pm npm => ?_
    dsimp only [tPairs]
    walk_at "w"
    intro l1 B1 m1 d1 h1
    walk_at "w"
    intro l2 B2 m2 d2 h2
    walk_at "w"
    intro l3 B3 m3 d3 h3
    have d12 := d1.trans d2
    have d123 := d12.trans d3
    have c1 : pm ≠ l1 := ne_of_none upd_same m1
    have c2 : pm ≠ l2 := ne_of_none (d1 _ _ upd_same) m2
    have c3 : pm ≠ l3 := ne_of_none (d12 _ _ upd_same) m3
    refine ⟨d123 _ _ upd_same, [(.inl 1, .ref l1), (.inl 2, .ref l2), (.inl 3, .ref l3)], rfl, (show 3 ≤ 15 by decide), ?_⟩
    walk_at "w"
    refine ⟨pm, l1, l2, l3, rfl, Ex.mut ((Ex.new npm).trans d123) npm, ⟨npm, none_ex (Ex.new npm) m1, none_ex ((Ex.new npm).trans d1) m2, none_ex ((Ex.new npm).trans d12) m3⟩, ⟨?_, ?_, ?_, ?_⟩⟩
    · rw [upd_same]
      rfl
    · rw [upd_ne c1.symm]
      exact d3 _ _ (d2 _ _ h1)
    · rw [upd_ne c2.symm]
      exact d3 _ _ h2
    · rw [upd_ne c3.symm]
      exact h3
  rintro σ' H1 ⟨pm, l1, l2, l3, rfl, e1, ⟨npm, m1, m2, m3⟩, mn⟩
  have s1 := ex_t e1 s
  have sr1 := ex_t e1 sr
  refine w_cut (M := fun σ' H' => ∃ pl, σ' = [some (.ref x), some (.ref a), some (.int 3), some (.ref pm), some (.ref pl), none, none, none, none, none] ∧ Ex H1 H' ∧ H1 pl = none ∧ H' pl = some (.lst xs)) ?_ ?_
  · walk_at "w"
    intro pl H2 n2 e2 g2
    walk_at "w"
    exact ⟨pl, rfl, e2, n2, g2⟩
  rintro σ' H2 ⟨pl, rfl, e2, npl, gl⟩
  have q2 := (hsrc.ex e1).ex e2
  have E2 := e1.trans e2
  have hpl : pl ≠ x := (hsrc.ex e1).ne npl
  have hpm : pm ≠ x := hsrc.ne npm
  have h1x : l1 ≠ x := hsrc.ne m1
  have h2x : l2 ≠ x := hsrc.ne m2
  have h3x : l3 ≠ x := hsrc.ne m3
  have nplH : H pl = none := none_ex e1 npl
  have cpl : pm ≠ pl := ne_of_none mn.1 npl
  have c1l : l1 ≠ pl := ne_of_none mn.2.1 npl
  have c2l : l2 ≠ pl := ne_of_none mn.2.2.1 npl
  have c3l : l3 ≠ pl := ne_of_none mn.2.2.2 npl
  have keep : ∀ {A A' : Hp}, MenuAt A pm l1 l2 l3 → Fr x A A' → MenuAt A' pm l1 l2 l3 := fun m f => ⟨f _ _ hpm m.1, f _ _ h1x m.2.1, f _ _ h2x m.2.2.1, f _ _ h3x m.2.2.2⟩
  walk_at "w"
  refine ⟨x, 3 + 1, rfl, rfl, by decide, by decide, q2, fun r1 H3 r10 r11 q3 f3 => ?_⟩
  walk_at "w"
  refine for_range (lo := 0) (Pv := fun i σ' H' => ∃ (ys : List V) (rs' : List Rw) (u v w z t : Option V), σ' = [some (.ref x), some (.ref a), some (.int 3), some (.ref pm), some (.ref pl), u, v, w, z, t] ∧ Fr x H H' ∧ SrcAt H' x ∧ MenuAt H' pm l1 l2 l3 ∧ H' pl = some (.lst ys) ∧ DpAll K H' ys (rs'.map dRw) ∧ rs'.length = rs.length ∧ LwOk gs rs')
    ⟨xs, rs, _, _, _, _, _, rfl, (Fr.of E2).trans f3, q3, keep mn ((Fr.of e2).trans f3), f3 _ _ hpl gl, dpAll_tex (Fr.tex f3 q2) (imm_dRs rs) (dpAll_ex E2 hx), rfl, ok⟩ ?_ ?_
  · rintro i σ' A hi ⟨ys, rs', u, v, w, z, t, rfl, fA, qA, mA, gA, hy, hl, okA⟩
    have zy := dpAll_len hy
    rw [List.length_map] at zy
    have slp : SqL K A pl ys := sq_of gA
    walk_at "w"
    refine ⟨x, (ys.length : Nat), rfl, rfl, by omega, by omega, qA, fun r2 A1 r20 r21 q1 f1 => ?_⟩
    have g1 := f1 _ _ hpl gA
    have m1' := keep mA f1
    have hy1 := dpAll_tex (Fr.tex f1 qA) (imm_dRs rs') hy
    have hlt : r2.toNat < ys.length := by omega
    have hyi : ys[r2.toNat]? = some (ys[r2.toNat]'hlt) := List.getElem?_eq_getElem _
    obtain ⟨r, hri, hrow⟩ := dpRs_get hy1 hyi
    generalize ys[r2.toNat] = vr at *
    have okr := okA.wb.rok r (List.mem_of_getElem? hri)
    have st := okr.st
    obtain ⟨td, vm, qd, rfl, std, mud, sqd⟩ := dp_row hrow
    walk_at "w"
    refine r_ixL (sq_of g1) (atI_pos r20 hyi) ?_
    have zs : (vS r.src).length = r.src.length := len_vS _
    walk_at "w"
    refine w_dget ?_
    walk_at "w"
    rw [zs]
    have s1' := st.s1
    have s3' := st.s3
    have hn : (r.src.length : Int) = 1 ∨ (r.src.length : Int) = 2 ∨ (r.src.length : Int) = 3 := by omega
    obtain ⟨uz, uo⟩ := unL_ok _ hn
    have hln : ∃ ln, valV (κ := Key) [(.inl 1, .ref l1), (.inl 2, .ref l2), (.inl 3, .ref l3)] (.inl (r.src.length : Int)) = some (.ref ln) ∧ ln ≠ x ∧ A1 ln = some (.lst (vS (unL (r.src.length : Int)))) := by
      rcases hn with h | h | h
      · rw [h]; exact ⟨l1, rfl, h1x, m1'.2.1⟩
      · rw [h]; exact ⟨l2, rfl, h2x, m1'.2.2.1⟩
      · rw [h]; exact ⟨l3, rfl, h3x, m1'.2.2.2⟩
    obtain ⟨ln, hv, lx, gln⟩ := hln
    refine ⟨pm, .ref ln, rfl, by rw [← hv]; exact DGet.k (k := .inl (r.src.length : Int)) m1'.1, ?_⟩
    walk_at "w"
    refine ⟨x, 3, rfl, rfl, by decide, by decide, q1, fun r3 A2 r30 r31 q2' f2 => ?_⟩
    have hlt3 : r3.toNat < (unL (r.src.length : Int)).length := by omega
    have hu3 : (unL (r.src.length : Int))[r3.toNat]? = some ((unL (r.src.length : Int))[r3.toNat]'hlt3) := List.getElem?_eq_getElem _
    obtain ⟨uok, un⟩ := uo _ (List.getElem_mem hlt3)
    generalize (unL (r.src.length : Int))[r3.toNat] = u0 at *
    refine r_ixL (sq_of (f2 _ _ lx gln)) (atI_pos r30 (gvS hu3)) ?_
    walk_at "w"
    intro tR A3 n3 e3 gR
    have F12 : Fr x A A3 := (f1.trans f2).trans (Fr.of e3)
    have g3 := F12 _ _ hpl gA
    have mm := keep mA F12
    walk_at "w"
    refine r_set g3 (ixN_in r20 (by omega)) ?_
    have sqd3 : SqT K A3 qd (vS r.src) := ex_t e3 (tex_t (Fr.tex f2 q1) sqd)
    refine ⟨ys.set r2.toNat (.ref tR), rs'.set r2.toNat ⟨r.nm, .un u0, r.src⟩, _, _, _, _, _, rfl, fr_updN (Fr.refl _ _) nplH (fA.trans F12), src_fr hpl.symm Fr.upd (q2'.ex e3), ⟨by rw [upd_ne cpl]; exact mm.1, by rw [upd_ne c1l]; exact mm.2.1, by rw [upd_ne c2l]; exact mm.2.2.1, by rw [upd_ne c3l]; exact mm.2.2.2⟩, upd_same, ?_, by rw [List.length_set]; exact hl, okA.set hri rfl rfl ⟨uok, by omega, un⟩ trivial⟩
    rw [List.map_set]
    exact dpAll_tex (TEx.upd g3) (by rw [← List.map_set]; exact imm_dRs _) (dpAll_set _ (dpAll_tex (Fr.tex F12 qA) (imm_dRs rs') hy) (dp_of_row (r := ⟨r.nm, .un u0, r.src⟩) (st_of gR) (.str u0) sqd3))
  · rintro σ' A ⟨ys, rs', u, v, w, z, t, rfl, fA, qA, mA, gA, hy, hl, okA⟩
    have sA : SqT K A a [.ref pg, .ref pr] := tex_t (Fr.tex fA hsrc) s
    have sgA : SqT K A pg (vS gs) := tex_t (Fr.tex fA hsrc) sg
    have slp : SqL K A pl ys := sq_of gA
    walk_at "w"
    intro tR A1 e1' sR
    walk_at "w"
    intro tW A2 n2 e2' gW
    refine k _ rs' A2 (fA.trans (Fr.of (e1'.trans e2'))) (qA.ex (e1'.trans e2')) (.tup (st_of gW) (.cons (dp_of_strs (ex_t (e1'.trans e2') sgA)) (.cons (.tup (ex_t e2' sR) (dpAll_ex (e1'.trans e2') hy)) .nil))) okA
theorem cutV_last1 {l : List V} {a : V} : cutV (l ++ [a]) none (some (-1)) = l := by
  unfold cutV
  have h1 : HT.sIx (l ++ [a]).length 0 none = 0 := HT.sIx_none ..
  have h2 : HT.sIx (l ++ [a]).length (l ++ [a]).length (some (-1)) = l.length := by
    rw [List.length_append]
    unfold HT.sIx
    simp
    try omega
  rw [h1, h2, Nat.sub_zero, List.drop_zero, List.take_left]
theorem at_last {l : List V} {a : V} : atI (l ++ [a]) (-1) = some a := by
  refine atI_neg (by decide) (by rw [List.length_append]; simp; omega) ?_
  have : ((-1 : Int) + ((l ++ [a]).length : Int)).toNat = l.length := by rw [List.length_append]; simp; omega
  rw [this, List.getElem?_append_right (Nat.le_refl _), Nat.sub_self]
  rfl
theorem dpAll_unsnoc {K : PySem.W.Frag} {H : Hp} {d : PyData} : ∀ {xs : List V} {ds : List PyData}, DpAll K H xs (ds ++ [d]) → ∃ xl v, xs = xl ++ [v] ∧ DpAll K H xl ds ∧ Dp K H v d
  | _, [], .cons h .nil => ⟨[], _, rfl, .nil, h⟩
  | _, _ :: _, .cons h t => by
    obtain ⟨xl, v, rfl, a, b⟩ := dpAll_unsnoc t
    exact ⟨_ :: xl, v, rfl, .cons h a, b⟩
theorem snoc_of {α : Type} : ∀ {l : List α}, l ≠ [] → ∃ i x, l = i ++ [x]
  | [], h => absurd rfl h
  | [x], _ => ⟨[], x, rfl⟩
  | x :: y :: l, _ => by
    obtain ⟨i, z, e⟩ := snoc_of (l := y :: l) (List.cons_ne_nil _ _)
    exact ⟨x :: i, z, by rw [e]; rfl⟩
theorem like_refl (rs : List Rw) : Like rs rs := ⟨rfl, fun i r r' h h' => by
  rw [h] at h'
  cases h'
  cases r.mu <;> exact trivial⟩
theorem like_last {rl : List Rw} {r r' : Rw} (h : LikeR r'.mu r.mu) : Like (rl ++ [r']) (rl ++ [r]) := by
  refine ⟨by rw [List.length_append, List.length_append]; rfl, fun i a b ha hb => ?_⟩
  by_cases c : i < rl.length
  · rw [List.getElem?_append_left c] at ha hb
    rw [ha] at hb
    cases hb
    cases a.mu <;> exact trivial
  · rw [List.getElem?_append_right (by omega)] at ha hb
    by_cases c2 : i - rl.length = 0
    · rw [c2] at ha hb
      cases ha
      cases hb
      exact h
    · rw [List.getElem?_eq_none (by simp; omega)] at ha
      cases ha
theorem WbOk.last {gs : List Str} {rl : List Rw} {r r' : Rw} (h : WbOk gs (rl ++ [r])) (hn : r'.nm = r.nm) (ok : RwOk r') (hs : ∀ s ∈ r'.src, s ∈ gs ++ (rl ++ [r]).map Rw.nm) : WbOk gs (rl ++ [r']) := by
  have hnm : (rl ++ [r']).map Rw.nm = (rl ++ [r]).map Rw.nm := by
    rw [List.map_append, List.map_append]
    show _ ++ [r'.nm] = _ ++ [r.nm]
    rw [hn]
  have hl : (rl ++ [r']).length = (rl ++ [r]).length := by rw [List.length_append, List.length_append]; rfl
  refine ⟨h.g3, by rw [hl]; exact h.r1, by rw [hl]; exact h.r6, h.gok, fun x hx => ?_, by rw [hnm]; exact h.nd, fun x hx s hs' => ?_⟩
  · rcases List.mem_append.mp hx with hx | hx
    · exact h.rok x (List.mem_append_left _ hx)
    · rw [List.mem_singleton.mp hx]; exact ok
  · rw [hnm]
    rcases List.mem_append.mp hx with hx | hx
    · exact h.mem x (List.mem_append_left _ hx) s hs'
    · rw [List.mem_singleton.mp hx] at hs'; exact hs s hs'
theorem okZ : okW "zzz" = true := by decide +kernel
theorem LwOk.zzz {gs : List Str} {rs : List Rw} (h : LwOk gs rs) (hg : gs.length < 3) : WbOk (gs ++ [("zzz" : Str)]) rs := by
  have hw := h.wb
  have hz : ("zzz" : Str) ∉ gs ++ rs.map Rw.nm := fun hm => menu_zzz (h.nm.mem _ hm)
  refine ⟨by rw [List.length_append]; exact hg, hw.r1, hw.r6, fun g hg => ?_, hw.rok, ?_, fun r hr s hs => ?_⟩
  · rcases List.mem_append.mp hg with hg | hg
    · exact hw.gok g hg
    · rw [List.mem_singleton.mp hg]; exact okZ
  · have p : (gs ++ [("zzz" : Str)] ++ rs.map Rw.nm).Perm ((gs ++ rs.map Rw.nm) ++ [("zzz" : Str)]) := by
      rw [List.append_assoc, List.append_assoc]
      exact (List.perm_append_comm).append_left gs
    rw [p.nodup_iff, List.nodup_append]
    refine ⟨hw.nd, List.nodup_cons.mpr ⟨List.not_mem_nil, List.nodup_nil⟩, fun a ha b hb => ?_⟩
    rw [List.mem_singleton.mp hb]
    rintro rfl
    exact hz ha
  · rcases List.mem_append.mp (hw.mem r hr s hs) with h | h
    · exact List.mem_append_left _ (List.mem_append_left _ h)
    · exact List.mem_append_right _ h
abbrev spOther (K : PySem.W.Frag) : Sp := sp2 fun s v H Q _ => ∃ (x : Addr) (gs : List Str) (rs : List Rw), s = .ref x ∧ Dp K H v (dWb gs rs) ∧ LwOk gs rs ∧ SrcAt H x ∧ ∀ w gs' rs' H', Fr x H H' → SrcAt H' x → Dp K H' w (dWb gs' rs') → WbOk gs' rs' → Like rs' rs → Q w H'
abbrev N__law_other : List Str := ["source", "web", "way", "row"]
theorem sc__law_other : FnScope N__law_other ["source", "web"] (defScope s__law_other) := ⟨rfl, rfl, rfl, by decide +kernel, rfl, by decide +kernel, by decide +kernel⟩
theorem ok__law_other {P : Program} {w : World} {K : PySem.W.Frag} {mg : Str → Option Value} {base : Heap} (E : Env P K mg) : Fn P w K mg base CX0 2 "_law_other" (spOther K) := by
  obtain ⟨fd, F⟩ := E.dd__law_other
  refine Fn.mk0 F E.g__law_other sc__law_other sp2_len (fun _ _ _ _ _ _ us hl => match us, hl with | [_, _], _ => rfl) (fun cdv A outer s H vs Q X hr h => ?_)
  have nd := sc__law_other.nd
  obtain ⟨v0, v1, rfl, h⟩ := h
  refine ⟨_, (pss_cut (ps_set (i := 2) nd rfl (.inl rfl) (pc (ok__law_pick E) hr (by decide) pass0 rfl (pa_cons (pv 0) (pa_cons (pe_int) pa_nil))))
  (pss_cut (ps_set (i := 3) nd rfl (.inl rfl) (pe_ix (kIx K) (pe_ix (kIx K) (pv 1) (pe_int) (fun _ _ => rfl)) (pe_un un_neg (pe_int)) (fun _ _ => rfl)))
  (pss_cut (ps_if (PW.pt (pw_and (pt_cmpR (kEq K hr) (pv 2) (pe_int) (nomark _)) (pw_and1 (kTru K (pe_callB (kIsi K) (by rfl) E.f_isinstance (by decide +kernel) (pa_cons (pe_ix (kIx K) (pv 3) (pe_int) (fun _ _ => rfl)) (pa_cons (pe_bltn (v := .ty "tuple") (by rfl) E.f_tuple (by decide +kernel) rfl) pa_nil))) (by intro _; rfl)))))
   (pss_one (ps_ret (pe_tup (pa_cons (pe_ix (kIx K) (pv 1) (pe_int) (fun _ _ => rfl)) (pa_cons (pe_op (kAdd K) (pe_slice (kSl K) (pe_ix (kIx K) (pv 1) (pe_int) (fun _ _ => rfl)) po_none (po_some (pe_un un_neg (pe_int)))) (pe_tup (pa_cons (pe_tup (pa_cons (pe_ix (kIx K) (pv 3) (pe_int) (fun _ _ => rfl)) (pa_cons (pe_tup (pa_cons (pe_ix (kIx K) (pe_ix (kIx K) (pv 3) (pe_int) (fun _ _ => rfl)) (pe_int) (fun _ _ => rfl)) (pa_cons (pe_op (kAdd K) (pe_ix (kIx K) (pe_ix (kIx K) (pv 3) (pe_int) (fun _ _ => rfl)) (pe_int) (fun _ _ => rfl)) (pe_tup (pa_cons (pe_int) pa_nil))) (pa_cons (pe_ix (kIx K) (pe_ix (kIx K) (pv 3) (pe_int) (fun _ _ => rfl)) (pe_int) (fun _ _ => rfl)) pa_nil)))) (pa_cons (pe_ix (kIx K) (pv 3) (pe_int) (fun _ _ => rfl)) pa_nil)))) pa_nil))) pa_nil)))))
   pss_nil)
  (pss_cut (ps_if (PW.pt (pw_and (pt_cmpR (kEq K hr) (pv 2) (pe_int) (nomark _)) (pw_and1 (pt_cmpR op_lt (pe_callB (kLen K) (by rfl) E.f_len (by decide +kernel) (pa_cons (pe_ix (kIx K) (pv 1) (pe_int) (fun _ _ => rfl)) pa_nil)) (pe_int) (nomark _)))))
   (pss_one (ps_ret (pe_tup (pa_cons (pe_op (kAdd K) (pe_ix (kIx K) (pv 1) (pe_int) (fun _ _ => rfl)) (pe_tup (pa_cons (pe_str) pa_nil))) (pa_cons (pe_ix (kIx K) (pv 1) (pe_int) (fun _ _ => rfl)) pa_nil)))))
   pss_nil)
  (pss_one (ps_ret (pe_tup (pa_cons (pe_ix (kIx K) (pv 1) (pe_int) (fun _ _ => rfl)) (pa_cons (pe_op (kAdd K) (pe_slice (kSl K) (pe_ix (kIx K) (pv 1) (pe_int) (fun _ _ => rfl)) po_none (po_some (pe_un un_neg (pe_int)))) (pe_tup (pa_cons (pe_tup (pa_cons (pe_ix (kIx K) (pv 3) (pe_int) (fun _ _ => rfl)) (pa_cons (pe_ix (kIx K) (pv 3) (pe_int) (fun _ _ => rfl)) (pa_cons (pe_op (kAdd K) (pe_slice (kSl K) (pe_ix (kIx K) (pv 3) (pe_int) (fun _ _ => rfl)) po_none (po_some (pe_un un_neg (pe_int)))) (pe_tup (pa_cons (pe_ix (kIx K) (pv 3) (pe_int) (fun _ _ => rfl)) pa_nil))) pa_nil)))) pa_nil))) pa_nil))))))))), ?_⟩
  change (_ : TS) _ [some v0, some v1, none, none] H
  try dsimp only [cxOf, Cx.nox, Cx.blk]
  obtain ⟨x, gs, rs, rfl, hd, ok, hsrc, k⟩ := h
  obtain ⟨a, pg, pr, xs, rfl, s, sg, sr, hx⟩ := dp_web hd
  have zx := dpAll_len hx
  rw [List.length_map] at zx
  have r6 := ok.wb.r6
  have r1' := ok.wb.r1
  have hne : rs ≠ [] := fun e => by rw [e] at r1'; exact absurd r1' (by decide)
  obtain ⟨rl, r, rfl⟩ := snoc_of hne
  rw [List.map_append] at hx
  obtain ⟨xl, v, rfl, hxl, hv⟩ := dpAll_unsnoc hx
  have hrm : r ∈ rl ++ [r] := List.mem_append_right _ List.mem_cons_self
  have okr := ok.wb.rok r hrm
  have br := ok.b5 r hrm
  have memr := ok.wb.mem r hrm
  rw [List.length_append] at r6
  have zxl := dpAll_len hxl
  rw [List.length_map] at zxl
  refine w_cut (M := fun σ' H' => ∃ w : Int, σ' = [some (.ref x), some (.ref a), some (.int w), none] ∧ Fr x H H' ∧ SrcAt H' x) ?_ ?_
  · walk_at "w"
    refine ⟨x, 3, rfl, rfl, by decide, by decide, hsrc, fun w H1 w0 w1 q f => ?_⟩
    walk_at "w"
    exact ⟨w, rfl, f, q⟩
  rintro σ' H1 ⟨wy, rfl, f1, q1⟩
  have tx : TEx H H1 := Fr.tex f1 hsrc
  have s1 := tex_t tx s
  have sr1 := tex_t tx sr
  have sg1 := tex_t tx sg
  have hxl1 := dpAll_tex tx (imm_dRs rl) hxl
  obtain ⟨td, vm, qd, rfl, std, mud, sqd⟩ := dp_row (dp_tex tx (imm_dRw r) hv)
  refine w_cut (M := fun σ' H' => σ' = [some (.ref x), some (.ref a), some (.int wy), some (.ref td)] ∧ H' = H1) ?_ ?_
  · walk_at "w"
    refine r_ixT sr1 at_last ?_
    walk_at "w"
    exact ⟨rfl, rfl⟩
  rintro σ' H' ⟨rfl, rfl⟩
  have st := okr.st
  have okm := okr.mu
  refine w_cut (M := fun σ' H2 => σ' = [some (.ref x), some (.ref a), some (.int wy), some (.ref td)] ∧ H2 = H') ?_ ?_
  · walk_at "w"
    by_cases c : wy = 0
    · walk_at "w"
      obtain ⟨nm, mu0, src⟩ := r
      dsimp only at *
      cases mu0 with
      | un u0 =>
        replace mud : Dp K H' vm (.str u0) := mud
        cases mud
        walk_at "w"
        exact ⟨rfl, rfl⟩
      | mk k0 b ws =>
        replace mud : Dp K H' vm (dMk k0 b ws) := mud
        obtain ⟨pm, pb, pw, xs3, rfl, sm, sb, sw, dw⟩ := dp_mk mud
        walk_at "w"
        refine r_slT sr1 fun p2 H2 e2 s2 => ?_
        rw [cutV_last1] at s2
        have std2 := ex_t e2 std
        have sm2 := ex_t e2 sm
        have sb2 := ex_t e2 sb
        walk_at "w"
        intro p3 H3 n3 e3 g3
        walk_at "w"
        refine r_addT (ex_t e3 sb2) (st_of g3) (sz_of (by have := okm.1.zb; rw [List.length_map]; simp only [List.length_cons, List.length_nil]; omega)) fun p4 H4 e4 s4 => ?_
        rw [show b.map gV ++ [V.int 0] = (b ++ [some 0]).map gV by rw [List.map_append]; rfl] at s4
        have E4 := e3.trans e4
        have std4 := ex_t E4 std2
        have sm4 := ex_t E4 sm2
        walk_at "w"
        intro p5 H5 n5 e5 g5
        have std5 := ex_t e5 std4
        walk_at "w"
        intro p6 H6 n6 e6 g6
        walk_at "w"
        intro p7 H7 n7 e7 g7
        have E7 := (e5.trans e6).trans e7
        refine r_addT (ex_t (E4.trans E7) s2) (st_of g7) (sz_of (by simp only [List.length_cons, List.length_nil]; omega)) fun p8 H8 e8 s8 => ?_
        have E8 := ((e2.trans E4).trans E7).trans e8
        walk_at "w"
        intro p9 H9 n9 e9 g9
        have E9 := E8.trans e9
        have hrow : Dp K H9 (.ref p6) (dRw ⟨nm, .mk k0 (b ++ [some 0]) ws, src⟩) := dp_of_row (r := ⟨nm, .mk k0 (b ++ [some 0]) ws, src⟩) (ex_t ((e7.trans e8).trans e9) (st_of g6)) (.tup (ex_t (((e6.trans e7).trans e8).trans e9) (st_of g5)) (.cons (.int k0) (.cons (dp_of_dW (ex_t ((E7.trans e8).trans e9) s4)) (.cons (.tup (ex_t E9 sw) (dpAll_ex E9 dw)) .nil)))) (ex_t E9 sqd)
        have okm1 := okm.1
        have mok : MkOk k0 (b ++ [some 0]) ws := by
          refine ⟨okm1.k1, okm1.k3, fun d hd => ?_, ?_, okm1.w1, okm1.w4, okm1.ow, okm1.zw⟩
          · rcases List.mem_append.mp hd with hd | hd
            · exact okm1.ob d hd
            · rw [List.mem_singleton.mp hd]
              intro j e
              cases e
              exact ⟨Int.le_refl _, by have := okm1.k1; omega⟩
          · rw [List.length_append]
            have : b.length ≤ 599 := br
            simp only [List.length_cons, List.length_nil]
            omega
        have rok : RwOk ⟨nm, .mk k0 (b ++ [some 0]) ws, src⟩ := ⟨okr.nm, okr.src, okr.s3, (show MkOk k0 (b ++ [some 0]) ws ∧ k0 = src.length from ⟨mok, okm.2⟩)⟩
        have lk : LikeR (Rw.mu ⟨nm, .mk k0 (b ++ [some 0]) ws, src⟩) (Rw.mu ⟨nm, .mk k0 b ws, src⟩) := trivial
        have wbn : WbOk gs (rl ++ [⟨nm, .mk k0 (b ++ [some 0]) ws, src⟩]) := WbOk.last (r := ⟨nm, .mk k0 b ws, src⟩) ok.wb rfl rok memr
        exact k _ gs (rl ++ [⟨nm, .mk k0 (b ++ [some 0]) ws, src⟩]) H9 (f1.trans (Fr.of E9)) (q1.ex E9) (.tup (st_of g9) (.cons (dp_of_strs (ex_t E9 sg1)) (.cons (.tup (ex_t e9 s8) (dpAll_snocR (dpAll_ex E9 hxl1) hrow)) .nil))) wbn (like_last lk)
    · walk_at "w"
      exact ⟨rfl, rfl⟩
  rintro σ' H2 ⟨rfl, rfl⟩
  refine w_cut (M := fun σ' H3 => σ' = [some (.ref x), some (.ref a), some (.int wy), some (.ref td)] ∧ H3 = H2) ?_ ?_
  · walk_at "w"
    by_cases c : wy = 1
    · walk_at "w"
      rw [len_vS]
      by_cases c3 : gs.length < 3
      · have c3' : (gs.length : Int) < 3 := by omega
        walk_at "w"
        intro p3 H3 n3 e3 g3
        refine r_addT (ex_t e3 sg1) (st_of g3) (sz_of (by rw [len_vS]; simp only [List.length_cons, List.length_nil]; omega)) fun p4 H4 e4 s4 => ?_
        rw [show vS gs ++ [V.str "zzz"] = vS (gs ++ [("zzz" : Str)]) by unfold vS; rw [List.map_append]; rfl] at s4
        have E4 := e3.trans e4
        have s1' := ex_t E4 s1
        walk_at "w"
        intro p5 H5 n5 e5 g5
        have E5 := E4.trans e5
        have hvv : Dp K H5 (.ref td) (dRw r) := dp_ex E5 (dp_of_row std mud sqd)
        exact k _ (gs ++ [("zzz" : Str)]) (rl ++ [r]) H5 (f1.trans (Fr.of E5)) (q1.ex E5) (.tup (st_of g5) (.cons (dp_of_strs (ex_t e5 s4)) (.cons (.tup (ex_t E5 sr1) (dpAll_snocR (dpAll_ex E5 hxl1) hvv)) .nil))) (ok.zzz c3) (like_refl _)
      · have c3' : ¬ (gs.length : Int) < 3 := by omega
        walk_at "w"
        exact ⟨rfl, rfl⟩
    · walk_at "w"
      exact ⟨rfl, rfl⟩
  rintro σ' H3 ⟨rfl, rfl⟩
  walk_at "w"
  refine r_slT sr1 fun p2 H4 e4 s4 => ?_
  rw [cutV_last1] at s4
  have std4 := ex_t e4 std
  have hsne : r.src ≠ [] := fun e => by have := st.s1; rw [e] at this; exact absurd this (by decide)
  obtain ⟨sl, s0, hsl⟩ := snoc_of hsne
  have sqd4 : SqT K H4 qd (vS sl ++ [.str s0]) := by
    have := ex_t e4 sqd
    rw [hsl] at this
    rw [show vS (sl ++ [s0]) = vS sl ++ [.str s0] by unfold vS; rw [List.map_append]; rfl] at this
    exact this
  have z3 := st.s3
  have zsl : r.src.length = sl.length + 1 := by rw [hsl, List.length_append]; rfl
  walk_at "w"
  refine r_slT sqd4 fun p5 H5 e5 s5 => ?_
  rw [cutV_last1] at s5
  have std5 := ex_t e5 std4
  walk_at "w"
  intro p6 H6 n6 e6 g6
  refine r_addT (ex_t e6 s5) (st_of g6) (sz_of (by rw [len_vS]; simp only [List.length_cons, List.length_nil]; omega)) fun p7 H7 e7 s7 => ?_
  rw [show vS sl ++ [V.str r.nm] = vS (sl ++ [r.nm]) by unfold vS; rw [List.map_append]; rfl] at s7
  walk_at "w"
  intro p8 H8 n8 e8 g8
  walk_at "w"
  intro p9 H9 n9 e9 g9
  have E9 := (((e5.trans e6).trans e7).trans e8).trans e9
  refine r_addT (ex_t E9 s4) (st_of g9) (sz_of (by simp only [List.length_cons, List.length_nil]; omega)) fun pA HA eA sA => ?_
  walk_at "w"
  intro pB HB nB eB gB
  have EB := ((e4.trans E9).trans eA).trans eB
  have hrow : Dp K HB (.ref p8) (dRw ⟨r.nm, r.mu, sl ++ [r.nm]⟩) := dp_of_row (r := ⟨r.nm, r.mu, sl ++ [r.nm]⟩) (ex_t ((e9.trans eA).trans eB) (st_of g8)) (dp_ex EB mud) (ex_t (((e8.trans e9).trans eA).trans eB) s7)
  refine k _ gs (rl ++ [⟨r.nm, r.mu, sl ++ [r.nm]⟩]) HB (f1.trans (Fr.of EB)) (q1.ex EB) (.tup (st_of gB) (.cons (dp_of_strs (ex_t EB sg1)) (.cons (.tup (ex_t eB sA) (dpAll_snocR (dpAll_ex EB hxl1) hrow)) .nil))) (ok.wb.last rfl ⟨okr.nm, fun s hs => ?_, ?_, ?_⟩ fun s hs => ?_) (like_last ?_)
  · rcases List.mem_append.mp hs with hs | hs
    · exact okr.src s (by rw [hsl]; exact List.mem_append_left _ hs)
    · rw [List.mem_singleton.mp hs]; exact okr.nm
  · show (sl ++ [r.nm]).length ≤ 3
    rw [List.length_append]
    simp only [List.length_cons, List.length_nil]
    omega
  · show MuOk (sl ++ [r.nm]).length r.mu
    rw [show (sl ++ [r.nm]).length = r.src.length by rw [zsl, List.length_append]; rfl]
    exact okm
  · rcases List.mem_append.mp hs with hs | hs
    · exact memr s (by rw [hsl]; exact List.mem_append_left _ hs)
    · rw [List.mem_singleton.mp hs]
      exact List.mem_append_right _ (List.mem_map.mpr ⟨r, hrm, rfl⟩)
  · cases r.mu <;> exact trivial

end
section
theorem ifBoundB_K {K : PySem.W.Frag} {M : Model} {A : Around} {E : Value → Shared → Prop} {s : Shared} {x C : Addr} {ox : Obj} {od : Option Obj} {name : Str} {id : String} {args : List Value} {Q : Option Value → Shared → Prop}
    (X : K.In s.heap) (I : PySem.W.InstAt s.heap x ox C od) (hs : PySem.W.findIn K (.ref C) name = some (some (.builtin id))) (S : Slot "object" name id)
    (h : wpAny M A (call (.builtin id) (.ref x :: args)) (fun v => Q (some v)) E s) : wpAny M A (callSpecialIfBound? (.ref x) name args) Q E s := by
  simp only [callSpecialIfBound?, bindSpecialIfBound?]
  refine wpAny_holding (wpAny_bind (wpAny_bind (wpAny_bind (I.type.here ((PySem.W.looks_findIn X hs).here ?_)))))
  simp only [S.bind]
  refine wpAny_bind (wpAny_askSetting (wpAny_ite ?_))
  have fin : wpAny M A (call (.builtin id) ([.ref x] ++ args) >>= fun v => pure (some v)) Q E s := wpAny_bind (wpAny_mono h (fun v s' h' => wpAny_pure h') fun _ _ h' => h')
  split
  · exact wpAny_bind (wpAny_pure (wpAny_pure fin))
  · exact wpAny_tryCatch (wpAny_bind (wpAny_pure (wpAny_pure fin)))
theorem check_ne_K {K : PySem.W.Frag} {M : Model} {A : Around} {E : Value → Shared → Prop} {s : Shared} {x C : Addr} {ox : Obj} {od : Option Obj} {u : Value} {Q : Unit → Shared → Prop}
    (X : K.In s.heap) (I : PySem.W.InstAt s.heap x ox C od) (hm : PySem.W.mroIn K C (.type "object") = some true) (hq : Q () s) : wpAny M A (checkBuiltinCall "object.__ne__" ⟨[.ref x, u], []⟩) Q E s := by
  have L0 := I.type (M := M)
  have L1 := PySem.W.looks_mroIn (M := M) X hm
  simp only [checkBuiltinCall, F.cmpKind_ne, F.cmpSplit_ne]
  refine wpAny_bind ?_
  · unfold isInstance
    refine wpAny_bind (L0.here (L1.here ?_))
    simp only [Bool.not_true, Bool.false_eq_true, if_false]
    have ha := F.cmpArgs_ne (.ref x) u
    cases hsig : Manifest.signature? "object.__ne__" with
    | none => exact wpAny_pure hq
    | some sig =>
      simp only [argsOk, hsig] at ha
      have h2 : Bind.checkArgs "object.__ne__" sig ⟨[.ref x, u], []⟩ = pure () := ha
      show wpAny M A (Bind.checkArgs "object.__ne__" sig ⟨[.ref x, u], []⟩) Q E _
      rw [h2]; exact wpAny_pure hq
theorem objNe_K {K : PySem.W.Frag} {prog : Program} {w : World} {A : Around} {E : Value → Shared → Prop} {s : Shared} {x C f : Addr} {ox : Obj} {od : Option Obj} {u : Value} {Q : Fin → Shared → Prop}
    (X : K.In s.heap) (I : PySem.W.InstAt s.heap x ox C od) (hs : PySem.W.findIn K (.ref C) "__eq__" = some (some (.ref f))) (hf : PySem.W.isFn K (.ref f) = true) (hu : A.units < cLine)
    (hcall : wpAny (model prog w) A (call (.ref f) [.ref x, u]) (fun v s' => ∃ b, v = .bool b ∧ Q (.done (.ret (.bool (!b)))) s') E s) :
    wpAny (model prog w) A (Builtin.«object.__ne__» ⟨[.ref x, u], []⟩) Q E s := by
  unfold Builtin.«object.__ne__»
  repeat (first
    | with_reducible refine wpAny_cRoomFor hu ?_
    | (refine wpAny_bind (m := callSpecialIfBound? (.ref x) (Str.ofString "__eq__") [u])
        (PySem.W.ifBound_K X I hs hf (wpAny_mono hcall (fun r s' hr => by
          obtain ⟨b, rfl, hq⟩ := hr
          repeat (first | exact hq | exact wpAny_pure hq | exact wpAny_truthy_bool hq | (refine wpAny_bind (m := truthy (.bool _)) (wpAny_truthy_bool ?_)) | wp_step)) fun _ _ e => e)))
    | wp_step)
theorem rich_ne_K {K : PySem.W.Frag} {prog : Program} {w : World} {A : Around} {E : Value → Shared → Prop} {s : Shared} {x C f : Addr} {ox : Obj} {od : Option Obj} {b tb : Value} {Q : Value → Shared → Prop}
    (X : K.In s.heap) (I : PySem.W.InstAt s.heap x ox C od) (hb : PySem.W.Looks (model prog w) s.heap (typeOf b) tb) (hn : PySem.W.notFirst K C tb = true)
    (hs : PySem.W.findIn K (.ref C) "__eq__" = some (some (.ref f))) (hf : PySem.W.isFn K (.ref f) = true) (hne : PySem.W.findIn K (.ref C) "__ne__" = some (some (.builtin "object.__ne__"))) (hm : PySem.W.mroIn K C (.type "object") = some true)
    (hu : A.units + 1 < cLine)
    (hcall : wpAny (model prog w) A.in1 (call (.ref f) [.ref x, b]) (fun v s' => ∃ b, v = .bool b ∧ Q (.bool (!b)) s') E s) :
    wpAny (model prog w) A (richCompare .NotEq (.ref x) b) Q E s := by
  have one : wpAny (model prog w) A (tryCompare (.ref x) "__ne__" b) (fun r s' => ∃ v, r = some v ∧ Q v s') E s := by
    simp only [tryCompare]
    refine wpAny_bind (ifBoundB_K X I hne F.cmp_object.ne (wpAny_call (codeAny_call_builtin F.cmp_object.ne.plain F.cmpEntry_ne
      (check_ne_K X I hm (objNe_K (A := A.in1) X I hs hf hu (wpAny_mono hcall (fun v s' hv => ?_) fun _ _ e => e))))))
    obtain ⟨b, rfl, hq⟩ := hv
    first | exact ⟨b, rfl, wpAny_pure ⟨_, rfl, hq⟩⟩ | exact ⟨b, rfl, wpAny_pure (wpAny_pure ⟨_, rfl, hq⟩)⟩
  unfold richCompare
  simp only [oneThing_ref]
  refine wpAny_holding (wpAny_bind (wpAny_cRoomFor (Nat.lt_of_succ_lt hu) ?_))
  rw [cmpInfo_NotEq]
  dsimp only
  refine wpAny_bind (I.type.here (wpAny_bind (hb.here ?_)))
  split
  · rename_i q
    have e : PySem.W.subIn K tb (.ref C) = some false := by
      rcases Bool.or_eq_true_iff.mp hn with e | e
      · rw [beq_iff_eq.mp e] at q; simp at q
      · exact beq_iff_eq.mp e
    refine wpAny_bind ((PySem.W.looks_subIn X e).here ?_)
    simp only [Bool.false_eq_true, if_false]
    refine wpAny_bind (wpAny_mono one (fun r s' z => ?_) fun _ _ e => e)
    obtain ⟨v, rfl, hq⟩ := z
    exact wpAny_pure hq
  · refine wpAny_bind (wpAny_pure ?_)
    simp only [Bool.false_eq_true, if_false]
    refine wpAny_bind (wpAny_mono one (fun r s' z => ?_) fun _ _ e => e)
    obtain ⟨v, rfl, hq⟩ := z
    exact wpAny_pure hq
section
variable {X : Cx} {n : Nat} {C : Addr} {sp : Sp}
theorem run_fnA {CX : CXT} {k : Nat} {f : Addr} {fd : FuncData} {ps : List Str} {sp : Sp} {dvs : List V} {ds : List Value} {E : XK} {pins : List (Addr × Obj)} {σ : L2.St} {H : Hp} {s : Shared} {Q : VK} {us : List Value} {vs : List V} (F : FnOk X.prog X.w X.K X.mg X.base CX k f fd ps sp) (hr : Room k X.A.in1) (hb : L2.Binds X.K fd ps ds) (hd : L2.Vals dvs ds) (hx : L2.Passes CX X E)
    (I : L2.Inv X pins σ H s) (r : L2.Vals vs us) (h : sp (vs ++ dvs) H Q E) : wpAny (model X.prog X.w) X.A.in1 (call (.ref f) us) (EP X pins σ Q) X.xe s := by
  have r2 : L2.Vals (vs ++ dvs) (us ++ ds) := r.append hd
  have hl : (us ++ ds).length = ps.length := by rw [← r2.length]; exact F.len _ _ _ _ h
  refine wpAny_call (codeAny_mono (F.run X.A.in1 X.stack s H ⟨us, []⟩ (us ++ ds) (vs ++ dvs) Q E hr I.env0.in1 (hb s us I.kIn hl) r2 h) fun r s' hq => ?_)
  cases r with
  | error e => exact hx pins σ H s e s' I hq
  | ok fl =>
    cases fl with
    | ret u => exact I.after hq
    | next => exact False.elim hq
    | brk => exact False.elim hq
    | cont => exact False.elim hq
/-- != over an own == -/
def rOwnNe (K : PySem.W.Frag) (C : Addr) (sp : Sp) : R2 := fun x y H Q => ∃ a dx fs t, x = .ref a ∧ H a = some (.ins C dx fs) ∧ TyX K H y t ∧ PySem.W.notFirst K C t = true ∧ PySem.W.findIn K (.ref C) "__ne__" = some (some (.builtin "object.__ne__")) ∧ PySem.W.mroIn K C (.type "object") = some true ∧ sp [x, y] H (fun v H' => ∃ b, v = .bl b ∧ Q (.bl (!b)) H') E0
theorem op_ownNe {j : Nat} (c : EqOf X.prog X.w X.K X.mg X.base n C sp) (hr : Room j X.A) (hn : n + 1 ≤ j) : OpR X (compareOp .NotEq) (rOwnNe X.K C sp) := by
  obtain ⟨g, fd, ps, hs, hf, F, hb⟩ := c.ex
  intro pins s σ H x y v u Q I rx ry h
  obtain ⟨a, dx, fs, t, rfl, ha, ty, hnf, hne, hm, q⟩ := h
  cases (show v = Value.ref a from rx)
  obtain ⟨mA, O, _⟩ := ins_get I.hok ha
  obtain ⟨od, J, _⟩ := O.look
  obtain ⟨Pk, kit, hk, _⟩ := kit_of I ry ty
  show wpAny _ _ (richCompare .NotEq (.ref a) u) _ _ _
  refine rich_ne_K (tb := t) I.kIn J (kit.ty _ _ I.kIn hk) hnf hs hf hne hm (by have := (hr.mono hn).un; omega) ?_
  refine wpAny_mono (run_fnA (us := [.ref a, u]) (vs := [.ref a, y]) (dvs := []) (ds := []) F (hr.mono hn).in1 hb .nil pass0 I (.cons rfl (.cons ry .nil)) q) (fun z s' hz => ?_) fun _ _ x => x
  obtain ⟨zv, H', I', rz, b, hzv, qz⟩ := hz
  subst hzv
  cases (show z = Value.bool b from rz)
  exact ⟨b, rfl, .bl (!b), H', I', rfl, qz⟩
def rNeO (K : PySem.W.Frag) (C : Addr) (sp : Sp) : R2 := fun x y H Q => rNeU K x y H Q ∨ rOwnNe K C sp x y H Q
end
theorem kNeO (K : PySem.W.Frag) {X : Cx} {n : Nat} {C : Addr} {sp : Sp} {j : Nat} (c : EqOf X.prog X.w X.K X.mg X.base n C sp) (hr : Room j X.A) (hn : n + 1 ≤ j) (h : X.K = K := by rfl) : OpR X (compareOp .NotEq) (rNeO K C sp) := by subst h; exact (xNe hr).or (op_ownNe c hr hn)
section
variable {K : PySem.W.Frag} {C : Addr} {sp : Sp} {H : Hp} {Q : VK} {x y : V}
theorem w_neO (h : rNeU K x y H Q) : rNeO K C sp x y H Q := .inl h
theorem r_ownNe {F} {a dx : Addr} {fs : List (Str × V)} {t : Value} (ha : H a = some (.ins C dx fs)) (ty : TyX K H y t) (hn : PySem.W.notFirst K C t = true) (hne : PySem.W.findIn K (.ref C) "__ne__" = some (some (.builtin "object.__ne__"))) (hm : PySem.W.mroIn K C (.type "object") = some true) (q : F (.ref a) y H (fun v H' => ∃ b, v = .bl b ∧ Q (.bl (!b)) H') E0) : rNeO K C (sp2 F) (.ref a) y H Q :=
  .inr ⟨a, dx, fs, t, rfl, ha, ty, hn, hne, hm, _, _, rfl, q⟩
end

end
section
abbrev N__law_truth : List Str := ["told", "due"]
theorem sc__law_truth : FnScope N__law_truth ["told", "due"] (defScope s__law_truth) := ⟨rfl, rfl, rfl, by decide +kernel, rfl, by decide +kernel, by decide +kernel⟩
theorem ok__law_truth {P : Program} {w : World} {K : PySem.W.Frag} {mg : Str → Option Value} {base : Heap} (E : Env P K mg) : Fn P w K mg base CX0 1 "_law_truth" (sp2 fun a b H Q _ => ∃ p q : Bool, a = .bl p ∧ b = .bl q ∧ Q (.bl (decide (p = q))) H) := by
  obtain ⟨fd, F⟩ := E.dd__law_truth
  refine Fn.mk0 F E.g__law_truth sc__law_truth sp2_len (fun _ _ _ _ _ _ us hl => match us, hl with | [_, _], _ => rfl) (fun cdv A outer s H vs Q X hr h => ?_)
  have nd := sc__law_truth.nd
  obtain ⟨v0, v1, rfl, h⟩ := h
  refine ⟨_, (pss_one (ps_ret (pe_and (pe_callB (kIsi K) (by rfl) E.f_isinstance (by decide +kernel) (pa_cons (pv 0) (pa_cons (pe_bltn (v := .ty "bool") (by rfl) E.f_bool (by decide +kernel) rfl) pa_nil))) (pe_one (pe_cmpR (kEq K hr) (pv 0) (pv 1) (nomark _)))))), ?_⟩
  change (_ : TS) _ [some v0, some v1] H
  try dsimp only [cxOf, Cx.nox, Cx.blk]
  obtain ⟨p, q, rfl, rfl, k⟩ := h
  walk_at "w"
  exact k

end
section
/-! the lines as data -/
def lowS (w : Str) : Prop := ∀ c ∈ TL.tl w, c < 1114112
theorem lowS_app {a b : Str} (ha : lowS a) (hb : lowS b) : lowS (a ++ b) := fun c hc => by
  rw [TL.tl_append] at hc
  exact (List.mem_append.mp hc).elim (ha c) (hb c)
theorem lowS_join {s : Str} {ps : List Str} (hs : lowS s) (hp : ∀ p ∈ ps, lowS p) : lowS (Txt.join s ps) := fun c hc => by
  rw [tl_joinT] at hc
  rcases mem_joinL hc with h | ⟨q, hq, h⟩
  · exact hs c h
  · obtain ⟨p, hm, rfl⟩ := List.mem_map.mp hq
    exact hp p hm c h
theorem lowS_W {w : Str} (h : okW w = true) : lowS w := fun c hc => by
  have h1 := (Bool.and_eq_true_iff.mp (show ((decide (1 ≤ (w.length : Int)) && decide ((w.length : Int) ≤ 8)) && w.cps.toList.all lwr) = true from h)).2
  have := List.all_eq_true.mp h1 c hc
  unfold lwr at this
  simp at this
  omega
theorem lowS_U {w : Str} (h : okU w = true) : lowS w := fun c hc => by
  have h1 := (Bool.and_eq_true_iff.mp (show ((decide (1 ≤ (w.length : Int)) && decide ((w.length : Int) ≤ 2)) && w.cps.toList.all lwr) = true from h)).2
  have := List.all_eq_true.mp h1 c hc
  unfold lwr at this
  simp at this
  omega
theorem lowS_D {d : Dd} (h : okD 3 d) : lowS (dSt d) := by
  unfold lowS
  rcases dSt_cases h with rfl | rfl | rfl | rfl
  · rw [tl_d0]; decide
  · rw [tl_d1]; decide
  · rw [tl_d2]; decide
  · rw [tl_d3]; decide
theorem low_sp : lowS " " := by unfold lowS; rw [tl_sp]; decide
theorem low_sc : lowS "; " := by unfold lowS; rw [tl_sc]; decide
theorem low_cs : lowS ": " := by unfold lowS; rw [show TL.tl (": " : Str) = [58, 32] by decide +kernel]; decide
theorem low_by : lowS " by " := by unfold lowS; rw [show TL.tl (" by " : Str) = [32, 98, 121, 32] by decide +kernel]; decide
theorem low_gi : lowS "given " := by unfold lowS; rw [tl_given]; decide
theorem low_row : lowS "row" := by unfold lowS; rw [tl_rw]; decide
theorem low_of : lowS "of" := by unfold lowS; rw [show TL.tl ("of" : Str) = [111, 102] by decide +kernel]; decide
theorem low_way : lowS "way" := by unfold lowS; rw [show TL.tl ("way" : Str) = [119, 97, 121] by decide +kernel]; decide
theorem low_begin : lowS "begin" := by unfold lowS; rw [show TL.tl ("begin" : Str) = [98, 101, 103, 105, 110] by decide +kernel]; decide
theorem low_dT {w : Str} {ds : List Dd} (hw : lowS w) (h : ∀ d ∈ ds, okD 3 d) : lowS (dT w ds) := lowS_join low_sp fun p hp => by
  rcases List.mem_cons.mp hp with rfl | hp
  · exact hw
  · obtain ⟨d, hd, rfl⟩ := List.mem_map.mp hp
    exact lowS_D (h d hd)
theorem low_mkT {b : List Dd} {ws : List (List Dd)} (h : MkT b ws) : lowS (mkT b ws) := lowS_join low_sc fun p hp => by
  rcases List.mem_cons.mp hp with rfl | hp
  · exact low_dT low_begin h.hb
  · obtain ⟨w, hw, rfl⟩ := List.mem_map.mp hp
    exact low_dT low_way (h.hw w hw)
theorem low_stR {nm : Str} {src : List Str} (h : StT nm src) : lowS (stR nm src) := lowS_join low_sp fun p hp => by
  rcases List.mem_cons.mp hp with rfl | hp
  · exact low_row
  · rcases List.mem_cons.mp hp with rfl | hp
    · exact lowS_W h.hn
    · rcases List.mem_cons.mp hp with rfl | hp
      · exact low_of
      · exact lowS_W (h.hs p hp)
theorem low_linR {r : Rw} (h : RwOk r) : lowS (linR r) := by
  have hm := h.mu
  have st := low_stR h.st
  unfold linR
  cases q : r.mu with
  | mk k b ws => rw [q] at hm; exact lowS_app (lowS_app st low_cs) (low_mkT hm.1.t)
  | un u => rw [q] at hm; exact lowS_app (lowS_app st low_by) (lowS_U hm.1)
theorem low_linW {gs : List Str} {rs : List Rw} (h : WbOk gs rs) : ∀ w ∈ linW gs rs, lowS w := fun w hw => by
  rcases List.mem_append.mp hw with hw | hw
  · obtain ⟨g, hg, rfl⟩ := List.mem_map.mp hw
    exact lowS_app low_gi (lowS_W (h.gok g hg))
  · obtain ⟨r, hr, rfl⟩ := List.mem_map.mp hw
    exact low_linR (h.rok r hr)
theorem low_lay {w : Str} (h : lowS w) : (PyData.str w).canLay0 = true := by
  show w.cps.all (· < 0x110000) = true
  rw [← Array.all_toList, List.all_eq_true]
  intro c hc
  exact decide_eq_true (h c hc)
theorem low_all : ∀ {ws : List Str}, (∀ w ∈ ws, lowS w) → PyData.canLayAll0 (ws.map .str) = true ∧ PyData.depthAll (ws.map .str) = 0
  | [], _ => ⟨rfl, rfl⟩
  | w :: ws, h => by
    obtain ⟨a, b⟩ := low_all (ws := ws) fun x hx => h x (List.mem_cons_of_mem _ hx)
    refine ⟨?_, ?_⟩
    · show ((PyData.str w).canLay0 && PyData.canLayAll0 (ws.map .str)) = true
      rw [a, low_lay (h w List.mem_cons_self)]
      rfl
    · show max 0 (PyData.depthAll (ws.map .str)) = 0
      rw [b]
      rfl
theorem shp_linT {ws : List Str} (h : ∀ w ∈ ws, lowS w) : SeqAt.shaped (.tuple (ws.map .str)) = true := by
  show (PyData.canLayAll0 (ws.map .str) && decide (PyData.depthAll (ws.map .str) + 1 ≤ 64)) = true
  rw [(low_all h).1, (low_all h).2]
  rfl
theorem shp_linL {ws : List Str} (h : ∀ w ∈ ws, lowS w) : SeqAt.shaped (.list (ws.map .str)) = true := by
  show (PyData.canLayAll0 (ws.map .str) && decide (PyData.depthAll (ws.map .str) + 1 ≤ 64)) = true
  rw [(low_all h).1, (low_all h).2]
  rfl
section
variable {K : PySem.W.Frag} {H : Hp} {Q : VK} {p q : Addr} {ws : List Str}
theorem r_neLL (a : SqL K H p (vS ws)) (b : SqL K H q (vS ws)) (h : ∀ w ∈ ws, lowS w) (k : Q (.bl false) H) : rNeU K (.ref p) (.ref q) H Q :=
  r_neD (.lst a dpAll_of_strs) (.lst b dpAll_of_strs) (shp_linL h) (shp_linL h) (by rw [show PyData.eqv (.list (ws.map .str)) (.list (ws.map .str)) = true from (eqv_strs ws ws).trans (decide_eq_true rfl)]; exact k)
theorem r_eqLL (a : SqL K H p (vS ws)) (b : SqL K H q (vS ws)) (h : ∀ w ∈ ws, lowS w) (k : Q (.bl true) H) : rEqU K (.ref p) (.ref q) H Q :=
  r_eqD (.lst a dpAll_of_strs) (.lst b dpAll_of_strs) (shp_linL h) (shp_linL h) (by rw [show PyData.eqv (.list (ws.map .str)) (.list (ws.map .str)) = true from (eqv_strs ws ws).trans (decide_eq_true rfl)]; exact k)
theorem r_neTT (a : SqT K H p (vS ws)) (b : SqT K H q (vS ws)) (h : ∀ w ∈ ws, lowS w) (k : Q (.bl false) H) : rNeU K (.ref p) (.ref q) H Q :=
  r_neD (.tup a dpAll_of_strs) (.tup b dpAll_of_strs) (shp_linT h) (shp_linT h) (by rw [show PyData.eqv (.tuple (ws.map .str)) (.tuple (ws.map .str)) = true from (eqv_strs ws ws).trans (decide_eq_true rfl)]; exact k)
end
/-- the sample -/
def sG : List Str := ["g"]
def sR : List Rw := [⟨"x", .mk 2 [none] [[some 0, none], [some 0, some 1, none, none]], ["g", "x"]⟩, ⟨"y", .un "f", ["x"]⟩]
def sL : List Str := ["given g", "row x of g x: begin give; way 0 give; way 0 1 give give", "row y of x by f"]
theorem s_lin : linW sG sR = sL := by decide +kernel
theorem okD_lit {k : Int} {ds : List Dd} (h : ds.all (fun d => match d with | none => true | some i => decide (0 ≤ i) && decide (i < k)) = true) : ∀ d ∈ ds, okD k d := fun d hd i e => by
  have := List.all_eq_true.mp h d hd
  subst e
  simpa using this
theorem s_ok : WbOk sG sR := by
  refine ⟨by decide, by decide, by decide, by decide +kernel, fun r hr => ?_, by decide +kernel, by decide +kernel⟩
  rcases List.mem_cons.mp hr with rfl | hr
  · refine ⟨by decide +kernel, by decide +kernel, by decide, ?_⟩
    show MkOk 2 [none] [[some 0, none], [some 0, some 1, none, none]] ∧ (2 : Int) = _
    refine ⟨⟨by decide, by decide, okD_lit (by decide), by decide, by decide, by decide, fun w hw => ?_, by decide⟩, rfl⟩
    rcases List.mem_cons.mp hw with rfl | hw
    · exact ⟨by decide, okD_lit (by decide)⟩
    · rw [List.mem_singleton.mp hw]
      exact ⟨by decide, okD_lit (by decide)⟩
  · rw [List.mem_singleton.mp hr]
    refine ⟨by decide +kernel, by decide +kernel, by decide, ?_⟩
    show okU "f" = true ∧ _
    exact ⟨by decide +kernel, by decide, by decide +kernel⟩
/-- what the law keeps -/
structure F29 (K : PySem.W.Frag) (H : Hp) (x : Addr) (vw : V) (pl xb tt : Addr) (gs : List Str) (rs : List Rw) : Prop where
  q : SrcAt H x
  d : Dp K H vw (dWb gs rs)
  g : H pl = some (.lst (vS (linW gs rs)))
  w : WebAt K H xb gs rs
  t : SqT K H tt (vS (linW gs rs))
theorem F29.ex {K : PySem.W.Frag} {H H' : Hp} {x : Addr} {vw : V} {pl xb tt : Addr} {gs : List Str} {rs : List Rw} (h : F29 K H x vw pl xb tt gs rs) (e : Ex H H') : F29 K H' x vw pl xb tt gs rs :=
  ⟨h.q.ex e, dp_ex e h.d, e _ _ h.g, ex_web e h.w, ex_t e h.t⟩
theorem F29.fr {K : PySem.W.Frag} {H H' : Hp} {x : Addr} {vw : V} {pl xb tt : Addr} {gs : List Str} {rs : List Rw} (h : F29 K H x vw pl xb tt gs rs) (f : Fr x H H') (q' : SrcAt H' x) (n : pl ≠ x) : F29 K H' x vw pl xb tt gs rs :=
  ⟨q', dp_tex (Fr.tex f h.q) (imm_dWb gs rs) h.d, f _ _ n h.g, web_k (KEx.fr f h.q) h.w, tex_t (Fr.tex f h.q) h.t⟩
abbrev N_law : List Str := ["script", "source", "web", "lines", "built", "told", "row", "read", "other", "near", "first"]
theorem sc_law : FnScope N_law ["script"] (defScope s_law) := ⟨rfl, rfl, rfl, by decide +kernel, rfl, by decide +kernel, by decide +kernel⟩
abbrev lawSp (K : PySem.W.Frag) : Sp := sp1 fun s H Q _ => ∃ (a : Addr) (ns : List Int), s = .ref a ∧ SqL K H a (vI ns) ∧ (∀ z ∈ ns, Builtin.Int.intBits z ≤ 1048576) ∧ ns.length ≤ 63 ∧ ∀ H', Q (.bl true) H'
theorem ok_law {P : Program} {w : World} {K : PySem.W.Frag} {mg : Str → Option Value} {base : Heap} (EW : EnvW P w K mg) {fd : FuncData} (F : FunD K "law" "law" (defArgs s_law) (defBody s_law) (defScope s_law) (d_law.dvs K) [] (d_law.adr K) fd) : FnOk P w K mg base CX0 14 (d_law.adr K) fd ["script"] (lawSp K) := by
  have E : Env P K mg := EW.env
  refine fnok0 F sc_law sp1_len (fun cdv A outer s H vs Q X hr h => ?_)
  have nd := sc_law.nd
  obtain ⟨v0, rfl, h⟩ := h
  refine ⟨_, (pss_cons (ps_set (i := 1) nd rfl (.inl rfl) (pc (ok__law_source E) hr (by decide) pass0 rfl (pa_cons (pv 0) (pa_cons (pe_int) pa_nil))))
  (pss_cons (ps_set (i := 2) nd rfl (.inl rfl) (pc (ok__law_opened E) hr (by decide) pass0 rfl (pa_cons (pc (ok__law_source E) hr (by decide) pass0 rfl (pa_cons (pv 0) (pa_cons (pe_int) pa_nil))) (pa_cons (pc (ok__law_web E) hr (by decide) pass0 rfl (pa_cons (pv 1) (pa_cons (pe_int) (pa_cons (pe_int) (pa_cons (pe_int) (pa_cons (pe_bl) pa_nil)))))) (pa_cons (pe_int) pa_nil)))))
  (pss_cons (ps_set (i := 3) nd rfl (.inl rfl) (pc (ok__law_web_lines E) hr (by decide) pass0 rfl (pa_cons (pv 2) pa_nil)))
  (pss_cons (ps_set (i := 4) nd rfl (.inl rfl) (pc (ok__law_built E) hr (by decide) pass0 rfl (pa_cons (pv 2) pa_nil)))
  (pss_cut (ps_set (i := 5) nd rfl (.inl rfl) (pc (ok_write_web E) hr (by decide) pass0 rfl (pa_cons (pv 4) pa_nil)))
  (pss_cut (ps_if (PW.pt (pw_or (pt_not (kTru K (pe_callB (kIsi K) (by rfl) E.f_isinstance (by decide +kernel) (pa_cons (pv 5) (pa_cons (pe_bltn (v := .ty "tuple") (by rfl) E.f_tuple (by decide +kernel) rfl) pa_nil))) (by intro _; rfl))) (pw_or1 (pt_cmpR (kNe K hr) (pe_callTy (kLst K) (by rfl) E.f_list (by decide +kernel) (pa_cons (pv 5) pa_nil)) (pv 3) (nomark _)))))
   (pss_one (ps_ret (pe_bl)))
   pss_nil)
  (pss_cut (ps_for PassesOwn.never rfl (kSeq K (pe_lst (pa_cons (pv 5) (pa_cons (pv 3) pa_nil)))) (pg_name (i := 6) nd rfl (.inl rfl))
   (pss_cons (ps_set (i := 7) nd rfl (.inl rfl) (pc (ok_read_web EW) hr (by decide) pass0 rfl (pa_cons (pv 6) pa_nil)))
  (pss_one (ps_if (PW.pt (pw_or (pt_not (kTru K (pc (ok__law_same_web E) hr (by decide) pass0 rfl (pa_cons (pv 7) (pa_cons (pv 2) pa_nil))) (by intro _; rfl))) (pw_or (pt_not (pt_cmpR (kEqO K (ok_Web_eq E) hr (by decide)) (pv 7) (pv 4) (nomark _))) (pw_or (pt_cmpR (kNeO K (ok_Web_eq E) hr (by decide)) (pv 7) (pv 4) (nomark _)) (pw_or1 (pt_cmpR (kNe K hr) (pc (ok_write_web E) hr (by decide) pass0 rfl (pa_cons (pv 7) pa_nil)) (pv 5) (nomark _)))))))
   (pss_one (ps_ret (pe_bl)))
   pss_nil))))
  (pss_cons (ps_set (i := 8) nd rfl (.inl rfl) (pc (ok__law_other E) hr (by decide) pass0 rfl (pa_cons (pv 1) (pa_cons (pv 2) pa_nil))))
  (pss_cut (ps_set (i := 9) nd rfl (.inl rfl) (pc (ok__law_built E) hr (by decide) pass0 rfl (pa_cons (pv 8) pa_nil)))
  (pss_cut (ps_if (PW.pt (pw_or (pt_not (kTru K (pc (ok__law_truth E) hr (by decide) pass0 rfl (pa_cons (pe_cmpR (kEqO K (ok_Web_eq E) hr (by decide)) (pv 9) (pv 4) (nomark _)) (pa_cons (pe_cmpR (kEq K hr) (pv 8) (pv 2) (nomark _)) pa_nil))) (by intro _; rfl))) (pw_or1 (pt_not (kTru K (pc (ok__law_same_web E) hr (by decide) pass0 rfl (pa_cons (pc (ok_read_web EW) hr (by decide) pass0 rfl (pa_cons (pc (ok_write_web E) hr (by decide) pass0 rfl (pa_cons (pv 9) pa_nil)) pa_nil)) (pa_cons (pv 8) pa_nil))) (by intro _; rfl))))))
   (pss_one (ps_ret (pe_bl)))
   pss_nil)
  (pss_cut (ps_if (PW.pt (pw_or (pt_cmpR (kEqO K (ok_Web_eq E) hr (by decide)) (pv 4) (pv 3) (nomark _)) (pw_or (pt_cmpR (kEqO K (ok_Web_eq E) hr (by decide)) (pv 4) (pv 2) (nomark _)) (pw_or1 (pt_not (kTru K (pc (ok__law_same_web E) hr (by decide) pass0 rfl (pa_cons (pv 4) (pa_cons (pv 2) pa_nil))) (by intro _; rfl)))))))
   (pss_one (ps_ret (pe_bl)))
   pss_nil)
  (pss_cons (ps_set (i := 10) nd rfl (.inl rfl) (pe_lst (pa_cons (pe_str) (pa_cons (pe_str) (pa_cons (pe_str) pa_nil)))))
  (pss_one (ps_ret (pe_and (pe_cmpR (kEq K hr) (pe_callTy (kLst K) (by rfl) E.f_list (by decide +kernel) (pa_cons (pc (ok_write_web E) hr (by decide) pass0 rfl (pa_cons (pc (ok_read_web EW) hr (by decide) pass0 rfl (pa_cons (pv 10) pa_nil)) pa_nil)) pa_nil)) (pv 10) (nomark _)) (pe_one (pe_cmpR (kEq K hr) (pv 3) (pc (ok__law_web_lines E) hr (by decide) pass0 rfl (pa_cons (pv 2) pa_nil)) (nomark _)))))))))))))))))), ?_⟩
  change (_ : TS) _ [some v0, none, none, none, none, none, none, none, none, none, none] H
  try dsimp only [cxOf, Cx.nox, Cx.blk]
  obtain ⟨sa, nsc, rfl, s0, hb, hz, k⟩ := h
  walk_at "w"
  refine ⟨sa, nsc, 0, rfl, rfl, s0, hb, hz, by decide, by decide, fun x A1 n1 e1 q1 => ?_⟩
  walk_at "w"
  refine ⟨sa, nsc, 1, rfl, rfl, ex_l e1 s0, hb, hz, by decide, by decide, fun x2 A2 n2 e2 q2 => ?_⟩
  have hx2 : x ≠ x2 := fun e => by
    obtain ⟨d, s, c, w1, w2⟩ := q1
    rw [← e] at n2
    rw [n2] at w1
    cases w1
  walk_at "w"
  refine ⟨x, rfl, rfl, rfl, rfl, rfl, q1.ex e2, fun v gs rs A3 f3 q3 d3 ok3 _ => ?_⟩
  walk_at "w"
  refine ⟨x2, gs, rs, rfl, d3, rfl, ok3, src_fr hx2.symm f3 q2, fun vw rs' A4 f4 q4 d4 ok4 => ?_⟩
  have qx4 : SrcAt A4 x := src_fr hx2 f4 q3
  have wok4 := ok4.wb
  walk_at "w"
  refine ⟨gs, rs', d4, wok4, fun pl A5 n5 e5 g5 => ?_⟩
  walk_at "w"
  refine ⟨gs, rs', dp_ex e5 d4, wok4, fun xb A6 e6 w6 => ?_⟩
  walk_at "w"
  refine w_cut (M := fun σ' H' => ∃ (x : Addr) (vw : V) (pl xb tt : Addr) (gs : List Str) (rs : List Rw), σ' = [some (.ref sa), some (.ref x), some vw, some (.ref pl), some (.ref xb), some (.ref tt), none, none, none, none, none] ∧ F29 K H' x vw pl xb tt gs rs ∧ LwOk gs rs ∧ pl ≠ x) ?_ ?_
  · dsimp only [List.set]
    walk_at "w"
    refine ⟨xb, gs, rs', rfl, w6, wok4, fun tt A7 e7 t7 => ?_⟩
    walk_at "w"
    exact ⟨x, vw, pl, xb, tt, gs, rs', rfl, ⟨qx4.ex ((e5.trans e6).trans e7), dp_ex ((e5.trans e6).trans e7) d4, (e6.trans e7) _ _ g5, ex_web e7 w6, t7⟩, ok4, qx4.ne n5⟩
  rintro σ' H1 ⟨x, vw, pl, xb, tt, gs, rs, rfl, F1, ok, hpx⟩
  have wok := ok.wb
  have lowL := low_linW wok
  have okg := wok.gok
  have oks : ∀ r ∈ rs, ∀ s ∈ r.src, okW s = true := fun r hr => (wok.rok r hr).src
  refine w_cut (M := fun σ' H' => σ' = [some (.ref sa), some (.ref x), some vw, some (.ref pl), some (.ref xb), some (.ref tt), none, none, none, none, none] ∧ F29 K H' x vw pl xb tt gs rs) ?_ ?_
  · have st := F1.t
    have slp : SqL K H1 pl (vS (linW gs rs)) := sq_of F1.g
    walk_at "w"
    intro p3 H3 n3 e3 g3
    walk_at "w"
    refine r_neLL (sq_of g3) (ex_l e3 slp) lowL ?_
    walk_at "w"
    exact ⟨rfl, F1.ex e3⟩
  rintro σ' H2 ⟨rfl, F2⟩
  refine w_cut (M := fun σ' H' => ∃ u v : Option V, σ' = [some (.ref sa), some (.ref x), some vw, some (.ref pl), some (.ref xb), some (.ref tt), u, v, none, none, none] ∧ F29 K H' x vw pl xb tt gs rs) ?_ ?_
  · walk_at "w"
    refine i_seqL ?_
    walk_at "w"
    intro pq H3 n3 e3 g3
    have F3 := F2.ex e3
    have sq3 : SqL K H3 pq [.ref tt, .ref pl] := sq_of g3
    walk_at "w"
    refine for_list (xs := [.ref tt, .ref pl]) (Pv := fun i σ' H' => ∃ u v : Option V, σ' = [some (.ref sa), some (.ref x), some vw, some (.ref pl), some (.ref xb), some (.ref tt), u, v, none, none, none] ∧ F29 K H' x vw pl xb tt gs rs ∧ H' pq = some (.lst [.ref tt, .ref pl])) ⟨_, _, rfl, F3, g3⟩ (fun i σ' H' _ h => by obtain ⟨_, _, _, _, g⟩ := h; exact sq_of g) ?_ ?_
    · rintro i y σ' A hi ⟨u, v, rfl, FA, gq⟩
      have hy : ∃ p, y = .ref p ∧ SqE K A p (vS (linW gs rs)) := by
        match i with
        | 0 => cases hi; exact ⟨tt, rfl, .inr FA.t⟩
        | 1 => cases hi; exact ⟨pl, rfl, .inl (sq_of FA.g)⟩
        | n + 2 => simp at hi
      obtain ⟨p, rfl, sp⟩ := hy
      walk_at "w"
      refine ⟨p, gs, rs, rfl, sp, wok, fun xr B eB wB => ?_⟩
      have FB := FA.ex eB
      walk_at "w"
      refine ⟨xr, gs, rs, rfl, wB, FB.d, wok, fun B2 e2 => ?_⟩
      have FB2 := FB.ex e2
      have wB2 := ex_web e2 wB
      obtain ⟨dr, fr, hxr⟩ := web_mine wB2
      obtain ⟨db, fb, hxb⟩ := web_mine FB2.w
      walk_at "w"
      refine r_ownEq hxr (insB_ok E.ins_Web E.c_Web hxb) E.nf_Web_self ?_
      refine ⟨xr, gs, rs, rfl, wB2, okg, oks, .inl ⟨xb, gs, rs, rfl, FB2.w, okg, oks, like_refl rs, fun B3 e3 => ⟨⟨_, rfl⟩, ?_⟩⟩⟩
      rw [decide_eq_true (show gs = gs ∧ rs = rs from ⟨rfl, rfl⟩)]
      have FB3 := FB2.ex e3
      have wB3 := ex_web e3 wB2
      walk_at "w"
      refine r_ownNe (e3 _ _ hxr) (insB_ok E.ins_Web E.c_Web (e3 _ _ hxb)) E.nf_Web_self E.ne_Web E.mo_Web ?_
      refine ⟨xr, gs, rs, rfl, wB3, okg, oks, .inl ⟨xb, gs, rs, rfl, FB3.w, okg, oks, like_refl rs, fun B4 e4 => ⟨_, rfl, ?_⟩⟩⟩
      rw [decide_eq_true (show gs = gs ∧ rs = rs from ⟨rfl, rfl⟩)]
      have FB4 := FB3.ex e4
      walk_at "w"
      refine ⟨xr, gs, rs, rfl, ex_web e4 wB3, wok, fun t B5 e5 s5 => ?_⟩
      have FB5 := FB4.ex e5
      walk_at "w"
      refine r_neTT s5 FB5.t lowL ?_
      walk_at "w"
      exact ⟨_, _, rfl, FB5, e5 _ _ (e4 _ _ (e3 _ _ (e2 _ _ (eB _ _ gq))))⟩
    · rintro σ' A ⟨u, v, rfl, FA, gq⟩
      exact ⟨_, _, rfl, FA⟩
  rintro σ' H3 ⟨u, v, rfl, F3⟩
  walk_at "w"
  refine ⟨x, gs, rs, rfl, F3.d, ok, F3.q, fun vo gs' rs' H4 f4 q4 d4 ok4 lk => ?_⟩
  have F4 := F3.fr f4 q4 hpx
  walk_at "w"
  refine w_cut (M := fun σ' H' => ∃ (vo : V) (xn : Addr) (gs' : List Str) (rs' : List Rw), σ' = [some (.ref sa), some (.ref x), some vw, some (.ref pl), some (.ref xb), some (.ref tt), u, v, some vo, some (.ref xn), none] ∧ F29 K H' x vw pl xb tt gs rs ∧ Dp K H' vo (dWb gs' rs') ∧ WebAt K H' xn gs' rs' ∧ WbOk gs' rs' ∧ Like rs' rs) ?_ ?_
  · dsimp only [List.set]
    walk_at "w"
    refine ⟨gs', rs', d4, ok4, fun xn H5 e5 w5 => ?_⟩
    walk_at "w"
    exact ⟨vo, xn, gs', rs', rfl, F4.ex e5, dp_ex e5 d4, w5, ok4, lk⟩
  rintro σ' H5 ⟨vo, xn, gs', rs', rfl, F5, d5, w5, ok5, lk⟩
  have okg' := ok5.gok
  have oks' : ∀ r ∈ rs', ∀ s ∈ r.src, okW s = true := fun r hr => (ok5.rok r hr).src
  refine w_cut (M := fun σ' H' => σ' = [some (.ref sa), some (.ref x), some vw, some (.ref pl), some (.ref xb), some (.ref tt), u, v, some vo, some (.ref xn), none] ∧ F29 K H' x vw pl xb tt gs rs) ?_ ?_
  · obtain ⟨dn, fn, hn⟩ := web_mine w5
    obtain ⟨db, fb, hbb⟩ := web_mine F5.w
    walk_at "w"
    refine r_ownEq hn (insB_ok E.ins_Web E.c_Web hbb) E.nf_Web_self ?_
    refine ⟨xn, gs', rs', rfl, w5, okg', oks', .inl ⟨xb, gs, rs, rfl, F5.w, okg, oks, lk, fun H7 e7 => ⟨⟨_, rfl⟩, ?_⟩⟩⟩
    have F7 := F5.ex e7
    walk_at "w"
    refine r_eqD (dp_ex e7 d5) F7.d (shaped_dWb ok5) (shaped_dWb wok) ?_
    rw [eqv_dWb]
    walk_at "w"
    refine ⟨_, _, rfl, rfl, ?_⟩
    rw [decide_eq_true rfl]
    walk_at "w"
    refine ⟨xn, gs', rs', rfl, ex_web e7 w5, ok5, fun t H8 e8 s8 => ?_⟩
    walk_at "w"
    refine ⟨t, gs', rs', rfl, .inr s8, ok5, fun xr H9 e9 w9 => ?_⟩
    walk_at "w"
    refine ⟨xr, gs', rs', rfl, w9, dp_ex ((e7.trans e8).trans e9) d5, ok5, fun HA eA => ?_⟩
    walk_at "w"
    exact ⟨rfl, F7.ex ((e8.trans e9).trans eA)⟩
  rintro σ' H6 ⟨rfl, F6⟩
  refine w_cut (M := fun σ' H' => σ' = [some (.ref sa), some (.ref x), some vw, some (.ref pl), some (.ref xb), some (.ref tt), u, v, some vo, some (.ref xn), none] ∧ F29 K H' x vw pl xb tt gs rs) ?_ ?_
  · obtain ⟨db, fb, hbb⟩ := web_mine F6.w
    walk_at "w"
    have tl : TyX K H6 (.ref pl) (.type "list") := SqL.ty (sq_of F6.g)
    refine r_ownEq hbb tl E.nf_Web_list ?_
    refine ⟨xb, gs, rs, rfl, F6.w, okg, oks, .inr ⟨"list", by simp, tl, fun H7 e7 => ⟨⟨_, rfl⟩, ?_⟩⟩⟩
    have F7 := F6.ex e7
    obtain ⟨aw, _, _, _, rfl, sw, _⟩ := dp_web F7.d
    have tt' : TyX K H7 (.ref aw) (.type "tuple") := SqT.ty sw
    walk_at "w"
    refine r_ownEq (e7 _ _ hbb) tt' E.nf_Web_tuple ?_
    refine ⟨xb, gs, rs, rfl, F7.w, okg, oks, .inr ⟨"tuple", by simp, tt', fun H8 e8 => ⟨⟨_, rfl⟩, ?_⟩⟩⟩
    have F8 := F7.ex e8
    walk_at "w"
    refine ⟨xb, gs, rs, rfl, F8.w, F8.d, wok, fun H9 e9 => ?_⟩
    walk_at "w"
    exact ⟨rfl, F8.ex e9⟩
  rintro σ' H7 ⟨rfl, F7⟩
  walk_at "w"
  intro pf H8 n8 e8 g8
  have F8 := F7.ex e8
  walk_at "w"
  refine ⟨pf, sG, sR, rfl, .inl (by rw [s_lin]; exact sq_of g8), s_ok, fun xr H9 e9 w9 => ?_⟩
  walk_at "w"
  refine ⟨xr, sG, sR, rfl, w9, s_ok, fun t HA eA sA => ?_⟩
  walk_at "w"
  intro pL HB nB eB gB
  have F9 := F8.ex ((e9.trans eA).trans eB)
  walk_at "w"
  refine r_eqLL (ws := linW sG sR) (sq_of gB) (by rw [s_lin]; exact sq_of (eB _ _ (eA _ _ (e9 _ _ g8)))) (low_linW s_ok) ?_
  walk_at "w"
  refine ⟨gs, rs, F9.d, wok, fun pM HC nC eC gC => ?_⟩
  refine r_eqLL (sq_of (eC _ _ F9.g)) (sq_of gC) lowL ?_
  exact k _

end
end M
namespace M
open PySem PySem.Spec PyProof.Rows L2 Evl MS
theorem facts {P : Program} {w : World} {K : PySem.W.Frag} {h : Heap} {mg : Str → Option Value} {f : Addr} (X : K.In h) (G : h.Ns mainGlobals mg) (hfa : mg ("law" : Str) = some (.ref f)) (c : SaysMT fa fn exB tabL w K) (pf : ((P.main.file : Str) == mainFile) = true ∧ (P.main.scope.names.lookup ("super" : Str)).isSome = false) :
    ∃ fd : FuncData, (∀ (s : Shared) (v : Value), BindsTo s fd ⟨[v], []⟩ [("script", v)]) ∧ ∀ base : Heap, K.In base → base.Ns mainGlobals mg → FnOk P w K mg base CX0 14 f fd ["script"] (lawSp K) := by
  have E : Env P K mg := ⟨⟨h, X, G⟩, c.m, pf⟩
  obtain ⟨fd, F⟩ := E.dd_law
  have e := hfa.symm.trans E.g_law
  cases e
  have b := FunD.bindsA (ps := ["script"]) F fun _ _ _ _ _ _ us hl => match us, hl with | [_], _ => rfl
  exact ⟨fd, fun s v => b s [v] rfl, fun base _ _ => ok_law (⟨E, tab_ok (c.tab 0) rfl E.vb_FIGURES⟩ : EnvW P w K mg) F⟩
end M
open PySem PySem.W PySem.Calls PyProof.Rows
theorem PySem.Challenge.cw_rosterneed_k29_whole_webs_read_holds : PySem.Challenge.rw_rosterneed_k29_whole_webs_read.Holds := by
  w_on; o_law
  refine HC.head_run (r := OpenLaw.row PySem.Challenge.rw_rosterneed_k29_whole_webs_read) (q := view (OpenLaw.row PySem.Challenge.rw_rosterneed_k29_whole_webs_read).prog [65]) (H := M.hk) (ob := M.ob) (M := M.HD.stepsC) (loose := M.nmL) (d := HandSHeadRun.topDef (OpenLaw.row PySem.Challenge.rw_rosterneed_k29_whole_webs_read).prog 65) (kwd := []) (S0 := M.HD.Sz) (Sk := M.HD.Sl) M.ob_eq
    (by kernel_rfl) (fun s => by kernel_rfl) M.HD.hSz M.HD.hn0 M.HD.hann M.HD.h_run M.HD.h_look (by kernel_rfl) (by kernel_rfl) (by kernel_rfl) (by rfl) (by first | assumption | decide +kernel) (by decide +kernel) ⟨rfl, rfl, rfl, rfl, rfl, by decide +kernel⟩ ?hw ?hc
  case hw => w_witness2
  case hc =>
    refine Att.attach_callB (l := PySem.Challenge.rw_rosterneed_k29_whole_webs_read) (n := 63) rfl (by kernel_rfl) fun w s₀ s₁ mg mb fa o pm cd doc a vs ns G Y ho hd hcd hmg0 hobj hints hlen hbits hg => ?_
    obtain ⟨K, KX, c⟩ := Y
    have hmg : mg ("law" : PySem.Str) = some (.ref fa) := by
      have e : (HandSHeadRun.topDef (OpenLaw.row PySem.Challenge.rw_rosterneed_k29_whole_webs_read).prog 65).name = ("law" : PySem.Str) := by kernel_rfl
      rw [← e]
      exact hmg0
    obtain ⟨fd, hb, hF⟩ := M.facts (P := (PySem.Challenge.rw_rosterneed_k29_whole_webs_read).prog) (w := w) KX G.T.g hmg c ⟨by kernel_rfl, by kernel_rfl⟩
    exact L2.law_call (CX := L2.CX0) KX G.T.g G.T.b G.T.builtins G.T.nolimit hg hobj hints (Nat.le_trans hlen (by decide)) ⟨rfl, by decide, by decide⟩ hF hb (fun H _ hS => ⟨_, rfl, a, ns, rfl, hS, hbits, hlen, fun _ => rfl⟩) fun _ _ _ z => z

